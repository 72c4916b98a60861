import PyProof.Rows.All
import Wide.All
import OpenK.AllK
import Wide.FinOn
import HandS.ForMost
import HandS.Zip
import HandS.TupMul
import HandS.Codes
import KE.GoesMore
import KE.GoesEnum
import HandS.Defaults
import HandS.IsInst
import HandS.Wide
import HandS.WideBits
import HandS.NoneIn
import HandS.Head0
import HandS.Head1
import HandS.Head2
import HandS.HeadEnd
import HandS.HeadHook1
import HandS.HeadHook2
import PySem.Challenge.RW_signedpacts_k07_combine_and_keeps
set_option Elab.async false
set_option linter.all false
set_option maxRecDepth 100000
set_option maxHeartbeats 4000000
namespace Z
open PySem PySem.Spec PyProof.Rows L2
/-! ### zip over two sequences, each a list (true) or a tuple (false) -/
def SqK (b : Bool) (K : PySem.W.Frag) (H : Hp) (a : Addr) (xs : List V) : Prop := match b with
  | true => SqL K H a xs
  | false => SqT K H a xs
def ItK (b : Bool) (h : Heap) (it l : Addr) (i : Nat) : Prop := match b with
  | true => h.IsListIter it l i
  | false => h.IsTupleIter it l i
def IsK (b : Bool) (h : Heap) (l : Addr) (xs : Array Value) : Prop := match b with
  | true => h.IsList l xs
  | false => h.IsTuple l xs
theorem ItK.at' {b : Bool} {h h' : Heap} {it l : Addr} {i : Nat} (x : ItK b h it l i) (k : ∀ o, h.get? it = some o → h'.get? it = some o) : ItK b h' it l i := by
  cases b
  · exact Heap.IsTupleIter.at x k
  · exact Heap.IsListIter.at x k
theorem ItK.obj {b : Bool} {h : Heap} {it l : Addr} {i : Nat} (x : ItK b h it l i) : ∃ o, h.get? it = some o ∧ ∀ v, o.data ≠ .cell v := by
  cases b
  · obtain ⟨o, e, _, d⟩ := (show h.IsTupleIter it l i from x)
    exact ⟨o, e, fun v q => by rw [d] at q; cases q⟩
  · obtain ⟨o, e, _, d⟩ := (show h.IsListIter it l i from x)
    exact ⟨o, e, fun v q => by rw [d] at q; cases q⟩
theorem sqk_is {X : Cx} {pins : List (Addr × Obj)} {σ : L2.St} {H : Hp} {s : Shared} {b : Bool} {a : Addr} {xs : List V} (I : Inv X pins σ H s) (h : SqK b X.K H a xs) :
    ∃ its : List Value, Vals xs its ∧ IsK b s.heap a its.toArray ∧ a < s.heap.objs.size := by
  cases b
  · obtain ⟨its, r, p, _⟩ := I.tuple h
    obtain ⟨o, ho, _⟩ := id p
    exact ⟨its, r, p, Heap.lt_size ho⟩
  · obtain ⟨its, r, p, _⟩ := I.list h
    exact ⟨its, r, p.isList, p.lt⟩
theorem sqk_inj {X : Cx} {pins : List (Addr × Obj)} {σ : L2.St} {H : Hp} {s : Shared} {b : Bool} {a : Addr} {xs ys : List V} (I : Inv X pins σ H s) (h : SqK b X.K H a xs) (h' : SqK b X.K H a ys) : xs = ys := by
  cases b
  · exact I.tuple_inj h h'
  · exact I.list_inj h h'
theorem drawsK {prog : Program} {w : World} {A : Around} (b : Bool) (hh : A.handled = none) (it l : Addr) (hne : l ≠ it) (items : Array Value) :
    Draws prog w A it [it, l] items.size (fun i v => items[i]? = some v) (fun i h => ItK b h it l i ∧ IsK b h l items) := by
  cases b
  · exact Draws.tuple hh it l hne items
  · exact Draws.list hh it l hne items
def ItzM (p q : Bool) (K : PySem.W.Frag) (a b : Addr) : It :=
  ⟨fun i H => ∃ (xs ys : List V) (x y : V), SqK p K H a xs ∧ SqK q K H b ys ∧ xs[i]? = some x ∧ ys[i]? = some y,
   fun i H v H' => ∃ T x y, v = .ref T ∧ H T = none ∧ H' = upd H T (.tup [x, y]) ∧ (∀ xs, SqK p K H a xs → xs[i]? = some x) ∧ (∀ ys, SqK q K H b ys → ys[i]? = some y),
   fun i H => ∃ xs ys : List V, SqK p K H a xs ∧ SqK q K H b ys ∧ (xs.length ≤ i ∨ ys.length ≤ i) ∧ i ≤ xs.length ∧ i ≤ ys.length⟩
theorem zsep {z TI TO i1 i2 a b : Addr} (D : ZipApart z TI TO i1 i2 a b) : ZipSep2 z TI TO i1 i2 [i1, a] [i2, b] where
  TIz := D.TIz
  TOz := D.TOz
  TITO := D.TITO
  TIi1 := D.TIi1
  mem1 := List.mem_cons_self
  zf1 := fun h => by rcases List.mem_cons.mp h with e | h; exact D.i1z e.symm; exact D.l1z (List.mem_singleton.mp h).symm
  Tf1 := fun h => by rcases List.mem_cons.mp h with e | h; exact D.TOi1 e; exact D.l1TO (List.mem_singleton.mp h).symm
  TIi2 := D.TIi2
  mem2 := List.mem_cons_self
  zf2 := fun h => by rcases List.mem_cons.mp h with e | h; exact D.i2z e.symm; exact D.l2z (List.mem_singleton.mp h).symm
  Tf2 := fun h => by rcases List.mem_cons.mp h with e | h; exact D.TOi2 e; exact D.l2TO (List.mem_singleton.mp h).symm
  sep1_2 := fun h => by rcases List.mem_cons.mp h with e | h; exact D.i12 e; exact D.l2i1 (List.mem_singleton.mp h).symm
  sep2_1 := fun h => by rcases List.mem_cons.mp h with e | h; exact D.i12 e.symm; exact D.l1i2 (List.mem_singleton.mp h).symm
theorem five {c z TI TO i1 i2 : Addr} {Pr : Addr → Prop} (hc : c ∈ [z, TI, TO, i1, i2]) (a : Pr z) (b : Pr TI) (d : Pr TO) (e : Pr i1) (f : Pr i2) : Pr c := by
  have q : c = z ∨ c = TI ∨ c = TO ∨ c = i1 ∨ c = i2 := by simpa using hc
  rcases q with rfl | rfl | rfl | rfl | rfl <;> assumption
theorem turn_zipM {p q : Bool} {P : Program} {w : World} {K : PySem.W.Frag} {elts : List Expr} {kk : Nat} {tpos : Pos} {a b z TI TO i1 i2 : Addr} (D : ZipApart z TI TO i1 i2 a b) :
    Turn P w K (.Tuple elts kk tpos) (ItzM p q K a b) [z, TI, TO, i1, i2] z (fun i h => IsZip h z TI TO .none ∧ IsTupOf2 h TI (.ref i1) (.ref i2) ∧ (∃ x y, IsTupOf2 h TO x y) ∧ ItK p h i1 a i ∧ ItK q h i2 b i) where
  mem := by simp
  obj := fun i h st c hc => by
    obtain ⟨hz, hI, ⟨x, y, hO⟩, h1, h2⟩ := st
    exact five (Pr := fun c => ∃ o, h.get? c = some o ∧ ∀ v, o.data ≠ .cell v) hc ⟨_, hz, fun v q => nomatch q⟩ ⟨_, hI, fun v q => nomatch q⟩ ⟨_, hO, fun v q => nomatch q⟩ h1.obj h2.obj
  keep := fun i h h' st k => by
    obtain ⟨hz, hI, ⟨x, y, hO⟩, h1, h2⟩ := st
    exact ⟨k z (by simp) _ hz, k TI (by simp) _ hI, ⟨x, y, k TO (by simp) _ hO⟩, h1.at' (fun o e => k i1 (by simp) o e), h2.at' (fun o e => k i2 (by simp) o e)⟩
  item := by
    intro X hP hw hK hc i pins s σ H E I hf st hg
    subst hP hw hK
    obtain ⟨hz, hI, ⟨x0, y0, hO⟩, h1, h2⟩ := st
    obtain ⟨xs, ys, x, y, qx, qy, ex, ey⟩ := hg
    obtain ⟨us, rx, kx, _⟩ := sqk_is I qx
    obtain ⟨vs, ry, ky, _⟩ := sqk_is I qy
    obtain ⟨u, eu, ru⟩ := rx.get ex
    obtain ⟨v, ev, rv⟩ := ry.get ey
    have hzl : z < s.heap.objs.size := Heap.lt_size hz
    have lu : i < us.toArray.size := by simpa using (List.getElem?_eq_some_iff.mp eu).1
    have lv : i < vs.toArray.size := by simpa using (List.getElem?_eq_some_iff.mp ev).1
    have hh : X.A.in1.handled = none := I.ok.hd hc
    refine wpAny_pyNext_zipD2_item (zsep D) (drawsK p hh i1 a D.l1i1 us.toArray) (drawsK q hh i2 b D.l2i2 vs.toArray) hz hI hO ⟨h1, kx⟩ ⟨h2, ky⟩ lu lv fun m1 m2 g tk p1 p2 gz gO g1 g2 gT gs gk => ?_
    have e1 : m1 = u := by
      have t1 : us.toArray[i]? = some u := by simpa using eu
      exact Option.some.inj (p1.symm.trans t1)
    have e2 : m2 = v := by
      have t1 : vs.toArray[i]? = some v := by simpa using ev
      exact Option.some.inj (p2.symm.trans t1)
    subst e1 e2
    refine ⟨_, rfl, wpAny_letOwnedTupleGo_zip (s := { s with heap := g, toks := tk }) gz fun g' gz' sb => ?_⟩
    have gT' : g'.get? s.heap.objs.size = some { cls := .type "tuple", data := .seq #[m1, m2] } := (sb.2 _ (Nat.ne_of_gt hzl)).trans gT
    have nw : ObjOk X.prog X.w (upd H s.heap.objs.size (.tup [x, y])) g' s.heap.objs.size (.tup [x, y]) := ⟨by show 2 ≤ sizeLine; decide, [m1, m2], .cons ru (.cons rv .nil), ⟨_, gT', rfl, _, rfl⟩⟩
    have I1 : Inv X pins σ (upd H s.heap.objs.size (.tup [x, y])) { s with heap := g', toks := tk } :=
      I.turnedNew (t' := tk) (ch := [z, TI, TO, i1, i2]) (fun c o nb e => (sb.2 c (fun w => nb (by simp [w]))).trans (gk c o (fun w => nb (by simp [w])) (fun w => nb (by simp [w])) (fun w => nb (by simp [w])) (fun w => nb (by simp [w])) e)) hf (Nat.le_refl _) nw
    refine ⟨.ref s.heap.objs.size, _, I1, rfl, ⟨_, x, y, rfl, I.hok.fresh (Nat.le_refl _), rfl, fun l hl => by rw [sqk_inj I hl qx]; exact ex, fun l hl => by rw [sqk_inj I hl qy]; exact ey⟩, ⟨gz', ?_, ⟨m1, m2, ?_⟩, ?_, ?_⟩, fun c hcm => ?_⟩
    · exact (sb.2 _ D.TIz).trans (gk _ _ D.TIz D.TITO D.TIi1 D.TIi2 hI)
    · exact (sb.2 _ D.TOz).trans gO
    · exact ItK.at' g1.1 (fun o e => (sb.2 _ D.i1z).trans e)
    · exact ItK.at' g2.1 (fun o e => (sb.2 _ D.i2z).trans e)
    · have lt : c < s.heap.objs.size := by
        obtain ⟨o1, q1, _⟩ := h1.obj
        obtain ⟨o2, q2, _⟩ := h2.obj
        exact five (Pr := fun c => c < s.heap.objs.size) hcm hzl (Heap.lt_size hI) (Heap.lt_size hO) (Heap.lt_size q1) (Heap.lt_size q2)
      rw [upd_ne (Nat.ne_of_lt lt)]
      exact (hf c hcm).1
  done := by
    intro X hP hw hK hc i pins s σ H E I hf st hg
    subst hP hw hK
    obtain ⟨hz, hI, ⟨x0, y0, hO⟩, h1, h2⟩ := st
    obtain ⟨xs, ys, qx, qy, hend, le1, le2⟩ := hg
    obtain ⟨us, rx, kx, _⟩ := sqk_is I qx
    obtain ⟨vs, ry, ky, _⟩ := sqk_is I qy
    have l1 := rx.length
    have l2 := ry.length
    have n1 : us.toArray.size = us.length := by simp
    have n2 : vs.toArray.size = vs.length := by simp
    have hh : X.A.in1.handled = none := I.ok.hd hc
    refine wpAny_pyNext_zipD2_end (i := i) (zsep D) (drawsK p hh i1 a D.l1i1 us.toArray) (drawsK q hh i2 b D.l2i2 vs.toArray) hz hI hO ⟨h1, kx⟩ ⟨h2, ky⟩ (by omega) (by omega) (by omega) fun g tk gk => ?_
    exact ⟨rfl, I.turnedL (t' := tk) (ch := [z, TI, TO, i1, i2]) (fun c o nb e => gk c o (fun w => nb (by simp [w])) (fun w => nb (by simp [w])) (fun w => nb (by simp [w])) (fun w => nb (by simp [w])) e) hf⟩
  self := fun A i s Q E st h => wpAny_pyIter_zip st.1 h
def iZipM (K : PySem.W.Frag) (ta : TA) : TI := fun σ H R => ta σ H fun vs H1 => ∃ p q a b xs ys, vs = [.ref a, .ref b] ∧ SqK p K H1 a xs ∧ SqK q K H1 b ys ∧ R (ItzM p q K a b) H1
theorem begK {p : Bool} {h : Heap} {a : Addr} {xs : Array Value} (k : IsK p h a xs) : ∃ o Hp', Begins (.ref a) o Hp' ∧ Hp' h ∧ ∀ h' it, h'.get? it = some o → ItK p h' it a 0 := by
  cases p
  · exact ⟨_, _, begins_tuple a xs, k, fun h' it e => ⟨_, e, rfl, rfl⟩⟩
  · exact ⟨_, _, begins_list a xs, k, fun h' it e => ⟨_, e, rfl, rfl⟩⟩
theorem pi_zipM {X : Cx} {e e2 : Expr} {ta : TA} {p pos tpos : Pos} {elts : List Expr} {kk : Nat} (hg : Gl X "zip") (hm : X.mg "zip" = none) (ha : PA X [e, e2] ta)
    (hs : starEach [e, e2] X.env = (false, eval e X.env) :: starEach [e2] X.env := by rfl) (hpl : (backTo pos (starEach [e2] X.env)).any (·.1) = false := by rfl) :
    PI X (.Tuple elts kk tpos) (.Call (.Name "zip" p) [e, e2] [] pos) (iZipM X.K ta) := by
  constructor
  intro pins s σ H R I h
  refine Call_ (ld_blt I hg hm PyProof.Rows.boot_zip (PyProof.Rows.callWith_type1 (thn (ha.run pos pins s σ H _ I h) fun us s1 ⟨vs, H1, I1, r1, q1⟩ => ?_) hs hpl))
  obtain ⟨k1, k2, a, b, xs, ys, ex, qx, qy, q⟩ := q1
  subst ex
  obtain ⟨u, v, rfl, ru, rv⟩ := Vals.two r1
  cases ru
  cases rv
  obtain ⟨i1, _, p1, lt1⟩ := sqk_is I1 qx
  obtain ⟨i2, _, p2, lt2⟩ := sqk_is I1 qy
  obtain ⟨o1, G1, B1, g1, w1⟩ := begK p1
  obtain ⟨o2, G2, B2, g2, w2⟩ := begK p2
  refine zip_begins2 B1 B2 g1 g2 fun h' hz hI hO e1 e2 hsz hk => wpAny_pyIter_zip hz ?_
  have I2 : Inv X pins σ H1 { s1 with heap := h' } := I1.kept (t' := s1.toks) hk
  refine ⟨s1.heap.objs.size + 4, [s1.heap.objs.size + 4, s1.heap.objs.size + 2, s1.heap.objs.size + 3, s1.heap.objs.size, s1.heap.objs.size + 1], _, _, H1, rfl, I2, turn_zipM (PySem.W.ktu_apart s1.heap.objs.size a b lt1 lt2), ⟨hz, hI, ⟨_, _, hO⟩, w1 _ _ e1, w2 _ _ e2⟩, fun c hcm => ?_, q⟩
  have hle : s1.heap.objs.size ≤ c := five (Pr := fun c => s1.heap.objs.size ≤ c) hcm (Nat.le_add_right _ _) (Nat.le_add_right _ _) (Nat.le_add_right _ _) (Nat.le_refl _) (Nat.le_add_right _ _)
  exact I1.fpOk hle (I1.hok.fresh hle)
end Z
set_option Elab.async false
set_option linter.all false
set_option maxRecDepth 100000
set_option maxHeartbeats 4000000
namespace Z
open PySem PySem.Spec PyProof.Rows L2
/-! ### (v,) * k for 0 ≤ k -/
theorem tmul0 (l : Addr) (v : Value) (n : Nat) (dd : Option Addr) (sl : Array (Option Value)) (u : Tok) :
    Meets (Builtin.«tuple.__mul__» ⟨[.ref l, .int 0 u], []⟩) (fun _ R s => s.heap.get? l = some { cls := .type "tuple", dict := dd, data := .seq #[v] n, slots := sl } ∧
      R (.ok (.ret (Value.ref s.heap.objs.size))) { s with heap := s.heap.push { cls := Value.type "tuple", data := Data.seq #[] }, toks := s.toks }) :=
  .of_wp fun prog w A R s h => by
    obtain ⟨hp, g, d, tk, os⟩ := s
    obtain ⟨hl, h⟩ := h
    have f1 := AutoSeq1.idx_int
    wp_walk using AutoSeq1.wpAny_loadPart' hl
    exact ⟨_, rfl, h⟩
theorem tmul1 (l : Addr) (items : Array Value) (n : Nat) (dd : Option Addr) (sl : Array (Option Value)) (u : Tok) :
    Meets (Builtin.«tuple.__mul__» ⟨[.ref l, .int 1 u], []⟩) (fun _ R s => s.heap.get? l = some { cls := .type "tuple", dict := dd, data := .seq items n, slots := sl } ∧ R (.ok (.ret (Value.ref l))) s) :=
  .of_wp fun prog w A R s h => by
    obtain ⟨hp, g, d, tk, os⟩ := s
    obtain ⟨hl, h⟩ := h
    have f1 := AutoSeq1.idx_int
    wp_walk using AutoSeq1.wpAny_loadPart' hl
    exact ⟨_, rfl, h⟩
theorem same_new {H : Hp} {p : Addr} {o : HO} (h : H p = none) : Same H (upd H p o) := fun b x e => by
  rw [upd_ne (ne_of_none e h)]
  exact e
def rRepU : R2 := fun x y H Q => ∃ l k v, x = .ref l ∧ y = .int k ∧ H l = some (.tup [v]) ∧ 0 ≤ k ∧ k ≤ 1000 ∧ ∀ p H', Same H H' → H' p = some (.tup (List.replicate k.toNat v)) → Q (.ref p) H'
theorem op_repU {X : Cx} : OpR X (binaryOp .Mult) rRepU := by
  intro pins s σ H x y vv uu Q I rx ry h
  obtain ⟨l, k, v, rfl, rfl, hT, h0, h1, q⟩ := id h
  by_cases k2 : 2 ≤ k
  · refine op_repT pins s σ H _ _ vv uu Q I rx ry ⟨l, k, [v], rfl, rfl, .inl (.inl hT), by simp, k2, h1, by simp, fun p np => q p _ (same_new np) ?_⟩
    rw [upd_same]
    congr 2
    generalize k.toNat = m
    induction m with
    | zero => rfl
    | succ m ih => rw [List.replicate_succ, List.flatten_cons, ih, List.replicate_succ]; rfl
  · cases rx
    obtain ⟨t, rfl⟩ := ry
    obtain ⟨its, r, ⟨⟨cls, dd, data, sl⟩, ho, hc, n, hd⟩, hs⟩ := I.tuple (.inl (.inl hT) : SqT X.K H l [v])
    simp only at hc hd
    subst hc hd
    obtain ⟨u, rfl, ru⟩ := Vals.one r
    by_cases k1 : k = 1
    · subst k1
      refine wpAny_binaryOp_repeat_ref (T := "tuple") (U := "int") (by decide) ⟨_, ho, rfl⟩ (fun s' => typeIs_int s' 1 t) noFill_tuple_mul F.fills_int_mul F.slot_int_rmul repeat_tuple F.slot_int_index.lookup
        (call_meets F.slot_int_rmul (typeIs_int s 1 t) F.entry_int_rmul (F.args_int_rmul_2 _ _) (int_rmul_tuple 1 t l [u].toArray n dd sl)
          ⟨ho, rfl, ⟨_, ho, rfl⟩, call_meets F.slot_tuple_mul ⟨_, ho, rfl⟩ F.entry_tuple_mul (F.args_tuple_mul_2 _ _) (tmul1 l [u].toArray n dd sl t) ⟨ho, ?_⟩⟩)
      exact ⟨.ref l, H, I, rfl, q l H (Same.refl H) hT⟩
    · have k0 : k = 0 := by omega
      subst k0
      refine wpAny_binaryOp_repeat_ref (T := "tuple") (U := "int") (by decide) ⟨_, ho, rfl⟩ (fun s' => typeIs_int s' 0 t) noFill_tuple_mul F.fills_int_mul F.slot_int_rmul repeat_tuple F.slot_int_index.lookup
        (call_meets F.slot_int_rmul (typeIs_int s 0 t) F.entry_int_rmul (F.args_int_rmul_2 _ _) (int_rmul_tuple 0 t l [u].toArray n dd sl)
          ⟨ho, rfl, ⟨_, ho, rfl⟩, call_meets F.slot_tuple_mul ⟨_, ho, rfl⟩ F.entry_tuple_mul (F.args_tuple_mul_2 _ _) (tmul0 l u n dd sl t) ⟨ho, ?_⟩⟩)
      refine ⟨.ref s.heap.objs.size, _, I.laid (t' := s.toks) (o := .tup []) (fun b ob z => Heap.get?_push_of_some _ z) (Nat.le_refl _) ?_, rfl, q _ _ (same_new (I.hok.fresh (Nat.le_refl _))) upd_same⟩
      exact ⟨Nat.zero_le _, [], .nil, IsTup.new _ _⟩
/-! ### loops and comprehensions over any iterator -/
def forW (J : It) (g : TG) (tb : TS) (D : Ends) (σ : L2.St) (H : Hp) : Prop := ∃ W : Nat → Nat → L2.St → Hp → Prop, (∃ m, W 0 m σ H) ∧ ∀ i m σ H, W i m σ H →
  (J.stop i H ∧ D.nx σ H) ∨ (J.go i H ∧ ∃ N : L2.St → Hp → Prop, (∀ σ' H', N σ' H' → ∃ m', m' < m ∧ W (i + 1) m' σ' H') ∧ ∀ x H', J.yld i H x H' → g x σ H' fun σ2 H2 => tb { D with nx := N, ct := N, bk := D.nx } σ2 H2)
theorem for_gen {J : It} {n : Nat} {g : TG} {tb : TS} {D : Ends} {σ : L2.St} {H : Hp} (Pv : Nat → L2.St → Hp → Prop) (h0 : Pv 0 σ H) (hgo : ∀ i σ H, i < n → Pv i σ H → J.go i H) (hst : ∀ σ H, Pv n σ H → J.stop n H)
    (hs : ∀ i σ H x H', i < n → Pv i σ H → J.yld i H x H' → g x σ H' fun σ2 H2 => tb { D with nx := Pv (i + 1), ct := Pv (i + 1), bk := D.nx } σ2 H2) (hd : ∀ σ H, Pv n σ H → D.nx σ H) : forW J g tb D σ H := by
  refine ⟨fun i m σ H => m = n - i ∧ i ≤ n ∧ Pv i σ H, ⟨n, by omega, Nat.zero_le _, h0⟩, fun i m σ H w => ?_⟩
  obtain ⟨rfl, hi, p⟩ := w
  by_cases hlt : i < n
  · exact .inr ⟨hgo i σ H hlt p, Pv (i + 1), fun σ' H' z => ⟨n - (i + 1), by omega, rfl, hlt, z⟩, fun x H' y => hs i σ H x H' hlt p y⟩
  · have e : i = n := by omega
    subst e
    exact .inl ⟨hst σ H p, hd σ H p⟩
def lcW (J : It) (g : TG) (tt : TT) (te : TE) (vs : List Nat) (σ : L2.St) (D : Addr) (Qd : Hp → Prop) (H1 : Hp) : Prop := ∃ W : Nat → Nat → Hp → Prop, (∃ m, W 0 m (upd H1 D (.lst []))) ∧ ∀ i m H, W i m H →
  (J.stop i H ∧ Qd H) ∨ (J.go i H ∧ ∃ Nx : Hp → Prop, (∀ H', Nx H' → ∃ m', m' < m ∧ W (i + 1) m' H') ∧ ∀ x H', J.yld i H x H' → g x (wipe σ vs) H' fun σ2 H2 => wipe σ2 vs = wipe σ vs ∧ tt σ2 H2 fun b H3 =>
    if b = true then te σ2 H3 fun y H4 => ∃ acc, H4 D = some (.lst acc) ∧ acc.length < sizeLine ∧ Nx (upd H4 D (.lst (acc ++ [y]))) else Nx H3)
theorem lc_gen {J : It} {n : Nat} {g : TG} {tt : TT} {te : TE} {vs : List Nat} {σ : L2.St} {H1 : Hp} {D : Addr} {Qd : Hp → Prop} (Pv : Nat → Hp → Prop) (h0 : Pv 0 (upd H1 D (.lst []))) (hgo : ∀ i H, i < n → Pv i H → J.go i H) (hst : ∀ H, Pv n H → J.stop n H)
    (hs : ∀ i H x H', i < n → Pv i H → J.yld i H x H' → g x (wipe σ vs) H' fun σ2 H2 => wipe σ2 vs = wipe σ vs ∧ tt σ2 H2 fun b H3 =>
      if b = true then te σ2 H3 fun y H4 => ∃ acc, H4 D = some (.lst acc) ∧ acc.length < sizeLine ∧ Pv (i + 1) (upd H4 D (.lst (acc ++ [y]))) else Pv (i + 1) H3) (hd : ∀ H, Pv n H → Qd H) : lcW J g tt te vs σ D Qd H1 := by
  refine ⟨fun i m H => m = n - i ∧ i ≤ n ∧ Pv i H, ⟨n, by omega, Nat.zero_le _, h0⟩, fun i m H w => ?_⟩
  obtain ⟨rfl, hi, p⟩ := w
  by_cases hlt : i < n
  · exact .inr ⟨hgo i H hlt p, Pv (i + 1), fun H' z => ⟨n - (i + 1), by omega, rfl, hlt, z⟩, fun x H' y => hs i H x H' hlt p y⟩
  · have e : i = n := by omega
    subst e
    exact .inl ⟨hst H p, hd H p⟩
/-! ### a def of the module that may be called by its name -/
structure Cal (P : Program) (w : World) (K : PySem.W.Frag) (mg : Str → Option Value) (base : Heap) (k : Nat) (x : Str) (sp : Sp) : Prop where
  ex : ∃ (f : Addr) (fd : FuncData) (ps : List Str), FnOk P w K mg base CX0 k f fd ps sp ∧ mg x = some (.ref f) ∧ PySem.W.keepIn K (.ref f) = true ∧ Binds K fd ps []
section
variable {X : Cx} {k j : Nat} {x : Str} {sp : Sp} {p pos : Pos} {e : Expr} {es : List Expr} {t : TA}
theorem pe_cl (c : Cal X.prog X.w X.K X.mg X.base k x sp) (hr : Room j X.A) (hk : k ≤ j) (hg : Gl X x) (ha : PA X (e :: es) t)
    (hdb : (x == ("__debug__" : Str)) = false := by decide) (he : starEach (e :: es) X.env = (false, eval e X.env) :: starEach es X.env := by rfl) (hpl : (backTo pos (starEach es X.env)).any (·.1) = false := by rfl) : PE X (.Call (.Name x p) (e :: es) [] pos) (tCall sp [] E0 t) := by
  obtain ⟨f, fd, ps, F, hm, kp, b⟩ := c.ex
  exact pe_call F (hr.mono hk) hg hm kp b .nil pass0 ha hdb he hpl
end
structure CalK (P : Program) (w : World) (K : PySem.W.Frag) (mg : Str → Option Value) (base : Heap) (k : Nat) (x : Str) (n : Nat) (ks : List Str) (gV : List V → List V → List V) (sp : Sp) : Prop where
  ex : ∃ (f : Addr) (fd : FuncData) (ps : List Str) (g : List Value → List Value → List Value), FnOk P w K mg base CX0 k f fd ps sp ∧ mg x = some (.ref f) ∧ PySem.W.keepIn K (.ref f) = true ∧ KBn K fd ps n ks g gV
section
variable {X : Cx} {k j n : Nat} {x : Str} {sp : Sp} {ks : List Str} {gV : List V → List V → List V} {p pos : Pos} {e : Expr} {es : List Expr} {kws : List Keyword} {t tk : TA}
theorem pe_clK (c : CalK X.prog X.w X.K X.mg X.base k x n ks gV sp) (hr : Room j X.A) (hk : k ≤ j) (hg : Gl X x) (ha : PA X (e :: es) t) (hkw : PK X kws tk)
    (hall : (backToKw pos (keywordEach kws X.env)).all (·.1.isSome) = true := by rfl) (hks : (backToKw pos (keywordEach kws X.env)).filterMap (·.1) = ks := by rfl) (hdb : (x == ("__debug__" : Str)) = false := by decide)
    (he : starEach (e :: es) X.env = (false, eval e X.env) :: starEach es X.env := by rfl) (hpl : ((backTo pos (starEach (e :: es) X.env)).any (·.1) || (backToKw pos (keywordEach kws X.env)).any (·.1.isNone)) = false := by rfl) :
    PE X (.Call (.Name x p) (e :: es) kws pos) (tCallN n ks.length sp gV E0 t tk) := by
  obtain ⟨f, fd, ps, g, F, hm, kp, b⟩ := c.ex
  exact pe_callN F (hr.mono hk) hg hm kp b pass0 ha hkw hall hks hdb he hpl
end
/-! ### heaps -/
/-- all but p stands -/
def SB (p : Addr) (H H' : Hp) : Prop := ∀ b o, b ≠ p → H b = some o → H' b = some o
theorem Same.sb {p : Addr} {H H' : Hp} (s : Same H H') : SB p H H' := fun b o _ h => s b o h
theorem SB.trans {p : Addr} {H H1 H2 : Hp} (a : SB p H H1) (b : SB p H1 H2) : SB p H H2 := fun c o n h => b c o n (a c o n h)
theorem SB.upd {p : Addr} {H H' : Hp} {o : HO} (s : SB p H H') : SB p H (upd H' p o) := fun b u n h => by
  rw [upd_ne n]
  exact s b u n h
theorem SB.same {p : Addr} {H H' : Hp} (s : SB p H H') (n : H p = none) : Same H H' := fun b o h => s b o (ne_of_none h n) h
theorem Same.mut {p : Addr} {H H' : Hp} {o : HO} (s : Same H H') (n : H p = none) : Same H (L2.upd H' p o) := fun b u h => by
  rw [upd_ne (ne_of_none h n)]
  exact s b u h
theorem SB.sq {K : PySem.W.Frag} {p a : Addr} {H H' : Hp} {xs : List V} (s : SB p H H') (n : a ≠ p) (h : SqL K H a xs) : SqL K H' a xs := by
  rcases h with (h | ⟨o, h⟩) | h
  · exact .inl (.inl (s _ _ n h))
  · exact .inl (.inr ⟨o, s _ _ n h⟩)
  · exact .inr h
theorem Same.sqT {K : PySem.W.Frag} {a : Addr} {H H' : Hp} {xs : List V} (s : Same H H') (h : SqT K H a xs) : SqT K H' a xs := by
  rcases h with (h | ⟨o, h⟩) | h
  · exact .inl (.inl (s _ _ h))
  · exact .inl (.inr ⟨o, s _ _ h⟩)
  · exact .inr h
theorem Same.sqK {b : Bool} {K : PySem.W.Frag} {a : Addr} {H H' : Hp} {xs : List V} (s : Same H H') (h : SqK b K H a xs) : SqK b K H' a xs := by
  cases b
  · exact Z.Same.sqT s h
  · exact s.seq h
theorem at_map {α : Type} {f : α → V} {xs : List α} {i : Nat} {x : α} (h : xs[i]? = some x) : atI (xs.map f) (i : Int) = some (f x) := atI_nat (by rw [List.getElem?_map, h]; rfl)
theorem of_map {α : Type} {f : α → V} {xs : List α} {i : Nat} {v : V} (h : (xs.map f)[i]? = some v) : ∃ x, xs[i]? = some x ∧ v = f x := by
  rw [List.getElem?_map] at h
  cases e : xs[i]? with
  | none => rw [e] at h; cases h
  | some x => rw [e] at h; exact ⟨x, rfl, (Option.some.inj h).symm⟩
end Z
set_option Elab.async false
set_option linter.all false
set_option maxRecDepth 100000
set_option maxHeartbeats 4000000
namespace Z
open PySem PySem.Spec PyProof.Rows L2
open C8 (pss_cut tCut)
local macro_rules | `(tactic| walk_at "num") => `(tactic| first | omega | decide | exact ⟨by omega, by omega⟩ | exact ⟨by omega, by omega, by omega⟩ | exact ⟨by decide, by decide, by decide⟩ | exact Or.inl ⟨by omega, by omega⟩ | exact Or.inr ⟨by omega, by omega⟩)
local macro_rules | `(tactic| walk_at "go") => `(tactic| repeat (first | refine ⟨_, rfl, ?_⟩ | refine ⟨_, _, rfl, rfl, ?_⟩ | refine ⟨_, _, rfl, rfl, (by walk_at "num"), ?_⟩ | refine Or.inl ⟨_, rfl, ?_⟩ | refine ⟨rfl, ?_⟩ | refine And.intro (by walk_at "num") ?_))
def topS (i : Nat) : Stmt := PySem.Challenge.pw_signedpacts_k07_combine_and_keeps.main.body.getD i (.Pass ⟨0, 0, 0, 0⟩)
abbrev s_cell : Stmt := topS 7
abbrev N_cell : List Str := ["_law_script", "_law_k"]
abbrev P_cell : List Str := ["_law_script", "_law_k"]
theorem sc_cell : FnScope N_cell P_cell (defScope s_cell) := ⟨rfl, rfl, rfl, by decide +kernel, rfl, by decide +kernel, by decide +kernel⟩
abbrev s_draws : Stmt := topS 8
abbrev N_draws : List Str := ["_law_cell_here", "_law_many", "_law_rest", "_law_large", "_law_seed", "_law_found", "_law_k"]
abbrev P_draws : List Str := ["_law_cell_here", "_law_many"]
theorem sc_draws : FnScope N_draws P_draws (defScope s_draws) := ⟨rfl, rfl, rfl, by decide +kernel, rfl, by decide +kernel, by decide +kernel⟩
abbrev s_take : Stmt := topS 9
abbrev N_take : List Str := ["_law_draws_here", "_law_place"]
abbrev P_take : List Str := ["_law_draws_here", "_law_place"]
theorem sc_take : FnScope N_take P_take (defScope s_take) := ⟨rfl, rfl, rfl, by decide +kernel, rfl, by decide +kernel, by decide +kernel⟩
abbrev FnP (K : PySem.W.Frag) (x : Str) (st : Stmt) (f : Addr) (fd : FuncData) : Prop := FunD K x x (defArgs st) (defBody st) (defScope st) [] [] f fd
section
variable {P : Program} {w : World} {K : PySem.W.Frag} {mg : Str → Option Value} {base : Heap} {f : Addr} {fd : FuncData}
theorem cal_of {k : Nat} {x : Str} {st : Stmt} {ps : List Str} {sp : Sp} (F : FnP K x st f fd) (g : mg x = some (.ref f)) (b : Binds K fd ps []) (h : FnOk P w K mg base CX0 k f fd ps sp) : Cal P w K mg base k x sp := ⟨f, fd, ps, h, g, F.kp, b⟩
/-! ### _law_cell -/
def spCell (K : PySem.W.Frag) : Sp := fun vs H Q _ => ∃ (a : Addr) (ns : List Int) (k : Nat), vs = [.ref a, .int (k : Int)] ∧ SqL K H a (ns.map V.int) ∧ Q (.int (ns.getD k 0)) H
theorem ok_cell (F : FnP K "_law_cell" s_cell f fd) (m_len : mg "len" = none) (m_int : mg "int" = none) : FnOk P w K mg base CX0 1 f fd P_cell (spCell K) := by
  refine F.ok sc_cell (fun vs H Q E h => ?_) (fun cdv A outer s H vs Q E hr h => ?_)
  · obtain ⟨a, ns, k, rfl, _⟩ := h
    rfl
  · obtain ⟨a, ns, k, rfl, hS, q⟩ := h
    refine ⟨_, PSs.nox (pss_cons (ps_if (pt_cmpR op_lt (pv 1) (pe_callB call_len_seq (by rfl) m_len PySem.boot_len (pa_cons (pv 0) pa_nil)) (nomark _)) (pss_one (ps_ret (pe_callTy call_int1 (by rfl) m_int (by decide +kernel) (pa_cons (pe_ix ix_list (pv 0) (pv 1) (fun _ _ => rfl)) pa_nil)))) pss_nil)
      (pss_one (ps_ret pe_int))), ?_⟩
    walk_at "go"
    refine ⟨a, _, rfl, .inl hS, ?_⟩
    walk_at "go"
    rw [List.length_map]
    refine ite2 (fun e => ?_) (fun e => ?_)
    · have hk : k < ns.length := by have := of_decide_eq_true e; omega
      walk_at "go"
      refine ⟨a, _, _, _, rfl, rfl, hS, at_map (List.getElem?_eq_getElem hk), ?_⟩
      walk_at "go"
      rw [List.getD_eq_getElem?_getD, List.getElem?_eq_getElem hk] at q
      exact q
    · have hk : ¬ k < ns.length := fun z => e (decide_eq_true (by omega))
      rw [List.getD_eq_getElem?_getD, List.getElem?_eq_none (by omega)] at q
      exact q
/-! ### _law_draws -/
def Dr (n : Nat) (ds : List Int) : Prop := ds.length = n ∧ ∀ d ∈ ds, 0 ≤ d ∧ d < 1000000
def spDraws : Sp := fun vs H Q _ => ∃ (c : Int) (n : Nat), vs = [.int c, .int (n : Int)] ∧ n ≤ 100000 ∧ ∀ p ds, H p = none → Dr n ds → Q (.ref p) (upd H p (.lst (ds.map V.int)))
theorem ok_draws (F : FnP K "_law_draws" s_draws f fd) (m_int : mg "int" = none) (m_abs : mg "abs" = none) (m_range : mg "range" = none) : FnOk P w K mg base CX0 1 f fd P_draws spDraws := by
  refine F.ok sc_draws (fun vs H Q E h => ?_) (fun cdv A outer s H vs Q E hr h => ?_)
  · obtain ⟨c, n, rfl, _⟩ := h
    rfl
  · obtain ⟨c, n, rfl, hn, q⟩ := h
    refine ⟨_, PSs.nox (pss_cons (ps_set (i := 2) sc_draws.nd rfl (by first | exact .inl rfl | exact .inr rfl) (pe_callB call_abs (by rfl) m_abs (by decide +kernel) (pa_cons (pe_callTy call_int1 (by rfl) m_int (by decide +kernel) (pa_cons (pv 0) pa_nil)) pa_nil)))
      (pss_cons (ps_set (i := 3) sc_draws.nd rfl (by first | exact .inl rfl | exact .inr rfl) (pe_cmpR op_ge (pv 2) (pe_op op_pow pe_int pe_int) (nomark _)))
      (pss_cons (ps_set (i := 4) sc_draws.nd rfl (by first | exact .inl rfl | exact .inr rfl) (pe_op op_mod (pe_callTy call_int1 (by rfl) m_int (by decide +kernel) (pa_cons (pv 2) pa_nil)) pe_int))
      (pss_cons (ps_set (i := 5) sc_draws.nd rfl (by first | exact .inl rfl | exact .inr rfl) (pe_lst pa_nil))
      (pss_cons (ps_for PassesOwn.never rfl (pi_range1 (by rfl) m_range (pa_cons (pv 1) pa_nil)) (pg_name (i := 6) sc_draws.nd rfl (by first | exact .inl rfl | exact .inr rfl))
        (pss_cons (ps_set (i := 4) sc_draws.nd rfl (by first | exact .inl rfl | exact .inr rfl) (pe_op op_mod (pe_callTy call_int1 (by rfl) m_int (by decide +kernel) (pa_cons (pe_op op_add (pe_op op_add (pe_op op_mul (pv 4) pe_int) (pe_op op_mul pe_int (pv 6))) pe_int) pa_nil)) pe_int))
      (pss_one (ps_if (PW.pt (pw_and (pt_val (pv 3)) (pw_and1 (pt_cmpR op_gt (pv 2) pe_int (nomark _))))) (pss_cons (ps_expr (pe_bm PySem.F.plainAttrs_list PySem.F.slot_list_append PySem.F.type_list_append mt_append (pv 5) (pa_cons (pe_op op_mod (pe_callTy call_int1 (by rfl) m_int (by decide +kernel) (pa_cons (pv 2) pa_nil)) pe_int) pa_nil)))
      (pss_one (ps_set (i := 2) sc_draws.nd rfl (by first | exact .inl rfl | exact .inr rfl) (pe_op op_fdiv (pv 2) pe_int)))) (pss_one (ps_expr (pe_bm PySem.F.plainAttrs_list PySem.F.slot_list_append PySem.F.type_list_append mt_append (pv 5) (pa_cons (pe_op op_mod (pe_callTy call_int1 (by rfl) m_int (by decide +kernel) (pa_cons (pe_op op_fdiv (pe_op op_mod (pe_callTy call_int1 (by rfl) m_int (by decide +kernel) (pa_cons (pe_op op_add (pe_op op_mul (pv 4) pe_int) (pe_op op_mul pe_int (pv 6))) pa_nil)) pe_int) pe_int) pa_nil)) pe_int) pa_nil))))))))
      (pss_one (ps_ret (pv 5)))))))), ?_⟩
    walk_at "go"
    intro p np
    walk_at "go"
    refine for_gen (n := n) (fun i σ H1 => ∃ (r : Int) (z : Int) (ds : List Int) (v : Option V), 0 ≤ r ∧ 0 ≤ z ∧ z < 2147483647 ∧ Dr i ds ∧ H1 = upd H p (.lst (ds.map V.int)) ∧
      σ = [some (.int c), some (.int (n : Int)), some (.int r), some (.bl (decide ((10 : Int) ^ 18 ≤ (if c < 0 then -c else c)))), some (.int z), some (.ref p), v]) ?_ ?_ ?_ ?_ ?_
    · refine ⟨_, _, [], none, ?_, ?_, ?_, ⟨rfl, fun d hd => nomatch hd⟩, rfl, rfl⟩
      · split <;> omega
      · omega
      · omega
    · intro i σ H1 hi _
      show i < (n : Int).toNat
      omega
    · intro σ H1 _
      show (n : Int).toNat ≤ n
      omega
    · rintro i σ H1 x H' hi ⟨r, z, ds, v, hr0, hz0, hz1, hd, rfl, rfl⟩ ⟨rfl, rfl⟩
      have hlen : (ds.map V.int).length < sizeLine := by
        rw [List.length_map, hd.1]
        exact Nat.lt_of_lt_of_le hi (Nat.le_trans hn (by decide))
      have fin : ∀ (r' z' d : Int) (u : Option V), 0 ≤ r' → 0 ≤ z' → z' < 2147483647 → 0 ≤ d → d < 1000000 → ∃ (r : Int) (z : Int) (es : List Int) (v : Option V), 0 ≤ r ∧ 0 ≤ z ∧ z < 2147483647 ∧ Dr (i + 1) es ∧ upd (upd H p (.lst (ds.map V.int))) p (.lst (ds.map V.int ++ [.int d])) = upd H p (.lst (es.map V.int)) ∧
          [some (.int c), some (.int (n : Int)), some (.int r'), some (.bl (decide ((10 : Int) ^ 18 ≤ (if c < 0 then -c else c)))), some (.int z'), some (.ref p), u] = [some (.int c), some (.int (n : Int)), some (.int r), some (.bl (decide ((10 : Int) ^ 18 ≤ (if c < 0 then -c else c)))), some (.int z), some (.ref p), v] := by
        intro r' z' d u a1 a2 a3 a4 a5
        refine ⟨r', z', ds ++ [d], u, a1, a2, a3, ⟨by rw [List.length_append, hd.1]; rfl, fun x hx => ?_⟩, ?_, rfl⟩
        · rcases List.mem_append.mp hx with h | h
          · exact hd.2 x h
          · rw [List.mem_singleton.mp h]
            exact ⟨a4, a5⟩
        · rw [upd_upd, List.map_append]
          rfl
      walk_at "go"
      refine ite2 (fun e => ?_) (fun e => ?_)
      · walk_at "go"
        refine ite2 (fun e2 => ?_) (fun e2 => ?_)
        · walk_at "go"
          refine ⟨.inl ⟨rfl, _, .inl (.inl upd_same)⟩, ?_⟩
          walk_at "go"
          refine ⟨_, _, _, rfl, rfl, upd_same, hlen, ?_⟩
          walk_at "go"
          exact fin _ _ _ _ (by omega) (by omega) (by omega) (by omega) (by omega)
        · walk_at "go"
          refine ⟨.inl ⟨rfl, _, .inl (.inl upd_same)⟩, ?_⟩
          walk_at "go"
          refine ⟨_, _, _, rfl, rfl, upd_same, hlen, ?_⟩
          walk_at "go"
          exact fin _ _ _ _ (by omega) (by omega) (by omega) (by omega) (by omega)
      · walk_at "go"
        refine ⟨.inl ⟨rfl, _, .inl (.inl upd_same)⟩, ?_⟩
        walk_at "go"
        refine ⟨_, _, _, rfl, rfl, upd_same, hlen, ?_⟩
        walk_at "go"
        exact fin _ _ _ _ (by omega) (by omega) (by omega) (by omega) (by omega)
    · rintro σ H1 ⟨r, z, ds, v, hr0, hz0, hz1, hd, rfl, rfl⟩
      walk_at "go"
      exact q p ds np hd
/-! ### _law_take -/
def spTake (K : PySem.W.Frag) : Sp := fun vs H Q _ => ∃ (a p : Addr) (n m : Nat) (ds : List Int), vs = [.ref a, .ref p] ∧ SqL K H a (ds.map V.int) ∧ Dr n ds ∧ H p = some (.lst [.int (m : Int)]) ∧ a ≠ p ∧ ∀ r : Int, 0 ≤ r → r < 1000000 → Q (.int r) (upd H p (.lst [.int ((m + 1 : Nat) : Int)]))
theorem ok_take (F : FnP K "_law_take" s_take f fd) (m_len : mg "len" = none) : FnOk P w K mg base CX0 1 f fd P_take (spTake K) := by
  refine F.ok sc_take (fun vs H Q E h => ?_) (fun cdv A outer s H vs Q E hr h => ?_)
  · obtain ⟨a, p, n, m, ds, rfl, _⟩ := h
    rfl
  · obtain ⟨a, p, n, m, ds, rfl, hS, hd, hp, ne, q⟩ := h
    refine ⟨_, PSs.nox (pss_cons (ps_asg (pe_op op_add (pe_ix ix_list (pv 1) pe_int (fun _ _ => rfl)) pe_int) (pg_sub (pv 1) pe_int set_list))
      (pss_cons (ps_if (pt_cmpR op_gt (pe_ix ix_list (pv 1) pe_int (fun _ _ => rfl)) (pe_callB call_len_seq (by rfl) m_len PySem.boot_len (pa_cons (pv 0) pa_nil)) (nomark _)) (pss_one (ps_ret pe_int)) pss_nil)
      (pss_one (ps_ret (pe_ix ix_list (pv 0) (pe_op op_sub (pe_ix ix_list (pv 1) pe_int (fun _ _ => rfl)) pe_int) (fun _ _ => rfl)))))), ?_⟩
    have sb : SB p H (upd H p (.lst [.int ((m + 1 : Nat) : Int)])) := SB.upd (Z.Same.sb (Same.refl H))
    have hS' := sb.sq ne hS
    walk_at "go"
    refine ⟨p, _, 0, _, rfl, rfl, SqL.of hp, rfl, ?_⟩
    walk_at "go"
    refine ⟨p, _, 0, 0, rfl, rfl, hp, rfl, ?_⟩
    show tSeq _ _ _ _ (upd H p (.lst [.int ((m : Int) + 1)]))
    rw [show ((m : Int) + 1) = ((m + 1 : Nat) : Int) by omega]
    walk_at "go"
    refine ⟨p, _, 0, _, rfl, rfl, SqL.of upd_same, rfl, ?_⟩
    walk_at "go"
    refine ⟨a, _, rfl, .inl hS', ?_⟩
    walk_at "go"
    rw [List.length_map]
    refine ite2 (fun e => ?_) (fun e => ?_)
    · exact q 0 (by omega) (by omega)
    · have hk : m < ds.length := by
        apply Decidable.byContradiction
        intro z
        exact e (decide_eq_true (by omega))
      walk_at "go"
      refine ⟨p, _, 0, _, rfl, rfl, SqL.of upd_same, rfl, ?_⟩
      walk_at "go"
      refine ⟨a, _, _, _, rfl, rfl, hS', at_of (by omega) (show (ds.map V.int)[m]? = some (.int ds[m]) by rw [List.getElem?_map, List.getElem?_eq_getElem hk]; rfl), ?_⟩
      have h1 := hd.2 ds[m] (List.getElem_mem hk)
      exact q _ h1.1 h1.2
end
end Z
set_option Elab.async false
set_option linter.all false
set_option maxRecDepth 100000
set_option maxHeartbeats 4000000
namespace Z
open PySem PySem.Spec PyProof.Rows L2
/-! ### data -/
def sqD (b : Bool) (ds : List PyData) : PyData := match b with
  | true => .list ds
  | false => .tuple ds
def intsD (b : Bool) (ns : List Int) : PyData := sqD b (ns.map PyData.int)
def matD (b : Bool) (rs : List (List Int)) : PyData := sqD b (rs.map (intsD b))
theorem dp_sq {b : Bool} {K : PySem.W.Frag} {H : Hp} {a : Addr} {xs : List V} {ds : List PyData} (h : SqK b K H a xs) (d : DpAll K H xs ds) : Dp K H (.ref a) (sqD b ds) := by
  cases b
  · exact .tup h d
  · exact .lst h d
theorem dpa_ints {K : PySem.W.Frag} {H : Hp} : ∀ ns : List Int, DpAll K H (ns.map V.int) (ns.map PyData.int)
  | [] => .nil
  | n :: r => .cons (.int n) (dpa_ints r)
theorem dp_ints {b : Bool} {K : PySem.W.Frag} {H : Hp} {a : Addr} {ns : List Int} (h : SqK b K H a (ns.map V.int)) : Dp K H (.ref a) (intsD b ns) := dp_sq h (dpa_ints ns)
/-- a matrix: a list (or tuple) of lists (or tuples) of ints, at ps -/
def Mat (b : Bool) (K : PySem.W.Frag) (H : Hp) (a : Addr) (ps : List Addr) (rs : List (List Int)) : Prop := SqK b K H a (ps.map V.ref) ∧ ps.length = rs.length ∧ ∀ (i : Nat) (p : Addr) (r : List Int), ps[i]? = some p → rs[i]? = some r → SqK b K H p (r.map V.int)
theorem Mat.mono {b : Bool} {K : PySem.W.Frag} {H H' : Hp} {a : Addr} {ps : List Addr} {rs : List (List Int)} (s : Same H H') (m : Mat b K H a ps rs) : Mat b K H' a ps rs := ⟨Z.Same.sqK s m.1, m.2.1, fun i p r h1 h2 => Z.Same.sqK s (m.2.2 i p r h1 h2)⟩
theorem dpa_mat {b : Bool} {K : PySem.W.Frag} {H : Hp} : ∀ (ps : List Addr) (rs : List (List Int)), ps.length = rs.length → (∀ (i : Nat) (p : Addr) (r : List Int), ps[i]? = some p → rs[i]? = some r → SqK b K H p (r.map V.int)) → DpAll K H (ps.map V.ref) (rs.map (intsD b))
  | [], [], _, _ => .nil
  | p :: ps, r :: rs, hl, h => .cons (dp_ints (h 0 p r rfl rfl)) (dpa_mat ps rs (by simpa using hl) fun i q s h1 h2 => h (i + 1) q s h1 h2)
theorem Mat.dp {b : Bool} {K : PySem.W.Frag} {H : Hp} {a : Addr} {ps : List Addr} {rs : List (List Int)} (m : Mat b K H a ps rs) : Dp K H (.ref a) (matD b rs) := dp_sq m.1 (dpa_mat ps rs m.2.1 m.2.2)
theorem lay_ints : ∀ ns : List Int, PyData.canLayAll0 (ns.map PyData.int) = true
  | [] => rfl
  | n :: r => by
    rw [List.map_cons, PyData.canLayAll0, lay_ints r]
    rfl
theorem dep_ints : ∀ ns : List Int, PyData.depthAll (ns.map PyData.int) = 0
  | [] => rfl
  | n :: r => by
    rw [List.map_cons, PyData.depthAll, dep_ints r]
    rfl
theorem shaped_ints (b : Bool) (ns : List Int) : SeqAt.shaped (intsD b ns) = true := by
  unfold SeqAt.shaped intsD
  cases b
  · show (PyData.canLayAll0 (ns.map PyData.int) && decide (PyData.depthAll (ns.map PyData.int) + 1 ≤ 64)) = true
    rw [lay_ints, dep_ints]
    rfl
  · show (PyData.canLayAll0 (ns.map PyData.int) && decide (PyData.depthAll (ns.map PyData.int) + 1 ≤ 64)) = true
    rw [lay_ints, dep_ints]
    rfl
theorem lay_mat (b : Bool) : ∀ rs : List (List Int), PyData.canLayAll0 (rs.map (intsD b)) = true
  | [] => rfl
  | n :: r => by
    rw [List.map_cons, PyData.canLayAll0, lay_mat b r, SeqAt.canLay_of_shaped (shaped_ints b n)]
    rfl
theorem dep_mat (b : Bool) : ∀ rs : List (List Int), PyData.depthAll (rs.map (intsD b)) ≤ 1
  | [] => Nat.zero_le _
  | n :: r => by
    rw [List.map_cons, PyData.depthAll]
    have h := dep_mat b r
    have h2 : (intsD b n).depth = 1 := by
      cases b
      · show PyData.depthAll (n.map PyData.int) + 1 = 1
        rw [dep_ints]
      · show PyData.depthAll (n.map PyData.int) + 1 = 1
        rw [dep_ints]
    omega
theorem shaped_mat (b : Bool) (rs : List (List Int)) : SeqAt.shaped (matD b rs) = true := by
  have h := dep_mat b rs
  unfold SeqAt.shaped matD
  cases b
  · show (PyData.canLayAll0 (rs.map (intsD false)) && decide (PyData.depthAll (rs.map (intsD false)) + 1 ≤ 64)) = true
    rw [lay_mat, decide_eq_true (by omega)]
    rfl
  · show (PyData.canLayAll0 (rs.map (intsD true)) && decide (PyData.depthAll (rs.map (intsD true)) + 1 ≤ 64)) = true
    rw [lay_mat, decide_eq_true (by omega)]
    rfl
theorem same2 {K : PySem.W.Frag} {H : Hp} {x y : V} {d : PyData} {R : PyData → PyData → Prop} (hx : Dp K H x d) (hy : Dp K H y d) (hs : SeqAt.shaped d = true) (q : R d d) : ∃ d' e', Dp K H x d' ∧ Dp K H y e' ∧ SeqAt.shaped d' = true ∧ SeqAt.shaped e' = true ∧ R d' e' := ⟨d, d, hx, hy, hs, hs, q⟩
theorem eqv_same {d : PyData} (hs : SeqAt.shaped d = true) : PyData.eqv d d = true := SeqAt.eqv_refl d (SeqAt.canLay_of_shaped hs)
/-! ### a target that is one of two kinds -/
def gOr (t u : TG) : TG := fun v σ H Q => t v σ H Q ∨ u v σ H Q
theorem pg_or {X : Cx} {e : Expr} {t u : TG} (h1 : PG X e t) (h2 : PG X e u) : PG X e (gOr t u) := by
  refine ⟨fun pins s σ H v uu Q I r hw => ?_⟩
  rcases hw with h | h
  · exact h1.run pins s σ H v uu Q I r h
  · exact h2.run pins s σ H v uu Q I r h
/-! ### isinstance of built-in kinds -/
theorem isi {K : PySem.W.Frag} {H : Hp} {x : V} {T c : String} {b : Bool} {R : Bool → Prop} (t : TyOf K H x (.type T)) (h : kitB T c = some b) (q : R b) : ∃ (x' c' : V) (t' u' : Value) (b' : Bool), [x, .ty c] = [x', c'] ∧ ClsV c' u' ∧ TyX K H x' t' ∧ PySem.W.kitOne K t' u' = some b' ∧ R b' :=
  ⟨x, .ty c, .type T, .type c, b, rfl, .ty c, .base t, kit_ty h, q⟩
/-! ### rules by the written part itself (within a comprehension's block) -/
section
variable {X : Cx} {K : PySem.W.Frag}
theorem ix_list_K (h : X.K = K) : IxR X (rIxL K) := by subst h; exact ix_list
theorem ix_tup_K (h : X.K = K) : IxR X (rIxT K) := by subst h; exact ix_tup
theorem ix_seq_K (h : X.K = K) : IxR X (rIx K) := by subst h; exact ix_seq
theorem call_len_seq_K (h : X.K = K) : CallR X (.builtin "len") (fun xs H Q => ∃ p ys, xs = [.ref p] ∧ (SqL K H p ys ∨ SqT K H p ys) ∧ Q (.int ys.length) H) := by subst h; exact call_len_seq
theorem call_list_of_K (h : X.K = K) : CallR X (.type "list") (fun xs H Q => ∃ p ys, xs = [.ref p] ∧ (SqL K H p ys ∨ SqT K H p ys) ∧ ∀ l, H l = none → Q (.ref l) (upd H l (.lst ys))) := by subst h; exact call_list_of
theorem call_tuple_of_K (h : X.K = K) : CallR X (.type "tuple") (fun xs H Q => ∃ p ys, xs = [.ref p] ∧ ((SqL K H p ys ∧ ∀ l, H l = none → Q (.ref l) (upd H l (.tup ys))) ∨ (SqT K H p ys ∧ Q (.ref p) H))) := by subst h; exact call_tuple_of
theorem op_in_seq_K (h : X.K = K) : OpR X (compareOp .In) (rIn K false) := by subst h; exact op_in_seq
theorem op_notIn_seq_K (h : X.K = K) : OpR X (compareOp .NotIn) (rIn K true) := by subst h; exact op_notIn_seq
theorem op_eqD_K (h : X.K = K) (hu : X.A.units + 64 < cLine) : OpR X (compareOp .Eq) (rEqD K) := by subst h; exact op_eqD hu
theorem op_neD_K (h : X.K = K) (hu : X.A.units + 64 < cLine) : OpR X (compareOp .NotEq) (rNeD K) := by subst h; exact op_neD hu
theorem call_isi_K (h : X.K = K) : CallR X (.builtin "isinstance") (rIsi K) := by subst h; exact call_isi
end
/-! ### great products -/
theorem big_mul {i j : Int} (hi : i.natAbs < 2 ^ 4000) (hj : j.natAbs < 2 ^ 4000) : CMulX i j := mulx_ok hi hj (by decide)
/-! ### sums of multiples of rows -/
def combN (rs : List (List Int)) (fs : List Int) (w : Nat) : Nat → List Int
  | 0 => List.replicate w 0
  | n + 1 => List.zipWith (fun a b => a + fs.getD n 0 * b) (combN rs fs w n) (rs.getD n [])
theorem combN_len {rs : List (List Int)} {fs : List Int} {w : Nat} (h : ∀ r ∈ rs, r.length = w) : ∀ n, n ≤ rs.length → (combN rs fs w n).length = w
  | 0, _ => List.length_replicate
  | n + 1, hn => by
    rw [combN, List.length_zipWith, combN_len h n (by omega), List.getD_eq_getElem?_getD, List.getElem?_eq_getElem (by omega), Option.getD_some, h _ (List.getElem_mem _)]
    omega
theorem combN_at {rs : List (List Int)} {fs : List Int} {w i c : Nat} (hi : i < rs.length) (hf : i < fs.length) (c1 : c < (combN rs fs w i).length) (c2 : c < rs[i].length) : (combN rs fs w (i + 1))[c]? = some ((combN rs fs w i)[c] + fs[i] * rs[i][c]) := by
  have g1 : fs.getD i 0 = fs[i] := by rw [List.getD_eq_getElem?_getD, List.getElem?_eq_getElem hf]; rfl
  have g2 : rs.getD i [] = rs[i] := by rw [List.getD_eq_getElem?_getD, List.getElem?_eq_getElem hi]; rfl
  rw [combN, List.getElem?_zipWith, g1, g2, List.getElem?_eq_getElem c1, List.getElem?_eq_getElem c2]
end Z
set_option Elab.async false
set_option linter.all false
set_option maxRecDepth 100000
set_option maxHeartbeats 4000000
namespace Z
open PySem PySem.Spec PyProof.Rows L2
open C8 (pss_cut tCut)
local macro_rules | `(tactic| walk_at "num") => `(tactic| first | rfl | omega | decide | exact Nat.le_of_lt (small1000 (by simp)) | exact ⟨by omega, by omega⟩ | exact ⟨by omega, by omega, by omega⟩ | exact ⟨by decide, by decide, by decide⟩ | exact Or.inl ⟨by omega, by omega⟩ | exact Or.inr ⟨by omega, by omega⟩)
local macro_rules | `(tactic| walk_at "go") => `(tactic| repeat (first | refine ⟨_, rfl, ?_⟩ | refine ⟨_, _, rfl, rfl, ?_⟩ | refine ⟨_, _, rfl, rfl, (by walk_at "num"), ?_⟩ | refine Or.inl ⟨_, rfl, ?_⟩ | refine ⟨rfl, ?_⟩ | refine And.intro (by walk_at "num") ?_))
theorem lc_zip {p q : Bool} {K : PySem.W.Frag} {a b D : Addr} {xs ys : List Int} {H0 : Hp} {i j : Nat} {te : TE} {vs : List Nat} {σ : L2.St} {Qd : Hp → Prop} (f : Int → Int → Int) (hl : xs.length = ys.length) (hb : xs.length ≤ 100000) (hA : SqK p K H0 a (xs.map V.int)) (hB : SqK q K H0 b (ys.map V.int)) (nD : H0 D = none)
    (hw : ∀ x y : V, wipe (((wipe σ vs).set i (some x)).set j (some y)) vs = wipe σ vs)
    (ht : ∀ x y H1 (Q : VK), x ∈ xs → y ∈ ys → Same H0 H1 → Q (.int (f x y)) H1 → te (((wipe σ vs).set i (some (.int x))).set j (some (.int y))) H1 Q)
    (hd : ∀ H1, Same H0 H1 → H1 D = some (.lst ((List.zipWith f xs ys).map V.int)) → Qd H1) : lcW (ItzM p q K a b) (gTup K 2 (gCons (gName i) (gCons (gName j) gNil))) tYes te vs σ D Qd H0 := by
  have hz : (List.zipWith f xs ys).length = xs.length := by rw [List.length_zipWith]; omega
  refine lc_gen (n := xs.length) (fun k H1 => Same H0 H1 ∧ H1 D = some (.lst (((List.zipWith f xs ys).take k).map V.int))) ⟨same_new nD, upd_same⟩ ?_ ?_ ?_ ?_
  · rintro k H1 hk ⟨s, e⟩
    exact ⟨_, _, .int xs[k], .int ys[k], Z.Same.sqK s hA, Z.Same.sqK s hB, by rw [List.getElem?_map, List.getElem?_eq_getElem hk]; rfl, by rw [List.getElem?_map, List.getElem?_eq_getElem (by omega)]; rfl⟩
  · rintro H1 ⟨s, e⟩
    exact ⟨_, _, Z.Same.sqK s hA, Z.Same.sqK s hB, .inl (by rw [List.length_map]; omega), by rw [List.length_map]; omega, by rw [List.length_map]; omega⟩
  · rintro k H1 v H' hk ⟨s, e⟩ ⟨T, x, y, rfl, hT, rfl, f1, f2⟩
    have ex := f1 _ (Z.Same.sqK s hA)
    have ey := f2 _ (Z.Same.sqK s hB)
    obtain ⟨x', e1, rfl⟩ := of_map ex
    obtain ⟨y', e2, rfl⟩ := of_map ey
    have sT : Same H1 (upd H1 T (.tup [.int x', .int y'])) := same_new hT
    refine ⟨T, _, rfl, .inl (.inl upd_same), rfl, _, _, rfl, _, _, rfl, rfl, hw _ _, ?_⟩
    refine ht x' y' _ _ (List.mem_of_getElem? e1) (List.mem_of_getElem? e2) (s.trans sT) ?_
    have eD := sT _ _ e
    refine ⟨_, eD, ?_, ?_, ?_⟩
    · rw [List.length_map, List.length_take]
      exact Nat.lt_of_le_of_lt (Nat.min_le_left _ _) (Nat.lt_of_lt_of_le hk (Nat.le_trans hb (by decide)))
    · exact Z.Same.mut (s.trans sT) nD
    · rw [upd_same, List.take_add_one, List.getElem?_zipWith, e1, e2, List.map_append]
      rfl
  · rintro H1 ⟨s, e⟩
    rw [List.take_of_length_le (by omega)] at e
    exact hd H1 s e
abbrev s_less_rows : Stmt := topS 1
abbrev N_less_rows : List Str := ["first", "second", "factor", "a", "b"]
abbrev P_less_rows : List Str := ["first", "second", "factor"]
theorem sc_less_rows : FnScope N_less_rows P_less_rows (defScope s_less_rows) := ⟨rfl, rfl, rfl, by decide +kernel, rfl, by decide +kernel, by decide +kernel⟩
abbrev s_dot : Stmt := topS 2
abbrev N_dot : List Str := ["first", "second", "a", "b"]
abbrev P_dot : List Str := ["first", "second"]
theorem sc_dot : FnScope N_dot P_dot (defScope s_dot) := ⟨rfl, rfl, rfl, by decide +kernel, rfl, by decide +kernel, by decide +kernel⟩
abbrev s_combine : Stmt := topS 3
abbrev N_combine : List Str := ["rows", "factors", "width", "total", "row", "factor"]
abbrev P_combine : List Str := ["rows", "factors", "width"]
theorem sc_combine : FnScope N_combine P_combine (defScope s_combine) := ⟨rfl, rfl, rfl, by decide +kernel, rfl, by decide +kernel, by decide +kernel⟩
abbrev s_keeps : Stmt := topS 5
abbrev N_keeps : List Str := ["row", "claim", "coefs", "result", "modulus", "rest"]
abbrev P_keeps : List Str := ["row", "claim"]
theorem sc_keeps : FnScope N_keeps P_keeps (defScope s_keeps) := ⟨rfl, rfl, rfl, by decide +kernel, rfl, by decide +kernel, by decide +kernel⟩
section
variable {P : Program} {w : World} {K : PySem.W.Frag} {mg : Str → Option Value} {base : Heap} {f : Addr} {fd : FuncData}
/-- small: below 2 ^ 4000 -/
def Sm (n : Int) : Prop := n.natAbs < 2 ^ 4000
/-! ### less_rows -/
def spLess (K : PySem.W.Frag) : Sp := fun vs H Q _ => ∃ (p q : Bool) (a b : Addr) (xs ys : List Int) (c : Int), vs = [.ref a, .ref b, .int c] ∧ SqK p K H a (xs.map V.int) ∧ SqK q K H b (ys.map V.int) ∧ xs.length = ys.length ∧ xs.length ≤ 1000 ∧ Sm c ∧ (∀ y ∈ ys, Sm y) ∧
  ∀ t H', Same H H' → H' t = some (.tup ((List.zipWith (fun x y => x - c * y) xs ys).map V.int)) → Q (.ref t) H'
theorem ok_less {dv : List V} (F : FunD K "less_rows" "less_rows" (defArgs s_less_rows) (defBody s_less_rows) (defScope s_less_rows) dv [] f fd) (m_zip : mg "zip" = none) (m_tuple : mg "tuple" = none) : FnOk P w K mg base CX0 1 f fd P_less_rows (spLess K) := by
  refine F.ok sc_less_rows (fun vs H Q E h => ?_) (fun cdv A outer s H vs Q E hr h => ?_)
  · obtain ⟨p, q, a, b, xs, ys, c, rfl, _⟩ := h
    rfl
  · obtain ⟨p, q, a, b, xs, ys, c, rfl, hA, hB, hl, hn, hc, hy, k⟩ := h
    refine ⟨_, PSs.nox (pss_one (ps_ret (pe_callTy call_tuple_of (by rfl) m_tuple (by decide +kernel) (pa_cons (pe_lc (own := [("a", 3), ("b", 4)]) (g := (gTup K 2 (gCons (gName 3) (gCons (gName 4) gNil)))) (tt := tYes) (by rfl) sc_less_rows.nd (pi_zipM (by rfl) m_zip (pa_cons (pv 0) (pa_cons (pv 1) pa_nil))) (blkOk_by (own := [("a", 3), ("b", 4)]) (N := N_less_rows) (sc := defScope s_less_rows) (by decide +kernel)) (fun _ _ _ _ _ => (pg_tup rfl (pgs_cons (pg_name (i := 3) sc_less_rows.nd rfl (by first | exact .inl rfl | exact .inr rfl)) (pgs_cons (pg_name (i := 4) sc_less_rows.nd rfl (by first | exact .inl rfl | exact .inr rfl)) pgs_nil)))) (fun _ _ _ _ _ => pts_nil) (fun _ _ _ _ _ => (pe_op op_sub (pv 3) (pe_op op_mulX (pv 2) (pv 4))))) pa_nil)))), ?_⟩
    walk_at "go"
    refine ⟨p, q, a, b, _, _, rfl, hA, hB, fun D nD => ?_⟩
    refine lc_zip (fun x y => x - c * y) hl (by omega) hA hB nD (fun _ _ => rfl) ?_ ?_
    · intro x y H1 Q1 hx hy' s1 q1
      walk_at "go"
      refine ⟨big_mul hc (hy y hy'), ?_⟩
      walk_at "go"
      exact q1
    · intro H1 s1 eD
      refine ⟨D, _, rfl, .inl ⟨.inl (.inl eD), fun t nt => ?_⟩⟩
      exact k t _ (s1.trans (same_new nt)) upd_same
/-! ### dot -/
def spDot (K : PySem.W.Frag) : Sp := fun vs H Q _ => ∃ (p q : Bool) (a b : Addr) (xs ys : List Int), vs = [.ref a, .ref b] ∧ SqK p K H a (xs.map V.int) ∧ SqK q K H b (ys.map V.int) ∧ xs.length = ys.length ∧ xs.length ≤ 1000 ∧ (∀ x ∈ xs, Sm x) ∧ (∀ y ∈ ys, Sm y) ∧
  ∀ H', Same H H' → Q (.int (List.zipWith (fun x y => x * y) xs ys).sum) H'
theorem ok_dot (F : FnP K "dot" s_dot f fd) (m_zip : mg "zip" = none) (m_sum : mg "sum" = none) : FnOk P w K mg base CX0 1 f fd P_dot (spDot K) := by
  refine F.ok sc_dot (fun vs H Q E h => ?_) (fun cdv A outer s H vs Q E hr h => ?_)
  · obtain ⟨p, q, a, b, xs, ys, rfl, _⟩ := h
    rfl
  · obtain ⟨p, q, a, b, xs, ys, rfl, hA, hB, hl, hn, hx, hy, k⟩ := h
    refine ⟨_, PSs.nox (pss_one (ps_ret (pe_callB (cr_sum rfl) (by rfl) m_sum (by decide +kernel) (pa_cons (pe_lc (own := [("a", 2), ("b", 3)]) (g := (gTup K 2 (gCons (gName 2) (gCons (gName 3) gNil)))) (tt := tYes) (by rfl) sc_dot.nd (pi_zipM (by rfl) m_zip (pa_cons (pv 0) (pa_cons (pv 1) pa_nil))) (blkOk_by (own := [("a", 2), ("b", 3)]) (N := N_dot) (sc := defScope s_dot) (by decide +kernel)) (fun _ _ _ _ _ => (pg_tup rfl (pgs_cons (pg_name (i := 2) sc_dot.nd rfl (by first | exact .inl rfl | exact .inr rfl)) (pgs_cons (pg_name (i := 3) sc_dot.nd rfl (by first | exact .inl rfl | exact .inr rfl)) pgs_nil)))) (fun _ _ _ _ _ => pts_nil) (fun _ _ _ _ _ => (pe_op op_mulX (pv 2) (pv 3)))) pa_nil)))), ?_⟩
    walk_at "go"
    refine ⟨p, q, a, b, _, _, rfl, hA, hB, fun D nD => ?_⟩
    refine lc_zip (fun x y => x * y) hl (by omega) hA hB nD (fun _ _ => rfl) ?_ ?_
    · intro x y H1 Q1 hx' hy' s1 q1
      walk_at "go"
      refine ⟨big_mul (hx x hx') (hy y hy'), ?_⟩
      exact q1
    · intro H1 s1 eD
      refine ⟨D, _, rfl, .inl (.inl eD), k H1 s1⟩
end
end Z
set_option Elab.async false
set_option linter.all false
set_option maxRecDepth 100000
set_option maxHeartbeats 4000000
namespace Z
open PySem PySem.Spec PyProof.Rows L2
open C8 (pss_cut tCut)
local macro_rules | `(tactic| walk_at "num") => `(tactic| first | rfl | omega | decide | exact Nat.le_of_lt (small1000 (by simp)) | exact ⟨by omega, by omega⟩ | exact ⟨by omega, by omega, by omega⟩ | exact ⟨by decide, by decide, by decide⟩ | exact Or.inl ⟨by omega, by omega⟩ | exact Or.inr ⟨by omega, by omega⟩)
local macro_rules | `(tactic| walk_at "go") => `(tactic| repeat (first | refine ⟨_, rfl, ?_⟩ | refine ⟨_, _, rfl, rfl, ?_⟩ | refine ⟨_, _, rfl, rfl, (by walk_at "num"), ?_⟩ | refine Or.inl ⟨_, rfl, ?_⟩ | refine ⟨rfl, ?_⟩ | refine And.intro (by walk_at "num") ?_))
section
variable {P : Program} {w : World} {K : PySem.W.Frag} {mg : Str → Option Value} {base : Heap} {f : Addr} {fd : FuncData}
/-! ### combine -/
def spComb (K : PySem.W.Frag) : Sp := fun vs H Q _ => ∃ (b c : Bool) (R F : Addr) (ps : List Addr) (rs : List (List Int)) (fs : List Int) (wd : Nat), vs = [.ref R, .ref F, .int (wd : Int)] ∧ Mat b K H R ps rs ∧ SqK c K H F (fs.map V.int) ∧ fs.length = rs.length ∧ (∀ r ∈ rs, r.length = wd) ∧ wd ≤ 1000 ∧ rs.length ≤ 1000 ∧ (∀ x ∈ fs, Sm x) ∧ (∀ r ∈ rs, ∀ y ∈ r, Sm y) ∧
  ∀ t H', Same H H' → H' t = some (.tup ((combN rs fs wd rs.length).map V.int)) → Q (.ref t) H'
theorem ok_combine (F : FnP K "combine" s_combine f fd) (m_zip : mg "zip" = none) (c_less_rows : Cal P w K mg base 1 "less_rows" (spLess K)) : FnOk P w K mg base CX0 2 f fd P_combine (spComb K) := by
  refine F.ok sc_combine (fun vs H Q E h => ?_) (fun cdv A outer s H vs Q E hr h => ?_)
  · obtain ⟨b, c, R, F, ps, rs, fs, wd, rfl, _⟩ := h
    rfl
  · obtain ⟨b, c, R, F, ps, rs, fs, wd, rfl, hR, hF, hl, hw, hn, hm, hf, hy, k⟩ := h
    refine ⟨_, PSs.nox (pss_cons (ps_set (i := 3) sc_combine.nd rfl (by first | exact .inl rfl | exact .inr rfl) (pe_op op_repU (pe_tup (pa_cons pe_int pa_nil)) (pv 2)))
      (pss_cons (ps_for PassesOwn.never rfl (pi_zipM (by rfl) m_zip (pa_cons (pv 0) (pa_cons (pv 1) pa_nil))) (pg_tup rfl (pgs_cons (pg_name (i := 4) sc_combine.nd rfl (by first | exact .inl rfl | exact .inr rfl)) (pgs_cons (pg_name (i := 5) sc_combine.nd rfl (by first | exact .inl rfl | exact .inr rfl)) pgs_nil)))
        (pss_one (ps_set (i := 3) sc_combine.nd rfl (by first | exact .inl rfl | exact .inr rfl) (pe_cl c_less_rows hr (by decide) (by rfl) (pa_cons (pv 3) (pa_cons (pv 4) (pa_cons (pe_un un_neg (pv 5)) pa_nil)))))))
      (pss_one (ps_ret (pv 3))))), ?_⟩
    walk_at "go"
    intro t0 nt0
    walk_at "go"
    refine ⟨t0, (wd : Int), .int 0, rfl, rfl, upd_same, by omega, by omega, fun t H1 s1 e1 => ?_⟩
    have s2 : Same H H1 := (same_new nt0).trans s1
    walk_at "go"
    refine ⟨b, c, R, F, _, _, rfl, Z.Same.sqK s2 hR.1, Z.Same.sqK s2 hF, ?_⟩
    refine for_gen (n := rs.length) (fun i σ H1 => ∃ (t : Addr) (v v' : Option V), Same H H1 ∧ H1 t = some (.tup ((combN rs fs wd i).map V.int)) ∧ σ = [some (.ref R), some (.ref F), some (.int (wd : Int)), some (.ref t), v, v']) ?_ ?_ ?_ ?_ ?_
    · refine ⟨t, none, none, s2, ?_, rfl⟩
      rw [e1]
      show some (HO.tup (List.replicate wd (V.int 0))) = some (HO.tup ((List.replicate wd (0 : Int)).map V.int))
      rw [List.map_replicate]
    · rintro i σ H1 hi ⟨t, v, v', s3, e, rfl⟩
      have hi2 : i < ps.length := by rw [hR.2.1]; exact hi
      exact ⟨_, _, .ref ps[i], .int fs[i], Z.Same.sqK s3 hR.1, Z.Same.sqK s3 hF, by rw [List.getElem?_map, List.getElem?_eq_getElem hi2]; rfl, by rw [List.getElem?_map, List.getElem?_eq_getElem (by omega)]; rfl⟩
    · rintro σ H1 ⟨t, v, v', s3, e, rfl⟩
      exact ⟨_, _, Z.Same.sqK s3 hR.1, Z.Same.sqK s3 hF, .inl (by rw [List.length_map, hR.2.1]; omega), by rw [List.length_map, hR.2.1]; omega, by rw [List.length_map]; omega⟩
    · rintro i σ H1 z H' hi ⟨t, v, v', s3, e, rfl⟩ ⟨T, x, y, rfl, hT, rfl, f1, f2⟩
      have ex := f1 _ (Z.Same.sqK s3 hR.1)
      have ey := f2 _ (Z.Same.sqK s3 hF)
      obtain ⟨p, e2, rfl⟩ := of_map ex
      obtain ⟨fc, e3, rfl⟩ := of_map ey
      have sT : Same H1 (upd H1 T (.tup [.ref p, .int fc])) := same_new hT
      have er : rs[i]? = some rs[i] := List.getElem?_eq_getElem hi
      have lr : rs[i].length = wd := hw _ (List.getElem_mem hi)
      have lc : (combN rs fs wd i).length = wd := combN_len hw i (by omega)
      refine ⟨T, _, rfl, .inl (.inl upd_same), rfl, _, _, rfl, _, _, rfl, rfl, ?_⟩
      walk_at "go"
      refine ⟨false, b, t, p, combN rs fs wd i, rs[i], -fc, rfl, .inl (.inl (sT _ _ e)), Z.Same.sqK (s3.trans sT) (hR.2.2 i p _ e2 er), by omega, by omega, ?_, hy _ (List.getElem_mem hi), fun t' H' s4 e4 => ?_⟩
      · have := hf fc (List.mem_of_getElem? e3)
        unfold Sm at this ⊢
        omega
      · refine ⟨t', some (.ref p), some (.int fc), (s3.trans sT).trans s4, ?_, rfl⟩
        rw [e4]
        congr 3
        rw [combN]
        have g1 : fs.getD i 0 = fc := by rw [List.getD_eq_getElem?_getD, e3]; rfl
        have g2 : rs.getD i [] = rs[i] := by rw [List.getD_eq_getElem?_getD, er]; rfl
        rw [g1, g2]
        congr 1
        funext a c
        rw [Int.neg_mul, Int.sub_neg]
    · rintro σ H1 ⟨t, v, v', s3, e, rfl⟩
      walk_at "go"
      exact k t H1 s3 e
/-! ### keeps -/
def kept (cs xs : List Int) (res m : Int) : Bool := if m = 0 then decide ((List.zipWith (fun x y => x * y) cs xs).sum - res = 0) else decide (((List.zipWith (fun x y => x * y) cs xs).sum - res) % m = 0)
def spKeeps (K : PySem.W.Frag) : Sp := fun vs H Q _ => ∃ (b c d : Bool) (r cl co : Addr) (xs cs : List Int) (res m : Int), vs = [.ref r, .ref cl] ∧ SqK b K H r (xs.map V.int) ∧ SqK c K H cl [.ref co, .int res, .int m] ∧ SqK d K H co (cs.map V.int) ∧ cs.length = xs.length ∧ cs.length ≤ 1000 ∧ (∀ x ∈ cs, Sm x) ∧ (∀ y ∈ xs, Sm y) ∧ 0 ≤ m ∧
  ∀ H', Same H H' → Q (.bl (kept cs xs res m)) H'
theorem ok_keeps (F : FnP K "keeps" s_keeps f fd) (c_dot : Cal P w K mg base 1 "dot" (spDot K)) : FnOk P w K mg base CX0 2 f fd P_keeps (spKeeps K) := by
  refine F.ok sc_keeps (fun vs H Q E h => ?_) (fun cdv A outer s H vs Q E hr h => ?_)
  · obtain ⟨b, c, d, r, cl, co, xs, cs, res, m, rfl, _⟩ := h
    rfl
  · obtain ⟨b, c, d, r, cl, co, xs, cs, res, m, rfl, hr', hc, hco, hl, hn, h1, h2, hm, k⟩ := h
    refine ⟨_, PSs.nox (pss_cons (ps_asg (pv 1) (pg_or (pg_unl rfl (pgs_cons (pg_name (i := 2) sc_keeps.nd rfl (by first | exact .inl rfl | exact .inr rfl)) (pgs_cons (pg_name (i := 3) sc_keeps.nd rfl (by first | exact .inl rfl | exact .inr rfl)) (pgs_cons (pg_name (i := 4) sc_keeps.nd rfl (by first | exact .inl rfl | exact .inr rfl)) pgs_nil)))) (pg_tup rfl (pgs_cons (pg_name (i := 2) sc_keeps.nd rfl (by first | exact .inl rfl | exact .inr rfl)) (pgs_cons (pg_name (i := 3) sc_keeps.nd rfl (by first | exact .inl rfl | exact .inr rfl)) (pgs_cons (pg_name (i := 4) sc_keeps.nd rfl (by first | exact .inl rfl | exact .inr rfl)) pgs_nil))))))
      (pss_cons (ps_set (i := 5) sc_keeps.nd rfl (by first | exact .inl rfl | exact .inr rfl) (pe_op op_sub (pe_cl c_dot hr (by decide) (by rfl) (pa_cons (pv 2) (pa_cons (pv 0) pa_nil))) (pv 3)))
      (pss_cons (ps_if (pt_cmpR op_eq (pv 4) pe_int (nomark _)) (pss_one (ps_ret (pe_cmpR op_eq (pv 5) pe_int (nomark _)))) pss_nil)
      (pss_one (ps_ret (pe_cmpR op_eq (pe_op op_mod (pv 5) (pv 4)) pe_int (nomark _))))))), ?_⟩
    walk_at "go"
    have go : ∀ H0 : Hp, H0 = H → tSeq (tAsg (tOp (rI0 fun i j => .int (i - j)) (tCall (spDot K) [] E0 (tCons (tVar 2) (tCons (tVar 0) tNil))) (tVar 3)) (gName 5))
        (tSeq (tIfS (tTest (tOp rEq (tVar 4) (tC (.int 0)))) (tRet (tOp rEq (tVar 5) (tC (.int 0)))) tNext) (tRet (tOp rEq (tOp (rI (fun _ j => 0 < j) fun i j => .int (i % j)) (tVar 5) (tVar 4)) (tC (.int 0)))))
        { nx := fun _ H' => Q .non H', rt := Q } [some (.ref r), some (.ref cl), some (.ref co), some (.int res), some (.int m), none] H0 := by
      intro H0 e0
      subst e0
      walk_at "go"
      refine ⟨d, b, co, r, cs, xs, rfl, hco, hr', hl, hn, h1, h2, fun H1 s1 => ?_⟩
      have q1 := k H1 s1
      unfold kept at q1
      walk_at "go"
      refine ite2 (fun e => ?_) (fun e => ?_)
      · have em : m = 0 := V.int.inj (of_decide_eq_true e)
        rw [if_pos em] at q1
        walk_at "go"
        simpa using q1
      · have em : ¬ m = 0 := fun z => e (decide_eq_true (by rw [z]))
        rw [if_neg em] at q1
        walk_at "go"
        simpa using q1
    cases c
    · exact .inr ⟨cl, _, rfl, hc, rfl, _, _, rfl, _, _, rfl, _, _, rfl, rfl, go H rfl⟩
    · exact .inl ⟨cl, _, rfl, hc, rfl, _, _, rfl, _, _, rfl, _, _, rfl, rfl, go H rfl⟩
end
end Z
set_option Elab.async false
set_option linter.all false
set_option maxRecDepth 100000
set_option maxHeartbeats 4000000
namespace Z
set_option exponentiation.threshold 5000
open PySem PySem.Spec PyProof.Rows L2
open C8 (pss_cut tCut)
local macro_rules | `(tactic| walk_at "num") => `(tactic| first | rfl | omega | decide | exact Nat.le_of_lt (small1000 (by simp)) | exact ⟨by omega, by omega⟩ | exact ⟨by omega, by omega, by omega⟩ | exact ⟨by decide, by decide, by decide⟩ | exact Or.inl ⟨by omega, by omega⟩ | exact Or.inr ⟨by omega, by omega⟩)
local macro_rules | `(tactic| walk_at "go") => `(tactic| repeat (first | refine ⟨_, rfl, ?_⟩ | refine ⟨_, _, rfl, rfl, ?_⟩ | refine ⟨_, _, rfl, rfl, (by walk_at "num"), ?_⟩ | refine Or.inl ⟨_, rfl, ?_⟩ | refine ⟨rfl, ?_⟩ | refine And.intro (by walk_at "num") ?_))
abbrev s_int : Stmt := topS 10
abbrev N_int : List Str := ["_law_value"]
abbrev P_int : List Str := ["_law_value"]
theorem sc_int : FnScope N_int P_int (defScope s_int) := ⟨rfl, rfl, rfl, by decide +kernel, rfl, by decide +kernel, by decide +kernel⟩
abbrev s_is_row : Stmt := topS 11
abbrev N_is_row : List Str := ["_law_value", "_law_own_width", "_law_entry"]
abbrev P_is_row : List Str := ["_law_value", "_law_own_width"]
theorem sc_is_row : FnScope N_is_row P_is_row (defScope s_is_row) := ⟨rfl, rfl, rfl, by decide +kernel, rfl, by decide +kernel, by decide +kernel⟩
abbrev s_number : Stmt := topS 12
abbrev N_number : List Str := ["_law_draw", "_law_value", "_law_k"]
abbrev P_number : List Str := ["_law_draw"]
theorem sc_number : FnScope N_number P_number (defScope s_number) := ⟨rfl, rfl, rfl, by decide +kernel, rfl, by decide +kernel, by decide +kernel⟩
abbrev s_huge : Stmt := topS 13
abbrev N_huge : List Str := ["_law_cell_here", "_law_value", "_law_draw"]
abbrev P_huge : List Str := ["_law_cell_here"]
theorem sc_huge : FnScope N_huge P_huge (defScope s_huge) := ⟨rfl, rfl, rfl, by decide +kernel, rfl, by decide +kernel, by decide +kernel⟩
abbrev s_row : Stmt := topS 14
abbrev N_row : List Str := ["_law_draws_here", "_law_place", "_law_own_width", "_law_k"]
abbrev P_row : List Str := ["_law_draws_here", "_law_place", "_law_own_width"]
theorem sc_row : FnScope N_row P_row (defScope s_row) := ⟨rfl, rfl, rfl, by decide +kernel, rfl, by decide +kernel, by decide +kernel⟩
section
variable {P : Program} {w : World} {K : PySem.W.Frag} {mg : Str → Option Value} {base : Heap} {f : Addr} {fd : FuncData}
theorem k9 : ∀ n : Nat, n ≤ 9 → (1000 : Int) ^ (n + 1) ≤ 10 ^ 30 := by
  intro n hn
  have h : n = 0 ∨ n = 1 ∨ n = 2 ∨ n = 3 ∨ n = 4 ∨ n = 5 ∨ n = 6 ∨ n = 7 ∨ n = 8 ∨ n = 9 := by omega
  rcases h with rfl | rfl | rfl | rfl | rfl | rfl | rfl | rfl | rfl | rfl <;> decide
/-- smaller still: the next number is small, too -/
def Sn (n : Int) : Prop := n.natAbs < 2 ^ 3999
theorem p4000 : (2 : Nat) ^ 4000 = 2 ^ 3999 * 2 := Nat.pow_succ 2 3999
theorem Sn.sm {r : Int} (h : Sn r) : Sm r := by
  have e := p4000
  unfold Sn at h
  unfold Sm
  generalize (2 : Nat) ^ 3999 = a at h e
  generalize (2 : Nat) ^ 4000 = b at e ⊢
  omega
theorem Sn.sm1 {r : Int} (h : Sn r) : Sm (r + 1) := by
  have e := p4000
  unfold Sn at h
  unfold Sm
  generalize (2 : Nat) ^ 3999 = a at h e
  generalize (2 : Nat) ^ 4000 = b at e ⊢
  omega
theorem Sn.neg {r : Int} (h : Sn r) : Sn (-r) := by
  unfold Sn at h ⊢
  rw [Int.natAbs_neg]
  exact h
theorem sm_of {r : Int} {m : Nat} (h : r.natAbs ≤ m) (hm : m < 2 ^ 3999 := by decide +kernel) : Sn r := Nat.lt_of_le_of_lt h hm
/-! ### _law_number -/
def spNumber : Sp := fun vs H Q _ => ∃ d : Int, vs = [.int d] ∧ 0 ≤ d ∧ ∀ r : Int, Sn r → Q (.int r) H
theorem ok_number (F : FnP K "_law_number" s_number f fd) (m_int : mg "int" = none) (m_range : mg "range" = none) : FnOk P w K mg base CX0 1 f fd P_number spNumber := by
  refine F.ok sc_number (fun vs H Q E h => ?_) (fun cdv A outer s H vs Q E hr h => ?_)
  · obtain ⟨d, rfl, _⟩ := h
    rfl
  · obtain ⟨d, rfl, hd, k⟩ := h
    refine ⟨_, PSs.nox (pss_cons (ps_set (i := 1) sc_number.nd rfl (by first | exact .inl rfl | exact .inr rfl) (pe_op op_mod (pe_callTy call_int1 (by rfl) m_int (by decide +kernel) (pa_cons (pe_op op_fdiv (pv 0) pe_int) pa_nil)) pe_int))
      (pss_cut (ps_if (pt_cmpR op_gt (pv 1) pe_int (nomark _)) (pss_one (ps_set (i := 1) sc_number.nd rfl (by first | exact .inl rfl | exact .inr rfl) (pe_op op_sub (pv 1) pe_int))) pss_nil)
      (pss_cons (ps_if (pt_cmpR op_ne (pe_op op_mod (pe_callTy call_int1 (by rfl) m_int (by decide +kernel) (pa_cons (pv 0) pa_nil)) pe_int) pe_int (nomark _)) (pss_one (ps_ret (pv 1))) pss_nil)
      (pss_cons (ps_set (i := 1) sc_number.nd rfl (by first | exact .inl rfl | exact .inr rfl) (pe_op op_add (pe_op op_mod (pe_callTy call_int1 (by rfl) m_int (by decide +kernel) (pa_cons (pe_op op_fdiv (pv 0) pe_int) pa_nil)) pe_int) pe_int))
      (pss_cons (ps_for PassesOwn.never rfl (pi_range1 (by rfl) m_range (pa_cons (pe_op op_mod (pe_callTy call_int1 (by rfl) m_int (by decide +kernel) (pa_cons (pe_op op_fdiv (pv 0) pe_int) pa_nil)) pe_int) pa_nil)) (pg_name (i := 2) sc_number.nd rfl (by first | exact .inl rfl | exact .inr rfl))
        (pss_one (ps_set (i := 1) sc_number.nd rfl (by first | exact .inl rfl | exact .inr rfl) (pe_op op_mul (pv 1) pe_int))))
      (pss_cons (ps_if (pt_cmpR op_eq (pe_op op_mod (pe_callTy call_int1 (by rfl) m_int (by decide +kernel) (pa_cons (pe_op op_fdiv (pv 0) pe_int) pa_nil)) pe_int) pe_int (nomark _)) (pss_one (ps_ret (pe_un un_neg (pv 1)))) pss_nil)
      (pss_one (ps_ret (pv 1))))))))), ?_⟩
    walk_at "go"
    refine ⟨fun σ H1 => H1 = H ∧ ∃ v : Int, -5 ≤ v ∧ v ≤ 9 ∧ σ = [some (.int d), some (.int v), none], ?_, ?_⟩
    · walk_at "go"
      refine ite2 (fun e => ?_) (fun e => ?_)
      · have := of_decide_eq_true e
        walk_at "go"
        exact ⟨_, by omega, by omega, rfl⟩
      · have : ¬ (4 < d / 8 % 9) := fun z => e (decide_eq_true z)
        exact ⟨rfl, _, by omega, by omega, rfl⟩
    · rintro σ H1 ⟨rfl, v, h1, h2, rfl⟩
      walk_at "go"
      refine ite2 (fun e => ?_) (fun e => ?_)
      · walk_at "go"
        exact k v (sm_of (m := 10) (by omega))
      · walk_at "go"
        refine for_gen (n := (d / 8000 % 10).toNat) (fun i σ H2 => H2 = H1 ∧ ∃ (v : Int) (u : Option V), 0 < v ∧ v ≤ 1000 ^ (i + 1) ∧ σ = [some (.int d), some (.int v), u]) ⟨rfl, _, none, by omega, by omega, rfl⟩ (fun i σ H2 hi _ => hi) (fun σ H2 _ => Nat.le_refl _) ?_ ?_
        · rintro i σ H2 x H' hi ⟨rfl, v, u, a1, a2, rfl⟩ ⟨rfl, rfl⟩
          walk_at "go"
          refine ⟨_, _, by omega, ?_, rfl⟩
          rw [Int.pow_succ]
          omega
        · rintro σ H2 ⟨rfl, v, u, a1, a2, rfl⟩
          have a3 := k9 (d / 8000 % 10).toNat (by omega)
          have a4 : v ≤ 10 ^ 30 := Int.le_trans a2 a3
          walk_at "go"
          refine ite2 (fun e => ?_) (fun e => ?_)
          · walk_at "go"
            exact k (-v) (sm_of (m := 10 ^ 30) (by omega))
          · walk_at "go"
            exact k v (sm_of (m := 10 ^ 30) (by omega))
/-! ### _law_huge -/
theorem k43 : ∀ n : Nat, n ≤ 43 → (1000000 : Int) ^ n ≤ 1000000 ^ 43 := fun n hn => by
  rw [show (43 : Nat) = n + (43 - n) by omega, Int.pow_add]
  have h1 : ∀ m : Nat, (1 : Int) ≤ 1000000 ^ m := fun m => by
    induction m with
    | zero => decide
    | succ m ih => rw [Int.pow_succ]; omega
  have := Int.mul_le_mul_of_nonneg_left (h1 (43 - n)) (show (0 : Int) ≤ 1000000 ^ n by have := h1 n; omega)
  omega
def spHuge : Sp := fun vs H Q _ => ∃ c : Int, vs = [.int c] ∧ ∀ (r : Int) H', Same H H' → Sn r → 0 ≤ r → Q (.int r) H'
theorem ok_huge (F : FnP K "_law_huge" s_huge f fd) (c_draws : Cal P w K mg base 1 "_law_draws" spDraws) : FnOk P w K mg base CX0 2 f fd P_huge spHuge := by
  refine F.ok sc_huge (fun vs H Q E h => ?_) (fun cdv A outer s H vs Q E hr h => ?_)
  · obtain ⟨c, rfl, _⟩ := h
    rfl
  · obtain ⟨c, rfl, k⟩ := h
    refine ⟨_, PSs.nox (pss_cons (ps_set (i := 1) sc_huge.nd rfl (by first | exact .inl rfl | exact .inr rfl) pe_int)
      (pss_cons (ps_for PassesOwn.never rfl (pi_list (pe_cl c_draws hr (by decide) (by rfl) (pa_cons (pv 0) (pa_cons pe_int pa_nil)))) (pg_name (i := 2) sc_huge.nd rfl (by first | exact .inl rfl | exact .inr rfl))
        (pss_one (ps_set (i := 1) sc_huge.nd rfl (by first | exact .inl rfl | exact .inr rfl) (pe_op op_add (pe_op op_mul (pv 1) pe_int) (pv 2)))))
      (pss_one (ps_ret (pv 1))))), ?_⟩
    walk_at "go"
    refine ⟨c, 43, rfl, by omega, fun p ds np hd => ?_⟩
    refine ⟨p, rfl, ⟨_, SqL.of upd_same⟩, ?_⟩
    have hs : SqL K (upd H p (.lst (ds.map V.int))) p (ds.map V.int) := SqL.of upd_same
    refine for_gen (n := 43) (fun i σ H2 => H2 = upd H p (.lst (ds.map V.int)) ∧ ∃ (v : Int) (u : Option V), 0 ≤ v ∧ v < 1000000 ^ i ∧ σ = [some (.int c), some (.int v), u]) ⟨rfl, 0, none, by omega, by decide, rfl⟩ ?_ ?_ ?_ ?_
    · rintro i σ H2 hi ⟨rfl, _⟩
      exact ⟨_, .int (ds[i]'(by rw [hd.1]; exact hi)), hs, by rw [List.getElem?_map, List.getElem?_eq_getElem]; rfl⟩
    · rintro σ H2 ⟨rfl, _⟩
      exact ⟨_, hs, by rw [List.length_map, hd.1]; omega⟩
    · rintro i σ H2 x H' hi ⟨rfl, v, u, a1, a2, rfl⟩ ⟨rfl, fx⟩
      obtain ⟨y, ey, rfl⟩ := of_map (fx _ hs)
      have hy := hd.2 y (List.mem_of_getElem? ey)
      walk_at "go"
      refine ⟨_, _, by omega, ?_, rfl⟩
      rw [Int.pow_succ]
      omega
    · rintro σ H2 ⟨rfl, v, u, a1, a2, rfl⟩
      walk_at "go"
      refine k v _ (same_new np) (sm_of (m := 1000000 ^ 43) ?_) a1
      have : ((1000000 ^ 43 : Nat) : Int) = (1000000 : Int) ^ 43 := by decide
      omega
/-! ### _law_int, _law_is_row -/
def spInt : Sp := fun vs H Q _ => ∃ n : Int, vs = [.int n] ∧ Q (.bl true) H
theorem ok_int (F : FnP K "_law_int" s_int f fd) (m_isinstance : mg "isinstance" = none) (m_int : mg "int" = none) (m_bool : mg "bool" = none) : FnOk P w K mg base CX0 1 f fd P_int spInt := by
  refine F.ok sc_int (fun vs H Q E h => ?_) (fun cdv A outer s H vs Q E hr h => ?_)
  · obtain ⟨n, rfl, _⟩ := h
    rfl
  · obtain ⟨n, rfl, k⟩ := h
    refine ⟨_, PSs.nox (pss_one (ps_ret (pe_and (pe_callB call_isi (by rfl) m_isinstance (by decide +kernel) (pa_cons (pv 0) (pa_cons (pe_bltn (v := .ty "int") (by rfl) m_int (by decide +kernel) rfl) pa_nil))) (pe_one (pe_not (pe_callB call_isi (by rfl) m_isinstance (by decide +kernel) (pa_cons (pv 0) (pa_cons (pe_bltn (v := .ty "bool") (by rfl) m_bool (by decide +kernel) rfl) pa_nil)))))))), ?_⟩
    walk_at "go"
    refine isi (c := "int") (b := true) (.int n) (by decide +kernel) ?_
    walk_at "go"
    refine isi (c := "bool") (b := false) (.int n) (by decide +kernel) ?_
    walk_at "go"
    exact k
def spIsRow : Sp := fun vs H Q _ => ∃ (p : Addr) (xs : List Int) (n : Nat), vs = [.ref p, .int (n : Int)] ∧ H p = some (.tup (xs.map V.int)) ∧ xs.length = n ∧ Q (.bl true) H
theorem ok_is_row (F : FnP K "_law_is_row" s_is_row f fd) (m_isinstance : mg "isinstance" = none) (m_tuple : mg "tuple" = none) (m_len : mg "len" = none) (c_int : Cal P w K mg base 1 "_law_int" spInt) : FnOk P w K mg base CX0 2 f fd P_is_row spIsRow := by
  refine F.ok sc_is_row (fun vs H Q E h => ?_) (fun cdv A outer s H vs Q E hr h => ?_)
  · obtain ⟨p, xs, n, rfl, _⟩ := h
    rfl
  · obtain ⟨p, xs, n, rfl, hp, hn, k⟩ := h
    refine ⟨_, PSs.nox (pss_cons (ps_if (PW.pt (pw_or (pt_not (pt_val (pe_callB call_isi (by rfl) m_isinstance (by decide +kernel) (pa_cons (pv 0) (pa_cons (pe_bltn (v := .ty "tuple") (by rfl) m_tuple (by decide +kernel) rfl) pa_nil))))) (pw_or1 (pt_cmpR op_ne (pe_callB call_len_seq (by rfl) m_len PySem.boot_len (pa_cons (pv 0) pa_nil)) (pv 1) (nomark _))))) (pss_one (ps_ret pe_bl)) pss_nil)
      (pss_cons (ps_for PassesOwn.never rfl (pi_tup (pv 0)) (pg_name (i := 2) sc_is_row.nd rfl (by first | exact .inl rfl | exact .inr rfl))
        (pss_one (ps_if (pt_not (pt_val (pe_cl c_int hr (by decide) (by rfl) (pa_cons (pv 2) pa_nil)))) (pss_one (ps_ret pe_bl)) pss_nil)))
      (pss_one (ps_ret pe_bl)))), ?_⟩
    walk_at "go"
    refine isi (c := "tuple") (b := true) (.tup hp) (by decide +kernel) ?_
    walk_at "go"
    refine ⟨p, _, rfl, .inr (SqT.of hp), ?_⟩
    rw [List.length_map, hn]
    walk_at "go"
    refine ite2 (fun e => ?_) (fun e => ?_)
    · exact absurd e (by simp)
    · refine ⟨_, rfl, p, rfl, ⟨_, SqT.of hp⟩, ?_⟩
      refine for_gen (n := n) (fun i σ H1 => H1 = H ∧ ∃ u : Option V, σ = [some (.ref p), some (.int (n : Int)), u]) ⟨rfl, none, rfl⟩ ?_ ?_ ?_ ?_
      · rintro i σ H1 hi ⟨rfl, _⟩
        have hi2 : i < xs.length := by omega
        exact ⟨_, .int xs[i], SqT.of hp, by rw [List.getElem?_map, List.getElem?_eq_getElem hi2]; rfl⟩
      · rintro σ H1 ⟨rfl, _⟩
        exact ⟨_, SqT.of hp, by rw [List.length_map]; omega⟩
      · rintro i σ H1 x H' hi ⟨rfl, u, rfl⟩ ⟨rfl, fx⟩
        obtain ⟨y, ey, rfl⟩ := of_map (fx _ (SqT.of hp))
        walk_at "go"
        exact ⟨_, rfl⟩
      · rintro σ H1 ⟨rfl, u, rfl⟩
        exact k
/-! ### _law_row -/
def spRow (K : PySem.W.Frag) : Sp := fun vs H Q _ => ∃ (a p : Addr) (n m wd : Nat) (ds : List Int), vs = [.ref a, .ref p, .int (wd : Int)] ∧ SqL K H a (ds.map V.int) ∧ Dr n ds ∧ H p = some (.lst [.int (m : Int)]) ∧ a ≠ p ∧ wd ≤ 1000 ∧
  ∀ (q : Addr) (rs : List Int) (m' : Nat) H', SB p H H' → H q = none → H' q = some (.lst (rs.map V.int)) → H' p = some (.lst [.int (m' : Int)]) → rs.length = wd → (∀ r ∈ rs, Sn r) → Q (.ref q) H'
theorem ok_row (F : FnP K "_law_row" s_row f fd) (m_range : mg "range" = none) (c_number : Cal P w K mg base 1 "_law_number" spNumber) (c_take : Cal P w K mg base 1 "_law_take" (spTake K)) : FnOk P w K mg base CX0 2 f fd P_row (spRow K) := by
  refine F.ok sc_row (fun vs H Q E h => ?_) (fun cdv A outer s H vs Q E hr h => ?_)
  · obtain ⟨a, p, n, m, wd, ds, rfl, _⟩ := h
    rfl
  · obtain ⟨a, p, n, m, wd, ds, rfl, hS, hd, hp, ne, hw, k⟩ := h
    refine ⟨_, PSs.nox (pss_one (ps_ret (pe_lc (own := [("_law_k", 3)]) (g := (gName 3)) (tt := tYes) (by rfl) sc_row.nd (pi_range1 (by rfl) m_range (pa_cons (pv 2) pa_nil)) (blkOk_by (own := [("_law_k", 3)]) (N := N_row) (sc := defScope s_row) (by decide +kernel)) (fun _ _ _ _ _ => (pg_name (i := 3) sc_row.nd rfl (by first | exact .inl rfl | exact .inr rfl))) (fun _ _ _ _ _ => pts_nil) (fun _ _ _ _ _ => (pe_cl c_number hr (by decide) (by rfl) (pa_cons (pe_cl c_take hr (by decide) (by rfl) (pa_cons (pv 0) (pa_cons (pv 1) pa_nil))) pa_nil)))))), ?_⟩
    walk_at "go"
    intro D nD
    have pD : p ≠ D := ne_of_none hp nD
    refine lc_gen (n := wd) (fun i H1 => ∃ (m' : Nat) (rs : List Int), SB p H H1 ∧ H1 D = some (.lst (rs.map V.int)) ∧ H1 p = some (.lst [.int (m' : Int)]) ∧ rs.length = i ∧ ∀ r ∈ rs, Sn r) ?_ ?_ ?_ ?_ ?_
    · refine ⟨m, [], Z.Same.sb (same_new nD), upd_same, ?_, rfl, fun r hr => nomatch hr⟩
      rw [upd_ne pD]
      exact hp
    · intro i H1 hi _
      show i < (wd : Int).toNat
      omega
    · intro H1 _
      show (wd : Int).toNat ≤ wd
      omega
    · rintro i H1 x H' hi ⟨m', rs, sb, eD, ep, lr, hs⟩ ⟨rfl, rfl⟩
      walk_at "go"
      refine ⟨a, p, n, m', ds, rfl, sb.sq ne hS, hd, ep, ne, fun r h0 h1 => ?_⟩
      walk_at "go"
      intro r' hr'
      refine ⟨rs.map V.int, ?_, ?_, m' + 1, rs ++ [r'], ?_, ?_, ?_, ?_, ?_⟩
      · rw [upd_ne pD.symm]
        exact eD
      · rw [List.length_map, lr]
        exact small1000 (by omega)
      · intro b o nb e
        rw [upd_ne (ne_of_none e nD), upd_ne nb]
        exact sb b o nb e
      · rw [upd_same, List.map_append]
        rfl
      · rw [upd_ne pD, upd_same]
      · rw [List.length_append, lr]
        rfl
      · intro x hx
        rcases List.mem_append.mp hx with h | h
        · exact hs x h
        · rw [List.mem_singleton.mp h]
          exact hr'
    · rintro H1 ⟨m', rs, sb, eD, ep, lr, hs⟩
      exact k D rs m' H1 sb nD eD ep lr hs
end
end Z
set_option Elab.async false
set_option linter.all false
set_option maxRecDepth 100000
set_option maxHeartbeats 4000000
namespace Z
open PySem PySem.Spec PyProof.Rows L2
open C8 (pss_cut tCut)
local macro_rules | `(tactic| walk_at "num") => `(tactic| first | rfl | omega | decide | exact Nat.le_of_lt (small1000 (by simp)) | exact ⟨by omega, by omega⟩ | exact ⟨by omega, by omega, by omega⟩ | exact ⟨by decide, by decide, by decide⟩ | exact Or.inl ⟨by omega, by omega⟩ | exact Or.inr ⟨by omega, by omega⟩)
local macro_rules | `(tactic| walk_at "go") => `(tactic| repeat (first | refine ⟨_, rfl, ?_⟩ | refine ⟨_, _, rfl, rfl, ?_⟩ | refine ⟨_, _, rfl, rfl, (by walk_at "num"), ?_⟩ | refine Or.inl ⟨_, rfl, ?_⟩ | refine ⟨rfl, ?_⟩ | refine And.intro (by walk_at "num") ?_))
abbrev s_combined : Stmt := topS 15
abbrev N_combined : List Str := ["_law_rows", "_law_factors", "_law_own_width", "_law_total", "_law_k", "_law_c"]
abbrev P_combined : List Str := ["_law_rows", "_law_factors", "_law_own_width"]
theorem sc_combined : FnScope N_combined P_combined (defScope s_combined) := ⟨rfl, rfl, rfl, by decide +kernel, rfl, by decide +kernel, by decide +kernel⟩
abbrev s_handed : Stmt := topS 16
abbrev N_handed : List Str := ["_law_rows", "_law_listed", "_law_row_here"]
abbrev P_handed : List Str := ["_law_rows", "_law_listed"]
theorem sc_handed : FnScope N_handed P_handed (defScope s_handed) := ⟨rfl, rfl, rfl, by decide +kernel, rfl, by decide +kernel, by decide +kernel⟩
theorem rep1 (v : V) : ∀ n : Nat, (List.replicate n [v]).flatten = List.replicate n v
  | 0 => rfl
  | n + 1 => by
    rw [List.replicate_succ, List.flatten_cons, rep1 v n]
    rfl
theorem sz {n m : Nat} (h : n < m) (hm : m ≤ 100000 := by omega) : n < sizeLine := Nat.lt_of_lt_of_le h (Nat.le_trans hm (by decide))
def sqO (b : Bool) (xs : List V) : HO := match b with
  | true => .lst xs
  | false => .tup xs
theorem sqO_K {b : Bool} {K : PySem.W.Frag} {H : Hp} {a : Addr} {xs : List V} (h : H a = some (sqO b xs)) : SqK b K H a xs := by
  cases b
  · exact .inl (.inl h)
  · exact .inl (.inl h)
/-- a fresh copy of a matrix -/
structure Cpy (b : Bool) (H H' : Hp) (p : Addr) (qs : List Addr) (rs : List (List Int)) : Prop where
  top : H' p = some (sqO b (qs.map V.ref))
  len : qs.length = rs.length
  row : ∀ (i : Nat) (q : Addr) (r : List Int), qs[i]? = some q → rs[i]? = some r → H' q = some (sqO b (r.map V.int))
  nd : qs.Nodup
  np : p ∉ qs
  new : H p = none ∧ ∀ q ∈ qs, H q = none
theorem Cpy.mat {b : Bool} {K : PySem.W.Frag} {H H' : Hp} {p : Addr} {qs : List Addr} {rs : List (List Int)} (c : Cpy b H H' p qs rs) : Mat b K H' p qs rs := ⟨sqO_K c.top, c.len, fun i q r h1 h2 => sqO_K (c.row i q r h1 h2)⟩
section
variable {P : Program} {w : World} {K : PySem.W.Frag} {mg : Str → Option Value} {base : Heap} {f : Addr} {fd : FuncData}
/-! ### _law_combined -/
def spCombined (K : PySem.W.Frag) : Sp := fun vs H Q _ => ∃ (R F : Addr) (ps : List Addr) (rs : List (List Int)) (fs : List Int) (wd : Nat), vs = [.ref R, .ref F, .int (wd : Int)] ∧ Mat true K H R ps rs ∧ SqL K H F (fs.map V.int) ∧ fs.length = rs.length ∧ (∀ r ∈ rs, r.length = wd) ∧ wd ≤ 1000 ∧ rs.length ≤ 1000 ∧ (∀ x ∈ fs, Sm x) ∧ (∀ r ∈ rs, ∀ y ∈ r, Sm y) ∧
  ∀ t H', Same H H' → H t = none → H' t = some (.lst ((combN rs fs wd rs.length).map V.int)) → Q (.ref t) H'
theorem ok_combined (F : FnP K "_law_combined" s_combined f fd) (m_range : mg "range" = none) (m_len : mg "len" = none) : FnOk P w K mg base CX0 1 f fd P_combined (spCombined K) := by
  refine F.ok sc_combined (fun vs H Q E h => ?_) (fun cdv A outer s H vs Q E hr h => ?_)
  · obtain ⟨R, F, ps, rs, fs, wd, rfl, _⟩ := h
    rfl
  · obtain ⟨R, F, ps, rs, fs, wd, rfl, hR, hF, hl, hw, hn, hm, hf, hy, k⟩ := h
    refine ⟨_, PSs.nox (pss_cons (ps_set (i := 3) sc_combined.nd rfl (by first | exact .inl rfl | exact .inr rfl) (pe_op op_rep (pe_lst (pa_cons pe_int pa_nil)) (pv 2)))
      (pss_cons (ps_for PassesOwn.never rfl (pi_range1 (by rfl) m_range (pa_cons (pe_callB call_len_seq (by rfl) m_len PySem.boot_len (pa_cons (pv 0) pa_nil)) pa_nil)) (pg_name (i := 4) sc_combined.nd rfl (by first | exact .inl rfl | exact .inr rfl))
        (pss_one (ps_set (i := 3) sc_combined.nd rfl (by first | exact .inl rfl | exact .inr rfl) (pe_lc (own := [("_law_c", 5)]) (g := (gName 5)) (tt := tYes) (by rfl) sc_combined.nd (pi_range1 (by rfl) m_range (pa_cons (pv 2) pa_nil)) (blkOk_by (own := [("_law_c", 5)]) (N := N_combined) (sc := defScope s_combined) (by decide +kernel)) (fun _ _ _ _ _ => (pg_name (i := 5) sc_combined.nd rfl (by first | exact .inl rfl | exact .inr rfl))) (fun _ _ _ _ _ => pts_nil) (fun _ _ _ _ _ => (pe_op op_add (pe_ix (ix_list_K (K := K) rfl) (pv 3) (pv 5) (fun _ _ => rfl)) (pe_op op_mulX (pe_ix (ix_list_K (K := K) rfl) (pv 1) (pv 4) (fun _ _ => rfl)) (pe_ix (ix_list_K (K := K) rfl) (pe_ix (ix_list_K (K := K) rfl) (pv 0) (pv 4) (fun _ _ => rfl)) (pv 5) (fun _ _ => rfl)))))))))
      (pss_one (ps_ret (pv 3))))), ?_⟩
    walk_at "go"
    intro t0 nt0
    have s0 : Same H (upd H t0 (.lst [.int 0])) := same_new nt0
    walk_at "go"
    refine ⟨t0, (wd : Int), _, rfl, rfl, upd_same, by omega, by omega, ?_, fun t nt => ?_⟩
    · show 1 * (wd : Int).toNat ≤ sizeLine
      exact Nat.le_trans (by omega : _ ≤ 1000) (by decide)
    walk_at "go"
    have s1 := s0.trans (same_new (o := .lst (List.replicate (wd : Int).toNat [V.int 0]).flatten) nt)
    refine ⟨R, _, rfl, .inl (s1.seq hR.1), ?_⟩
    rw [List.length_map, hR.2.1]
    walk_at "go"
    have tH : H t = none := Same.free s0 nt
    refine for_gen (n := rs.length) (fun i σ H1 => ∃ (t : Addr) (v v' : Option V), Same H H1 ∧ H t = none ∧ H1 t = some (.lst ((combN rs fs wd i).map V.int)) ∧ σ = [some (.ref R), some (.ref F), some (.int (wd : Int)), some (.ref t), v, v']) ?_ ?_ ?_ ?_ ?_
    · refine ⟨t, none, none, s1, tH, ?_, rfl⟩
      rw [upd_same, rep1]
      show some (HO.lst (List.replicate wd (V.int 0))) = some (HO.lst ((List.replicate wd (0 : Int)).map V.int))
      rw [List.map_replicate]
    · intro i σ H1 hi _
      show i < ((rs.length : Nat) : Int).toNat
      omega
    · intro σ H1 _
      show ((rs.length : Nat) : Int).toNat ≤ rs.length
      omega
    · rintro i σ H1 x H' hi ⟨t, v, v', s2, nt', e, rfl⟩ ⟨rfl, rfl⟩
      walk_at "go"
      intro D nD
      have hi2 : i < ps.length := by rw [hR.2.1]; exact hi
      have lr : rs[i].length = wd := hw _ (List.getElem_mem hi)
      have lc : (combN rs fs wd i).length = wd := combN_len hw i (by omega)
      have lz : (combN rs fs wd (i + 1)).length = wd := combN_len hw (i + 1) (by omega)
      refine lc_gen (n := wd) (fun c H2 => Same H' H2 ∧ H2 D = some (.lst (((combN rs fs wd (i + 1)).take c).map V.int))) ⟨same_new nD, upd_same⟩ ?_ ?_ ?_ ?_
      · intro c H2 hc _
        show c < (wd : Int).toNat
        omega
      · intro H2 _
        show (wd : Int).toNat ≤ wd
        omega
      · rintro c H2 x H3 hc ⟨s3, eD⟩ ⟨rfl, rfl⟩
        have s4 := s2.trans s3
        have c1 : c < (combN rs fs wd i).length := by omega
        have c2 : c < rs[i].length := by omega
        walk_at "go"
        refine ⟨t, _, _, _, rfl, rfl, SqL.of (s3 _ _ e), at_of (by omega) (show ((combN rs fs wd i).map V.int)[c]? = some (.int (combN rs fs wd i)[c]) by rw [List.getElem?_map, List.getElem?_eq_getElem c1]; rfl), ?_⟩
        walk_at "go"
        refine ⟨F, _, _, _, rfl, rfl, s4.seq hF, at_of (j := i) (by omega) (show (fs.map V.int)[i]? = some (.int fs[i]) by rw [List.getElem?_map, List.getElem?_eq_getElem (by omega)]; rfl), ?_⟩
        walk_at "go"
        refine ⟨R, _, _, _, rfl, rfl, s4.seq hR.1, at_of (j := i) (by omega) (show (ps.map V.ref)[i]? = some (.ref ps[i]) by rw [List.getElem?_map, List.getElem?_eq_getElem hi2]; rfl), ?_⟩
        walk_at "go"
        refine ⟨ps[i], _, _, _, rfl, rfl, s4.seq (hR.2.2 i _ _ (List.getElem?_eq_getElem hi2) (List.getElem?_eq_getElem hi)), at_of (j := c) (by omega) (show (rs[i].map V.int)[c]? = some (.int rs[i][c]) by rw [List.getElem?_map, List.getElem?_eq_getElem c2]; rfl), ?_⟩
        walk_at "go"
        refine ⟨big_mul (hf _ (List.getElem_mem _)) (hy _ (List.getElem_mem hi) _ (List.getElem_mem c2)), ?_⟩
        walk_at "go"
        refine ⟨_, eD, ?_, Z.Same.mut s3 nD, ?_⟩
        · rw [List.length_map, List.length_take]
          exact Nat.lt_of_le_of_lt (Nat.min_le_left _ _) (sz hc)
        · rw [upd_same, List.take_add_one, combN_at hi (by omega) c1 c2, List.map_append]
          rfl
      · rintro H2 ⟨s3, eD⟩
        rw [List.take_of_length_le (by omega)] at eD
        exact ⟨D, _, _, s2.trans s3, Same.free s2 nD, eD, rfl⟩
    · rintro σ H1 ⟨t, v, v', s2, nt', e, rfl⟩
      walk_at "go"
      exact k t H1 s2 nt' e
/-! ### _law_handed -/
/-- copies of the rows made so far -/
def Made (b : Bool) (H H1 : Hp) (D : Addr) (rs : List (List Int)) (i : Nat) : Prop := ∃ qs : List Addr, Same H H1 ∧ H1 D = some (.lst (qs.map V.ref)) ∧ qs.length = i ∧ (∀ (j : Nat) (q : Addr) (r : List Int), qs[j]? = some q → rs[j]? = some r → H1 q = some (sqO b (r.map V.int))) ∧ qs.Nodup ∧ ∀ q ∈ qs, H q = none ∧ q ≠ D ∧ H1 q ≠ none
theorem Made.step {b : Bool} {H H1 : Hp} {D l : Addr} {rs : List (List Int)} {i : Nat} {r : List Int} (nD : H D = none) (nl : H1 l = none) (er : rs[i]? = some r) {qs : List Addr} (s : Same H H1) (eD : H1 D = some (.lst (qs.map V.ref))) (ln : qs.length = i) (hq : ∀ (j : Nat) (q : Addr) (r : List Int), qs[j]? = some q → rs[j]? = some r → H1 q = some (sqO b (r.map V.int))) (nd : qs.Nodup) (fr : ∀ q ∈ qs, H q = none ∧ q ≠ D ∧ H1 q ≠ none) :
    Made b H (upd (upd H1 l (sqO b (r.map V.int))) D (.lst (qs.map V.ref ++ [.ref l]))) D rs (i + 1) := by
  have lD : l ≠ D := fun z => by rw [z, eD] at nl; cases nl
  refine ⟨qs ++ [l], Z.Same.mut (Same.trans s (same_new nl)) nD, by rw [upd_same, List.map_append]; rfl, by rw [List.length_append, ln]; rfl, fun j q r' h1 h2 => ?_, ?_, fun q hq' => ?_⟩
  · by_cases hj : j < qs.length
    · rw [List.getElem?_append_left hj] at h1
      have hm := fr q (List.mem_of_getElem? h1)
      rw [upd_ne hm.2.1, upd_ne (fun z => hm.2.2 (by rw [z]; exact nl))]
      exact hq j q r' h1 h2
    · rw [List.getElem?_append_right (by omega)] at h1
      have hj2 : j - qs.length = 0 := by
        apply Decidable.byContradiction
        intro z
        rw [List.getElem?_eq_none (by simp; omega)] at h1
        cases h1
      rw [hj2] at h1
      have e1 : l = q := Option.some.inj h1
      have e2 : j = i := by omega
      subst e1 e2
      rw [er] at h2
      cases h2
      rw [upd_ne lD, upd_same]
  · rw [List.nodup_append]
    refine ⟨nd, by simp, fun x hx y hy z => ?_⟩
    rw [List.mem_singleton.mp hy] at z
    exact (fr x hx).2.2 (by rw [z]; exact nl)
  · rcases List.mem_append.mp hq' with h | h
    · have hm := fr q h
      refine ⟨hm.1, hm.2.1, ?_⟩
      rw [upd_ne hm.2.1, upd_ne (fun z => hm.2.2 (by rw [z]; exact nl))]
      exact hm.2.2
    · rw [List.mem_singleton.mp h]
      exact ⟨Same.free s nl, lD, by rw [upd_ne lD, upd_same]; exact fun z => nomatch z⟩
theorem Made.start {b : Bool} {H : Hp} {D : Addr} {rs : List (List Int)} (nD : H D = none) : Made b H (upd H D (.lst [])) D rs 0 := ⟨[], same_new nD, upd_same, rfl, fun j q r h => by simp at h, List.nodup_nil, fun q h => nomatch h⟩
def spHanded (K : PySem.W.Frag) : Sp := fun vs H Q _ => ∃ (b : Bool) (R : Addr) (ps : List Addr) (rs : List (List Int)), vs = [.ref R, .bl b] ∧ Mat true K H R ps rs ∧ rs.length ≤ 1000 ∧ ∀ p qs H', Same H H' → Cpy b H H' p qs rs → Q (.ref p) H'
theorem ok_handed (F : FnP K "_law_handed" s_handed f fd) (m_list : mg "list" = none) (m_tuple : mg "tuple" = none) : FnOk P w K mg base CX0 1 f fd P_handed (spHanded K) := by
  refine F.ok sc_handed (fun vs H Q E h => ?_) (fun cdv A outer s H vs Q E hr h => ?_)
  · obtain ⟨b, R, ps, rs, rfl, _⟩ := h
    rfl
  · obtain ⟨b, R, ps, rs, rfl, hR, hn, k⟩ := h
    refine ⟨_, PSs.nox (pss_cons (ps_if (pt_val (pv 1)) (pss_one (ps_ret (pe_lc (own := [("_law_row_here", 2)]) (g := (gName 2)) (tt := tYes) (by rfl) sc_handed.nd (pi_list (pv 0)) (blkOk_by (own := [("_law_row_here", 2)]) (N := N_handed) (sc := defScope s_handed) (by decide +kernel)) (fun _ _ _ _ _ => (pg_name (i := 2) sc_handed.nd rfl (by first | exact .inl rfl | exact .inr rfl))) (fun _ _ _ _ _ => pts_nil) (fun _ _ _ _ _ => (pe_callTy (call_list_of_K (K := K) rfl) (by rfl) m_list (by decide +kernel) (pa_cons (pv 2) pa_nil)))))) pss_nil)
      (pss_one (ps_ret (pe_callTy call_tuple_of (by rfl) m_tuple (by decide +kernel) (pa_cons (pe_lc (own := [("_law_row_here", 2)]) (g := (gName 2)) (tt := tYes) (by rfl) sc_handed.nd (pi_list (pv 0)) (blkOk_by (own := [("_law_row_here", 2)]) (N := N_handed) (sc := defScope s_handed) (by decide +kernel)) (fun _ _ _ _ _ => (pg_name (i := 2) sc_handed.nd rfl (by first | exact .inl rfl | exact .inr rfl))) (fun _ _ _ _ _ => pts_nil) (fun _ _ _ _ _ => (pe_callTy (call_tuple_of_K (K := K) rfl) (by rfl) m_tuple (by decide +kernel) (pa_cons (pv 2) pa_nil)))) pa_nil))))), ?_⟩
    walk_at "go"
    cases b
    · refine iteF ?_
      walk_at "go"
      refine ⟨⟨_, hR.1⟩, fun D nD => ?_⟩
      refine lc_gen (n := rs.length) (fun i H1 => Made false H H1 D rs i) (Made.start nD) ?_ ?_ ?_ ?_
      · rintro i H1 hi ⟨qs, s, _⟩
        have hi2 : i < ps.length := by rw [hR.2.1]; exact hi
        exact ⟨_, .ref ps[i], s.seq hR.1, by rw [List.getElem?_map, List.getElem?_eq_getElem hi2]; rfl⟩
      · rintro H1 ⟨qs, s, _⟩
        exact ⟨_, s.seq hR.1, by rw [List.length_map, hR.2.1]; omega⟩
      · rintro i H1 x H' hi ⟨qs, s, eD, ln, hq, nd, fr⟩ ⟨rfl, fx⟩
        obtain ⟨p, ep, rfl⟩ := of_map (fx _ (s.seq hR.1))
        have er : rs[i]? = some rs[i] := List.getElem?_eq_getElem hi
        walk_at "go"
        refine ⟨p, _, rfl, .inl ⟨s.seq (hR.2.2 i p _ ep er), fun l nl => ?_⟩⟩
        refine ⟨qs.map V.ref, ?_, ?_, Made.step nD nl er s eD ln hq nd fr⟩
        · rw [upd_ne (ne_of_none eD nl)]
          exact eD
        · rw [List.length_map, ln]
          exact sz hi
      · rintro H1 ⟨qs, s, eD, ln, hq, nd, fr⟩
        refine ⟨D, _, rfl, .inl ⟨SqL.of eD, fun t nt => ?_⟩⟩
        have tq : ∀ q ∈ qs, q ≠ t := fun q h z => (fr q h).2.2 (by rw [z]; exact nt)
        refine k t qs _ (s.trans (same_new nt)) ⟨upd_same, ln, fun j q r h1 h2 => ?_, nd, fun z => tq t z rfl, Same.free s nt, fun q h => (fr q h).1⟩
        rw [upd_ne (tq q (List.mem_of_getElem? h1))]
        exact hq j q r h1 h2
    · refine iteT ?_
      walk_at "go"
      refine ⟨⟨_, hR.1⟩, fun D nD => ?_⟩
      refine lc_gen (n := rs.length) (fun i H1 => Made true H H1 D rs i) (Made.start nD) ?_ ?_ ?_ ?_
      · rintro i H1 hi ⟨qs, s, _⟩
        have hi2 : i < ps.length := by rw [hR.2.1]; exact hi
        exact ⟨_, .ref ps[i], s.seq hR.1, by rw [List.getElem?_map, List.getElem?_eq_getElem hi2]; rfl⟩
      · rintro H1 ⟨qs, s, _⟩
        exact ⟨_, s.seq hR.1, by rw [List.length_map, hR.2.1]; omega⟩
      · rintro i H1 x H' hi ⟨qs, s, eD, ln, hq, nd, fr⟩ ⟨rfl, fx⟩
        obtain ⟨p, ep, rfl⟩ := of_map (fx _ (s.seq hR.1))
        have er : rs[i]? = some rs[i] := List.getElem?_eq_getElem hi
        walk_at "go"
        refine ⟨p, _, rfl, .inl (s.seq (hR.2.2 i p _ ep er)), fun l nl => ?_⟩
        refine ⟨qs.map V.ref, ?_, ?_, Made.step nD nl er s eD ln hq nd fr⟩
        · rw [upd_ne (ne_of_none eD nl)]
          exact eD
        · rw [List.length_map, ln]
          exact sz hi
      · rintro H1 ⟨qs, s, eD, ln, hq, nd, fr⟩
        exact k D qs H1 s ⟨eD, ln, hq, nd, fun z => (fr D z).2.1 rfl, nD, fun q h => (fr q h).1⟩
end
end Z
set_option Elab.async false
set_option linter.all false
set_option maxRecDepth 100000
set_option maxHeartbeats 4000000
namespace Z
open PySem PySem.Spec PyProof.Rows L2
open C8 (pss_cut tCut)
local macro_rules | `(tactic| walk_at "num") => `(tactic| first | rfl | omega | decide | exact Nat.le_of_lt (small1000 (by simp)) | exact ⟨by omega, by omega⟩ | exact ⟨by omega, by omega, by omega⟩ | exact ⟨by decide, by decide, by decide⟩ | exact Or.inl ⟨by omega, by omega⟩ | exact Or.inr ⟨by omega, by omega⟩)
local macro_rules | `(tactic| walk_at "go") => `(tactic| repeat (first | refine ⟨_, rfl, ?_⟩ | refine ⟨_, _, rfl, rfl, ?_⟩ | refine ⟨_, _, rfl, rfl, (by walk_at "num"), ?_⟩ | refine Or.inl ⟨_, rfl, ?_⟩ | refine ⟨rfl, ?_⟩ | refine And.intro (by walk_at "num") ?_))
abbrev s_combines : Stmt := topS 17
abbrev N_combines : List Str := ["_law_rows", "_law_factors", "_law_own_width", "_law_listed", "_law_given", "_law_numbers", "_law_due", "_law_turn", "_law_actual", "_law_empty"]
abbrev P_combines : List Str := ["_law_rows", "_law_factors", "_law_own_width", "_law_listed"]
theorem sc_combines : FnScope N_combines P_combines (defScope s_combines) := ⟨rfl, rfl, rfl, by decide +kernel, rfl, by decide +kernel, by decide +kernel⟩
theorem combN_ext {rs rs' : List (List Int)} {fs : List Int} {w : Nat} : ∀ n, (∀ i, i < n → rs.getD i [] = rs'.getD i []) → combN rs fs w n = combN rs' fs w n
  | 0, _ => rfl
  | n + 1, h => by
    rw [combN, combN, combN_ext n (fun i hi => h i (by omega)), h n (by omega)]
theorem getD_app {α : Type} (l : List α) (x d : α) : (l ++ [x]).getD l.length d = x := by
  rw [List.getD_eq_getElem?_getD, List.getElem?_append_right (Nat.le_refl _), Nat.sub_self]
  rfl
theorem combN_bump {ini : List (List Int)} {fi : List Int} {r0 fl : Int} {r' : List Int} {w : Nat} (hl : fi.length = ini.length) (hw : ∀ r ∈ ini ++ [r0 :: r'], r.length = w) (a : Int) (c : List Int) (e : combN (ini ++ [r0 :: r']) (fi ++ [fl]) w (ini ++ [r0 :: r']).length = a :: c) :
    combN (ini ++ [(r0 + 1) :: r']) (fi ++ [fl]) w (ini ++ [r0 :: r']).length = (a + fl) :: c := by
  have l1 : (ini ++ [r0 :: r']).length = ini.length + 1 := by rw [List.length_append]; rfl
  rw [l1] at e ⊢
  rw [combN] at e ⊢
  rw [getD_app, ← hl, getD_app, hl] at e
  rw [getD_app, ← hl, getD_app, hl]
  have e2 : combN (ini ++ [(r0 + 1) :: r']) (fi ++ [fl]) w ini.length = combN (ini ++ [r0 :: r']) (fi ++ [fl]) w ini.length := combN_ext _ fun i hi => by
    rw [List.getD_eq_getElem?_getD, List.getD_eq_getElem?_getD, List.getElem?_append_left hi, List.getElem?_append_left hi]
  rw [e2]
  cases hA : combN (ini ++ [r0 :: r']) (fi ++ [fl]) w ini.length with
  | nil => rw [hA] at e; cases e
  | cons x A =>
    rw [hA] at e
    rw [List.zipWith_cons_cons] at e ⊢
    have e3 := List.cons.inj e
    rw [← e3.1, ← e3.2, Int.mul_add, Int.mul_one, Int.add_assoc]
theorem ixN_zero {n : Nat} (h : 0 < n) : ixN n 0 = some 0 := by
  unfold ixN
  rw [if_pos (by omega), if_pos (by omega)]
  rfl
theorem last_of {α : Type} {l : List α} (h : 0 < l.length) : ∃ i x, l = i ++ [x] := ⟨l.dropLast, l.getLast (List.length_pos_iff.mp h), (List.dropLast_concat_getLast _).symm⟩
section
variable {P : Program} {w : World} {K : PySem.W.Frag} {mg : Str → Option Value} {base : Heap} {f : Addr} {fd : FuncData}
def spCombines (K : PySem.W.Frag) : Sp := fun vs H Q _ => ∃ (b : Bool) (R F : Addr) (ps : List Addr) (rs : List (List Int)) (fs : List Int) (wd : Nat), vs = [.ref R, .ref F, .int (wd : Int), .bl b] ∧ Mat true K H R ps rs ∧ SqL K H F (fs.map V.int) ∧ fs.length = rs.length ∧ (∀ r ∈ rs, r.length = wd) ∧ wd ≤ 900 ∧ rs.length ≤ 900 ∧ (∀ x ∈ fs, Sm x) ∧ (∀ r ∈ rs, ∀ y ∈ r, Sm y ∧ Sm (y + 1)) ∧
  ∀ H', Same H H' → Q (.bl true) H'
theorem ok_combines (F : FnP K "_law_combines" s_combines f fd) (m_range : mg "range" = none) (m_len : mg "len" = none) (m_list : mg "list" = none) (c_handed : Cal P w K mg base 1 "_law_handed" (spHanded K)) (c_combined : Cal P w K mg base 1 "_law_combined" (spCombined K)) (c_is_row : Cal P w K mg base 2 "_law_is_row" spIsRow)
    (c_combine : CalK P w K mg base 2 "combine" 2 ["width"] (fun vs zs => vs ++ zs) (spComb K)) : FnOk P w K mg base CX0 3 f fd P_combines (spCombines K) := by
  refine F.ok sc_combines (fun vs H Q E h => ?_) (fun cdv A outer s H vs Q E hr h => ?_)
  · obtain ⟨b, R, F, ps, rs, fs, wd, rfl, _⟩ := h
    rfl
  · obtain ⟨b, R, F, ps, rs, fs, wd, rfl, hR, hF, hl, hw, hn, hm, hf, hy, k⟩ := h
    have hy1 : ∀ r ∈ rs, ∀ y ∈ r, Sm y := fun r h1 y h2 => (hy r h1 y h2).1
    refine ⟨_, PSs.nox (pss_cons (ps_set (i := 4) sc_combines.nd rfl (by first | exact .inl rfl | exact .inr rfl) (pe_cl c_handed hr (by decide) (by rfl) (pa_cons (pv 0) (pa_cons (pv 3) pa_nil))))
      (pss_cons (ps_set (i := 5) sc_combines.nd rfl (by first | exact .inl rfl | exact .inr rfl) (pe_ix ix_seq (pe_cl c_handed hr (by decide) (by rfl) (pa_cons (pe_lst (pa_cons (pv 1) pa_nil)) (pa_cons (pv 3) pa_nil))) pe_int (fun _ _ => rfl)))
      (pss_cons (ps_set (i := 6) sc_combines.nd rfl (by first | exact .inl rfl | exact .inr rfl) (pe_cl c_combined hr (by decide) (by rfl) (pa_cons (pv 0) (pa_cons (pv 1) (pa_cons (pv 2) pa_nil)))))
      (pss_cons (ps_for PassesOwn.never rfl (pi_range1 (by rfl) m_range (pa_cons pe_int pa_nil)) (pg_name (i := 7) sc_combines.nd rfl (by first | exact .inl rfl | exact .inr rfl))
        (pss_cons (ps_set (i := 8) sc_combines.nd rfl (by first | exact .inl rfl | exact .inr rfl) (pe_clK c_combine hr (by decide) (by rfl) (pa_cons (pv 4) (pa_cons (pv 5) pa_nil)) (pk_cons (pv 2) pk_nil)))
      (pss_one (ps_if (PW.pt (pw_or (pt_not (pt_val (pe_cl c_is_row hr (by decide) (by rfl) (pa_cons (pv 8) (pa_cons (pv 2) pa_nil))))) (pw_or1 (pt_cmpR (op_neD hr.units) (pe_callTy call_list_of (by rfl) m_list (by decide +kernel) (pa_cons (pv 8) pa_nil)) (pv 6) (nomark _))))) (pss_one (ps_ret pe_bl)) pss_nil))))
      (pss_cons (ps_if (PW.pt (pw_or (pt_cmpR (op_neD hr.units) (pv 4) (pe_cl c_handed hr (by decide) (by rfl) (pa_cons (pv 0) (pa_cons (pv 3) pa_nil))) (nomark _)) (pw_or1 (pt_cmpR (op_neD hr.units) (pe_callTy call_list_of (by rfl) m_list (by decide +kernel) (pa_cons (pv 5) pa_nil)) (pv 1) (nomark _))))) (pss_one (ps_ret pe_bl)) pss_nil)
      (pss_cut (ps_if (PW.pt (pw_and (pt_val (pv 3)) (pw_and (pt_cmpR op_gt (pe_callB call_len_seq (by rfl) m_len PySem.boot_len (pa_cons (pv 0) pa_nil)) pe_int (nomark _)) (pw_and1 (pt_cmpR op_gt (pv 2) pe_int (nomark _)))))) (pss_cons (ps_asg (pe_op op_add (pe_ix ix_list (pe_ix ix_list (pv 4) (pe_un un_neg pe_int) (fun _ _ => rfl)) pe_int (fun _ _ => rfl)) pe_int) (pg_sub (pe_ix ix_list (pv 4) (pe_un un_neg pe_int) (fun _ _ => rfl)) pe_int set_list))
      (pss_cons (ps_asg (pe_op op_add (pe_ix ix_list (pv 6) pe_int (fun _ _ => rfl)) (pe_ix ix_list (pv 1) (pe_un un_neg pe_int) (fun _ _ => rfl))) (pg_sub (pv 6) pe_int set_list))
      (pss_cons (ps_set (i := 8) sc_combines.nd rfl (by first | exact .inl rfl | exact .inr rfl) (pe_clK c_combine hr (by decide) (by rfl) (pa_cons (pv 4) (pa_cons (pv 5) pa_nil)) (pk_cons (pv 2) pk_nil)))
      (pss_one (ps_if (PW.pt (pw_or (pt_not (pt_val (pe_cl c_is_row hr (by decide) (by rfl) (pa_cons (pv 8) (pa_cons (pv 2) pa_nil))))) (pw_or1 (pt_cmpR (op_neD hr.units) (pe_callTy call_list_of (by rfl) m_list (by decide +kernel) (pa_cons (pv 8) pa_nil)) (pv 6) (nomark _))))) (pss_one (ps_ret pe_bl)) pss_nil))))) pss_nil)
      (pss_cons (ps_set (i := 9) sc_combines.nd rfl (by first | exact .inl rfl | exact .inr rfl) (pe_clK c_combine hr (by decide) (by rfl) (pa_cons (pe_lst pa_nil) (pa_cons (pe_tup pa_nil) pa_nil)) (pk_cons (pv 2) pk_nil)))
      (pss_one (ps_ret (pe_and (pe_cl c_is_row hr (by decide) (by rfl) (pa_cons (pv 9) (pa_cons (pv 2) pa_nil))) (pe_one (pe_cmpR (op_eqD hr.units) (pe_callTy call_list_of (by rfl) m_list (by decide +kernel) (pa_cons (pv 9) pa_nil)) (pe_op op_rep (pe_lst (pa_cons pe_int pa_nil)) (pv 2)) (nomark _))))))))))))), ?_⟩
    walk_at "go"
    -- given
    refine ⟨b, R, ps, rs, rfl, hR, by omega, fun g gs H1 s1 c1 => ?_⟩
    walk_at "go"
    -- numbers
    intro l nl
    walk_at "go"
    have s2 := s1.trans (same_new (o := .lst [.ref F]) nl)
    refine ⟨b, l, [F], [fs], rfl, ⟨SqL.of upd_same, rfl, fun i p r h1 h2 => ?_⟩, by simp, fun nn ns H2 s3 c2 => ?_⟩
    · cases i with
      | zero =>
        cases h1
        cases h2
        exact s2.seq hF
      | succ i => simp at h1
    have nl1 : ns.length = 1 := c2.len
    obtain ⟨nq, rfl⟩ : ∃ nq, ns = [nq] := by
      cases ns with
      | nil => cases nl1
      | cons x r =>
        cases r with
        | nil => exact ⟨x, rfl⟩
        | cons y r => cases nl1
    have s4 := s2.trans s3
    have hN : H2 nq = some (sqO b (fs.map V.int)) := c2.row 0 nq fs rfl rfl
    have s14 : Same H1 H2 := (same_new nl).trans s3
    walk_at "go"
    have pick : ∀ R' : V → Hp → Prop, R' (.ref nq) H2 → rIx K (.ref nn) (.int 0) H2 R' := by
      intro R' q
      cases b
      · exact .inr (.inl ⟨nn, [.ref nq], 0, .ref nq, rfl, rfl, SqT.of c2.top, rfl, q⟩)
      · exact .inl ⟨nn, [.ref nq], 0, .ref nq, rfl, rfl, SqL.of c2.top, rfl, q⟩
    refine pick _ ?_
    -- due
    walk_at "go"
    refine ⟨R, F, ps, rs, fs, wd, rfl, hR.mono s4, s4.seq hF, hl, hw, by omega, by omega, hf, hy1, fun du H3 s5 ndu edu => ?_⟩
    have s6 := s4.trans s5
    walk_at "go"
    -- the two turns
    have hC : (combN rs fs wd rs.length).length = wd := combN_len hw _ (Nat.le_refl _)
    have mG : Mat b K H3 g gs rs := (c1.mat.mono s14).mono s5
    have nG : SqK b K H3 nq (fs.map V.int) := Z.Same.sqK s5 (sqO_K hN)
    refine for_gen (n := 2) (fun i σ H4 => Same H3 H4 ∧ ∃ v v' : Option V, σ = [some (.ref R), some (.ref F), some (.int (wd : Int)), some (.bl b), some (.ref g), some (.ref nq), some (.ref du), v, v', none]) ⟨Same.refl _, none, none, rfl⟩ (fun i σ H4 hi _ => hi) (fun σ H4 _ => Nat.le_refl _) ?_ ?_
    · rintro i σ H4 x H' hi ⟨s7, v, v', rfl⟩ ⟨rfl, rfl⟩
      walk_at "go"
      refine ⟨b, b, g, nq, gs, rs, fs, wd, rfl, mG.mono s7, Z.Same.sqK s7 nG, hl, hw, by omega, by omega, hf, hy1, fun t H5 s8 et => ?_⟩
      walk_at "go"
      refine ⟨t, _, wd, rfl, et, hC, ?_⟩
      walk_at "go"
      refine ⟨t, _, rfl, .inr (SqT.of et), fun l2 nl2 => ?_⟩
      walk_at "go"
      have s9 := (s7.trans s8).trans (same_new (o := .lst ((combN rs fs wd rs.length).map V.int)) nl2)
      refine same2 (d := intsD true (combN rs fs wd rs.length)) (dp_ints (SqL.of upd_same)) (dp_ints (SqL.of (s9 _ _ edu))) (shaped_ints _ _) ?_
      rw [eqv_same (shaped_ints _ _)]
      walk_at "go"
      exact ⟨_, _, rfl⟩
    · rintro σ H4 ⟨s7, v, v', rfl⟩
      walk_at "go"
      refine ⟨b, R, ps, rs, rfl, hR.mono (s6.trans s7), by omega, fun g2 gs2 H5 s8 c3 => ?_⟩
      have s9 := s7.trans s8
      have s10 := s6.trans s9
      walk_at "go"
      refine same2 (d := matD b rs) (mG.mono s9).dp c3.mat.dp (shaped_mat _ _) ?_
      rw [eqv_same (shaped_mat _ _)]
      walk_at "go"
      refine ⟨nq, fs.map V.int, rfl, (by have z := Z.Same.sqK s9 nG; cases b; exact .inr z; exact .inl z), fun l2 nl2 => ?_⟩
      have s11 := s9.trans (same_new (o := .lst (fs.map V.int)) nl2)
      have s12 := s6.trans s11
      walk_at "go"
      refine same2 (d := intsD true fs) (dp_ints (SqL.of upd_same)) (dp_ints (show SqK true K _ F _ from s12.seq hF)) (shaped_ints _ _) ?_
      rw [eqv_same (shaped_ints _ _)]
      walk_at "go"
      generalize eH : upd H5 l2 (.lst (fs.map V.int)) = H6 at s11 s12 ⊢
      clear eH nl2
      refine ⟨fun σ H7 => Same H H7 ∧ ∃ v v' : Option V, σ = [some (.ref R), some (.ref F), some (.int (wd : Int)), some (.bl b), some (.ref g), some (.ref nq), some (.ref du), v, v', none], ?_, ?_⟩
      · have out : Same H H6 ∧ ∃ u u' : Option V, [some (.ref R), some (.ref F), some (.int (wd : Int)), some (.bl b), some (.ref g), some (.ref nq), some (.ref du), v, v', none] = [some (.ref R), some (.ref F), some (.int (wd : Int)), some (.bl b), some (.ref g), some (.ref nq), some (.ref du), u, u', none] := ⟨s12, v, v', rfl⟩
        cases b with
        | false =>
          walk_at "go"
          exact out.2
        | true =>
          walk_at "go"
          refine ⟨R, _, rfl, .inl (s12.seq hR.1), ?_⟩
          rw [List.length_map, hR.2.1]
          walk_at "go"
          refine ite2 (fun e => ?_) (fun e => out)
          have hr0 : 0 < rs.length := by have := of_decide_eq_true e; omega
          walk_at "go"
          refine ite2 (fun e' => ?_) (fun e' => out)
          have hw0 : 0 < wd := by have := of_decide_eq_true e'; omega
          obtain ⟨ini, r, rfl⟩ := last_of hr0
          obtain ⟨fi, fl, rfl⟩ := last_of (l := fs) (by omega)
          have hg0 : 0 < gs.length := by rw [c1.len]; exact hr0
          obtain ⟨gi, gl, rfl⟩ := last_of hg0
          have hrl : r.length = wd := hw r (List.mem_append_right _ List.mem_cons_self)
          obtain ⟨r0, r', rfl⟩ : ∃ x y, r = x :: y := by
            cases r with
            | nil => simp at hrl; omega
            | cons x y => exact ⟨x, y, rfl⟩
          have lfi : fi.length = ini.length := by simpa using hl
          have lgi : gi.length = ini.length := by simpa using c1.len
          obtain ⟨a, c, eac⟩ : ∃ x y, combN (ini ++ [r0 :: r']) (fi ++ [fl]) wd (ini ++ [r0 :: r']).length = x :: y := by
            cases hA : combN (ini ++ [r0 :: r']) (fi ++ [fl]) wd (ini ++ [r0 :: r']).length with
            | nil => rw [hA] at hC; simp at hC; omega
            | cons x y => exact ⟨x, y, rfl⟩
          have s1x : Same H1 H6 := (s14.trans s5).trans s11
          have eg : H6 g = some (.lst ((gi ++ [gl]).map V.ref)) := s1x _ _ c1.top
          have egl : H6 gl = some (.lst ((r0 :: r').map V.int)) := s1x _ _ (c1.row ini.length gl (r0 :: r') (by rw [← lgi, List.getElem?_append_right (Nat.le_refl _), Nat.sub_self]; rfl) (by rw [List.getElem?_append_right (Nat.le_refl _), Nat.sub_self]; rfl))
          have hlast : atI ((gi ++ [gl]).map V.ref) (-1) = some (.ref gl) := by rw [List.map_append]; exact atI_last _ _
          -- given[-1][0] = given[-1][0] + 1
          walk_at "go"
          refine ⟨g, _, _, _, rfl, rfl, SqL.of eg, hlast, ?_⟩
          walk_at "go"
          refine ⟨gl, _, 0, .int r0, rfl, rfl, SqL.of egl, at_of (j := 0) rfl rfl, ?_⟩
          walk_at "go"
          refine ⟨g, _, _, _, rfl, rfl, SqL.of eg, hlast, ?_⟩
          walk_at "go"
          refine ⟨gl, _, 0, 0, rfl, rfl, egl, ixN_zero (by simp), ?_⟩
          have memgl : gl ∈ gi ++ [gl] := List.mem_append_right _ List.mem_cons_self
          have s15 : Same H (upd H6 gl (.lst (((r0 :: r').map V.int).set 0 (.int (r0 + 1))))) := Z.Same.mut s12 (c1.new.2 gl memgl)
          have h2gl : H2 gl = some (.lst ((r0 :: r').map V.int)) := s14 _ _ (c1.row ini.length gl (r0 :: r') (by rw [← lgi, List.getElem?_append_right (Nat.le_refl _), Nat.sub_self]; rfl) (by rw [List.getElem?_append_right (Nat.le_refl _), Nat.sub_self]; rfl))
          have dugl : du ≠ gl := (ne_of_none h2gl ndu).symm
          have edu6 : H6 du = some (.lst ((a :: c).map V.int)) := by rw [← eac]; exact s11 _ _ edu
          have gN : g ≠ gl := fun z => c1.np (by rw [z]; exact memgl)
          have gdu : g ≠ du := ne_of_none (s14 _ _ c1.top) ndu
          have nqdu : nq ≠ du := ne_of_none hN ndu
          have nqgl : nq ≠ gl := fun z => by
            have h0 := c2.new.2 nq List.mem_cons_self
            rw [z] at h0
            have h1 := (same_new (o := .lst [.ref F]) nl) _ _ (c1.row ini.length gl (r0 :: r') (by rw [← lgi, List.getElem?_append_right (Nat.le_refl _), Nat.sub_self]; rfl) (by rw [List.getElem?_append_right (Nat.le_refl _), Nat.sub_self]; rfl))
            rw [h0] at h1
            cases h1
          have e8 : (upd H6 gl (.lst (((r0 :: r').map V.int).set 0 (.int (r0 + 1))))) du = some (.lst ((a :: c).map V.int)) := by rw [upd_ne dugl]; exact edu6
          -- due[0] = due[0] + factors[-1]
          walk_at "go"
          refine ⟨du, _, 0, .int a, rfl, rfl, SqL.of e8, at_of (j := 0) rfl rfl, ?_⟩
          walk_at "go"
          refine ⟨F, _, _, .int fl, rfl, rfl, s15.seq hF, by rw [List.map_append]; exact atI_last _ _, ?_⟩
          walk_at "go"
          refine ⟨du, _, 0, 0, rfl, rfl, e8, ixN_zero (by simp), ?_⟩
          have g9 : ∀ x o, x ≠ gl → x ≠ du → H6 x = some o → (upd (upd H6 gl (.lst (((r0 :: r').map V.int).set 0 (.int (r0 + 1))))) du (.lst (((a :: c).map V.int).set 0 (.int (a + fl))))) x = some o := fun x o n1 n2 h => by rw [upd_ne n2, upd_ne n1]; exact h
          have gl9 : (upd (upd H6 gl (.lst (((r0 :: r').map V.int).set 0 (.int (r0 + 1))))) du (.lst (((a :: c).map V.int).set 0 (.int (a + fl))))) gl = some (.lst ((((r0 + 1) :: r')).map V.int)) := by rw [upd_ne dugl.symm, upd_same]; rfl
          have du9 : (upd (upd H6 gl (.lst (((r0 :: r').map V.int).set 0 (.int (r0 + 1))))) du (.lst (((a :: c).map V.int).set 0 (.int (a + fl))))) du = some (.lst ((((a + fl) :: c)).map V.int)) := by rw [upd_same]; rfl
          have s16 := Z.Same.mut (o := .lst (((a :: c).map V.int).set 0 (.int (a + fl)))) s15 (show H du = none from Same.free s4 ndu)
          generalize (upd (upd H6 gl (.lst (((r0 :: r').map V.int).set 0 (.int (r0 + 1))))) du (.lst (((a :: c).map V.int).set 0 (.int (a + fl))))) = H9 at g9 gl9 du9 s16 ⊢
          have ebump := combN_bump lfi hw a c eac
          have leq : (ini ++ [(r0 + 1) :: r']).length = (ini ++ [r0 :: r']).length := by rw [List.length_append, List.length_append]; rfl
          have hC' : ((a + fl) :: c).length = wd := by rw [eac] at hC; exact hC
          have hw' : ∀ r ∈ ini ++ [(r0 + 1) :: r'], r.length = wd := fun r hr => by
            rcases List.mem_append.mp hr with h | h
            · exact hw r (List.mem_append_left _ h)
            · rw [List.mem_singleton.mp h]
              exact hrl
          have mat9 : Mat true K H9 g (gi ++ [gl]) (ini ++ [(r0 + 1) :: r']) := by
            refine ⟨SqL.of (g9 _ _ gN gdu eg), by rw [leq]; exact c1.len, fun i p r h1 h2 => ?_⟩
            by_cases hi : i < ini.length
            · rw [List.getElem?_append_left (by omega)] at h1
              rw [List.getElem?_append_left hi] at h2
              have hmem : p ∈ gi := List.mem_of_getElem? h1
              have pgl : p ≠ gl := fun z => by
                have hnd := List.nodup_append.mp c1.nd
                exact hnd.2.2 p hmem gl List.mem_cons_self z
              have hp1 := c1.row i p r (by rw [List.getElem?_append_left (by omega)]; exact h1) (by rw [List.getElem?_append_left hi]; exact h2)
              exact SqL.of (g9 _ _ pgl (ne_of_none (s14 _ _ hp1) ndu) (s1x _ _ hp1))
            · rw [List.getElem?_append_right (by omega)] at h1 h2
              have hi2 : i - ini.length = 0 := by
                apply Decidable.byContradiction
                intro z
                rw [List.getElem?_eq_none (by simp; omega)] at h2
                cases h2
              rw [hi2] at h2
              rw [lgi, hi2] at h1
              cases h1
              cases h2
              exact SqL.of gl9
          walk_at "go"
          refine ⟨true, true, g, nq, _, _, fi ++ [fl], wd, rfl, mat9, SqL.of (g9 _ _ nqgl nqdu ((s5.trans s11) _ _ hN)), by rw [leq]; exact hl, hw', by omega, by rw [leq]; omega, hf, ?_, fun t H10 s17 et => ?_⟩
          · intro r hr y hy'
            rcases List.mem_append.mp hr with h | h
            · exact hy1 r (List.mem_append_left _ h) y hy'
            · rw [List.mem_singleton.mp h] at hy'
              have hml : (r0 :: r') ∈ ini ++ [r0 :: r'] := List.mem_append_right _ List.mem_cons_self
              rcases List.mem_cons.mp hy' with h | h
              · rw [h]
                exact (hy _ hml r0 List.mem_cons_self).2
              · exact hy1 _ hml y (List.mem_cons_of_mem _ h)
          rw [leq, ebump] at et
          walk_at "go"
          refine ⟨t, _, wd, rfl, et, hC', ?_⟩
          walk_at "go"
          refine ⟨t, _, rfl, .inr (SqT.of et), fun l3 nl3 => ?_⟩
          have s18 := s17.trans (same_new (o := .lst (((a + fl) :: c).map V.int)) nl3)
          walk_at "go"
          refine same2 (d := intsD true ((a + fl) :: c)) (dp_ints (SqL.of upd_same)) (dp_ints (SqL.of (s18 _ _ du9))) (shaped_ints _ _) ?_
          rw [eqv_same (shaped_ints _ _)]
          walk_at "go"
          exact ⟨s16.trans s18, _, _, rfl⟩
      · rintro σ H7 ⟨s13, u, u', rfl⟩
        walk_at "go"
        intro e1 ne1
        walk_at "go"
        intro e2 ne2
        walk_at "go"
        have s19 := (same_new (o := .lst []) ne1).trans (same_new (o := .tup []) ne2)
        refine ⟨true, false, e1, e2, [], [], [], wd, rfl, ⟨SqL.of ((same_new (o := .tup []) ne2) _ _ upd_same), rfl, fun i p r h => by simp at h⟩, SqT.of upd_same, rfl, by simp, by omega, by simp, by simp, by simp, fun t H8 s20 et => ?_⟩
        walk_at "go"
        refine ⟨t, _, wd, rfl, et, List.length_replicate, ?_⟩
        walk_at "go"
        refine ⟨t, _, rfl, .inr (SqT.of et), fun l3 nl3 => ?_⟩
        walk_at "go"
        intro l4 nl4
        walk_at "go"
        refine ⟨l4, (wd : Int), _, rfl, rfl, upd_same, by omega, by omega, ?_, fun l5 nl5 => ?_⟩
        · show 1 * (wd : Int).toNat ≤ sizeLine
          exact Nat.le_trans (by omega : _ ≤ 1000) (by decide)
        have er : (List.replicate (wd : Int).toNat [V.int 0]).flatten = (List.replicate wd (0 : Int)).map V.int := by
          rw [rep1, List.map_replicate]
          rfl
        rw [er]
        have s21 := (same_new (o := .lst [.int 0]) nl4).trans (same_new (o := .lst ((List.replicate wd (0 : Int)).map V.int)) nl5)
        refine same2 (d := intsD true (List.replicate wd 0)) (dp_ints (SqL.of (s21 _ _ upd_same))) (dp_ints (SqL.of upd_same)) (shaped_ints _ _) ?_
        rw [eqv_same (shaped_ints _ _)]
        exact k _ (((s13.trans s19).trans s20).trans ((same_new nl3).trans s21))
end
end Z
set_option Elab.async false
set_option linter.all false
set_option maxRecDepth 100000
set_option maxHeartbeats 4000000
namespace Z
open PySem PySem.Spec PyProof.Rows L2
open C8 (pss_cut tCut)
local macro_rules | `(tactic| walk_at "num") => `(tactic| first | rfl | omega | decide | exact Nat.le_of_lt (small1000 (by simp)) | exact ⟨by omega, by omega⟩ | exact ⟨by omega, by omega, by omega⟩ | exact ⟨by decide, by decide, by decide⟩ | exact Or.inl ⟨by omega, by omega⟩ | exact Or.inr ⟨by omega, by omega⟩)
local macro_rules | `(tactic| walk_at "go") => `(tactic| repeat (first | refine ⟨_, rfl, ?_⟩ | refine ⟨_, _, rfl, rfl, ?_⟩ | refine ⟨_, _, rfl, rfl, (by walk_at "num"), ?_⟩ | refine Or.inl ⟨_, rfl, ?_⟩ | refine ⟨rfl, ?_⟩ | refine And.intro (by walk_at "num") ?_))
abbrev s_keeping : Stmt := topS 18
abbrev N_keeping : List Str := ["_law_row_here", "_law_coefs", "_law_modulus", "_law_lead", "_law_listed", "_law_k", "_law_total", "_law_rests", "_law_rest", "_law_kept", "_law_given", "_law_claim", "_law_turn", "_law_actual"]
abbrev P_keeping : List Str := ["_law_row_here", "_law_coefs", "_law_modulus", "_law_lead", "_law_listed"]
theorem sc_keeping : FnScope N_keeping P_keeping (defScope s_keeping) := ⟨rfl, rfl, rfl, by decide +kernel, rfl, by decide +kernel, by decide +kernel⟩
theorem sumz (cs xs : List Int) (res z m : Int) (hm : 0 ≤ m) (e : res = (List.zipWith (fun x y => x * y) cs xs).sum - z) : kept cs xs res m = (if 0 < m then decide (z % m = 0) else decide (z = 0)) := by
  subst e
  unfold kept
  rw [show (List.zipWith (fun x y => x * y) cs xs).sum - ((List.zipWith (fun x y => x * y) cs xs).sum - z) = z by omega]
  by_cases h : m = 0
  · rw [if_pos h, if_neg (by omega)]
  · rw [if_neg h, if_pos (by omega)]
section
variable {P : Program} {w : World} {K : PySem.W.Frag} {mg : Str → Option Value} {base : Heap} {f : Addr} {fd : FuncData}
def spKeeping (K : PySem.W.Frag) : Sp := fun vs H Q _ => ∃ (b : Bool) (r c : Addr) (xs cs : List Int) (m ld : Int), vs = [.ref r, .ref c, .int m, .int ld, .bl b] ∧ SqL K H r (xs.map V.int) ∧ SqL K H c (cs.map V.int) ∧ cs.length = xs.length ∧ xs.length ≤ 900 ∧ (∀ x ∈ cs, Sm x) ∧ (∀ y ∈ xs, Sm y) ∧ 0 ≤ m ∧ Sm m ∧ Sm ld ∧
  ∀ H', Same H H' → Q (.bl true) H'
theorem ok_keeping (F : FnP K "_law_keeping" s_keeping f fd) (m_range : mg "range" = none) (m_len : mg "len" = none) (m_list : mg "list" = none) (m_tuple : mg "tuple" = none) (m_sum : mg "sum" = none) (m_int : mg "int" = none) (m_bool : mg "bool" = none) (m_isinstance : mg "isinstance" = none)
    (c_keeps : Cal P w K mg base 2 "keeps" (spKeeps K)) : FnOk P w K mg base CX0 3 f fd P_keeping (spKeeping K) := by
  refine F.ok sc_keeping (fun vs H Q E h => ?_) (fun cdv A outer s H vs Q E hr h => ?_)
  · obtain ⟨b, r, c, xs, cs, m, ld, rfl, _⟩ := h
    rfl
  · obtain ⟨b, r, c, xs, cs, m, ld, rfl, hr', hc, hl, hn, h1, h2, hm, sm, sl, k⟩ := h
    refine ⟨_, PSs.nox (pss_cons (ps_set (i := 6) sc_keeping.nd rfl (by first | exact .inl rfl | exact .inr rfl) (pe_callB (cr_sum rfl) (by rfl) m_sum (by decide +kernel) (pa_cons (pe_lc (own := [("_law_k", 5)]) (g := (gName 5)) (tt := tYes) (by rfl) sc_keeping.nd (pi_range1 (by rfl) m_range (pa_cons (pe_callB call_len_seq (by rfl) m_len PySem.boot_len (pa_cons (pv 0) pa_nil)) pa_nil)) (blkOk_by (own := [("_law_k", 5)]) (N := N_keeping) (sc := defScope s_keeping) (by decide +kernel)) (fun _ _ _ _ _ => (pg_name (i := 5) sc_keeping.nd rfl (by first | exact .inl rfl | exact .inr rfl))) (fun _ _ _ _ _ => pts_nil) (fun _ _ _ _ _ => (pe_op op_mulX (pe_ix (ix_list_K (K := K) rfl) (pv 1) (pv 5) (fun _ _ => rfl)) (pe_ix (ix_list_K (K := K) rfl) (pv 0) (pv 5) (fun _ _ => rfl))))) pa_nil)))
      (pss_cons (ps_set (i := 7) sc_keeping.nd rfl (by first | exact .inl rfl | exact .inr rfl) (pe_lst (pa_cons pe_int (pa_cons (pv 2) (pa_cons (pe_op op_mul (pe_un un_neg pe_int) (pv 2)) (pa_cons pe_int (pa_cons (pe_un un_neg pe_int) (pa_cons (pe_op op_add (pv 2) pe_int) (pa_cons (pe_op op_sub (pv 2) pe_int) (pa_cons (pe_op op_mulX (pv 3) (pv 2)) (pa_cons (pe_op op_add (pe_op op_mulX (pv 3) (pv 2)) pe_int) (pa_cons (pv 3) pa_nil))))))))))))
      (pss_cons (ps_for PassesOwn.never rfl (pi_list (pv 7)) (pg_name (i := 8) sc_keeping.nd rfl (by first | exact .inl rfl | exact .inr rfl))
        (pss_cons (ps_set (i := 9) sc_keeping.nd rfl (by first | exact .inl rfl | exact .inr rfl) (pe_cmpR op_eq (pv 8) pe_int (nomark _)))
      (pss_cut (ps_if (pt_cmpR op_gt (pv 2) pe_int (nomark _)) (pss_one (ps_set (i := 9) sc_keeping.nd rfl (by first | exact .inl rfl | exact .inr rfl) (pe_cmpR op_eq (pe_op op_mod (pe_callTy call_int1 (by rfl) m_int (by decide +kernel) (pa_cons (pv 8) pa_nil)) (pv 2)) pe_int (nomark _)))) pss_nil)
      (pss_cons (ps_set (i := 10) sc_keeping.nd rfl (by first | exact .inl rfl | exact .inr rfl) (pe_callTy call_list_of (by rfl) m_list (by decide +kernel) (pa_cons (pv 0) pa_nil)))
      (pss_cons (ps_set (i := 11) sc_keeping.nd rfl (by first | exact .inl rfl | exact .inr rfl) (pe_lst (pa_cons (pe_callTy call_list_of (by rfl) m_list (by decide +kernel) (pa_cons (pv 1) pa_nil)) (pa_cons (pe_op op_sub (pv 6) (pv 8)) (pa_cons (pv 2) pa_nil)))))
      (pss_cut (ps_if (pt_not (pt_val (pv 4))) (pss_cons (ps_set (i := 10) sc_keeping.nd rfl (by first | exact .inl rfl | exact .inr rfl) (pe_callTy call_tuple_of (by rfl) m_tuple (by decide +kernel) (pa_cons (pv 0) pa_nil)))
      (pss_one (ps_set (i := 11) sc_keeping.nd rfl (by first | exact .inl rfl | exact .inr rfl) (pe_tup (pa_cons (pe_callTy call_tuple_of (by rfl) m_tuple (by decide +kernel) (pa_cons (pv 1) pa_nil)) (pa_cons (pe_op op_sub (pv 6) (pv 8)) (pa_cons (pv 2) pa_nil))))))) pss_nil)
      (pss_cons (ps_for PassesOwn.never rfl (pi_range1 (by rfl) m_range (pa_cons pe_int pa_nil)) (pg_name (i := 12) sc_keeping.nd rfl (by first | exact .inl rfl | exact .inr rfl))
        (pss_cons (ps_set (i := 13) sc_keeping.nd rfl (by first | exact .inl rfl | exact .inr rfl) (pe_cl c_keeps hr (by decide) (by rfl) (pa_cons (pv 10) (pa_cons (pv 11) pa_nil))))
      (pss_one (ps_if (PW.pt (pw_or (pt_not (pt_val (pe_callB call_isi (by rfl) m_isinstance (by decide +kernel) (pa_cons (pv 13) (pa_cons (pe_bltn (v := .ty "bool") (by rfl) m_bool (by decide +kernel) rfl) pa_nil))))) (pw_or1 (pt_cmpR op_ne (pv 13) (pv 9) (nomark _))))) (pss_one (ps_ret pe_bl)) pss_nil))))
      (pss_one (ps_if (PW.pt (pw_or (pt_cmpR (op_neD hr.units) (pe_callTy call_list_of (by rfl) m_list (by decide +kernel) (pa_cons (pv 10) pa_nil)) (pv 0) (nomark _)) (pw_or (pt_cmpR (op_neD hr.units) (pe_callTy call_list_of (by rfl) m_list (by decide +kernel) (pa_cons (pe_ix ix_seq (pv 11) pe_int (fun _ _ => rfl)) pa_nil)) (pv 1) (nomark _)) (pw_or1 (pt_cmpR (op_neD hr.units) (pe_callTy call_list_of (by rfl) m_list (by decide +kernel) (pa_cons (pe_slice (SlR.or sl_list sl_tup) (pv 11) (po_some pe_int) po_none) pa_nil)) (pe_lst (pa_cons (pe_op op_sub (pv 6) (pv 8)) (pa_cons (pv 2) pa_nil))) (nomark _)))))) (pss_one (ps_ret pe_bl)) pss_nil)))))))))
      (pss_one (ps_ret pe_bl))))), ?_⟩
    have hz : (List.zipWith (fun x y => x * y) cs xs).length = xs.length := by rw [List.length_zipWith]; omega
    generalize et : (List.zipWith (fun x y => x * y) cs xs).sum = tot
    walk_at "go"
    refine ⟨r, _, rfl, .inl hr', ?_⟩
    rw [List.length_map]
    walk_at "go"
    intro D nD
    refine lc_gen (n := xs.length) (fun i H1 => Same H H1 ∧ H1 D = some (.lst (((List.zipWith (fun x y => x * y) cs xs).take i).map V.int))) ⟨same_new nD, upd_same⟩ ?_ ?_ ?_ ?_
    · intro i H2 hi _
      show i < ((xs.length : Nat) : Int).toNat
      omega
    · intro H2 _
      show ((xs.length : Nat) : Int).toNat ≤ xs.length
      omega
    · rintro i H2 x H3 hi ⟨s3, eD⟩ ⟨rfl, rfl⟩
      have c1 : i < cs.length := by omega
      walk_at "go"
      refine ⟨c, _, _, _, rfl, rfl, s3.seq hc, at_of (j := i) (by omega) (show (cs.map V.int)[i]? = some (.int cs[i]) by rw [List.getElem?_map, List.getElem?_eq_getElem c1]; rfl), ?_⟩
      walk_at "go"
      refine ⟨r, _, _, _, rfl, rfl, s3.seq hr', at_of (j := i) (by omega) (show (xs.map V.int)[i]? = some (.int xs[i]) by rw [List.getElem?_map, List.getElem?_eq_getElem hi]; rfl), ?_⟩
      walk_at "go"
      refine ⟨big_mul (h1 _ (List.getElem_mem _)) (h2 _ (List.getElem_mem _)), ?_⟩
      refine ⟨_, eD, ?_, Z.Same.mut s3 nD, ?_⟩
      · rw [List.length_map, List.length_take]
        exact Nat.lt_of_le_of_lt (Nat.min_le_left _ _) (sz hi)
      · rw [upd_same, List.take_add_one, List.getElem?_zipWith, List.getElem?_eq_getElem c1, List.getElem?_eq_getElem hi, List.map_append]
        rfl
    rintro H1 ⟨s1, eD⟩
    rw [List.take_of_length_le (by omega)] at eD
    refine ⟨D, _, rfl, SqL.of eD, ?_⟩
    rw [et]
    walk_at "go"
    refine ⟨big_mul sl sm, ?_⟩
    walk_at "go"
    refine ⟨big_mul sl sm, ?_⟩
    walk_at "go"
    intro rl nrl
    walk_at "go"
    refine ⟨⟨_, SqL.of upd_same⟩, ?_⟩
    generalize eL : [0, m, -3 * m, 1, -1, m + 1, m - 1, ld * m, ld * m + 2, ld] = zs
    have eL2 : [V.int 0, V.int m, V.int (-3 * m), V.int 1, V.int (-1), V.int (m + 1), V.int (m - 1), V.int (ld * m), V.int (ld * m + 2), V.int ld] = zs.map V.int := by rw [← eL]; rfl
    have s2 : Same H (upd H1 rl (.lst (zs.map V.int))) := s1.trans (same_new nrl)
    refine for_gen (n := zs.length) (fun i σ H2 => Same (upd H1 rl (.lst (zs.map V.int))) H2 ∧ ∃ v8 v9 v10 v11 v12 v13 : Option V, σ = [some (.ref r), some (.ref c), some (.int m), some (.int ld), some (.bl b), none, some (.int tot), some (.ref rl), v8, v9, v10, v11, v12, v13]) ?_ ?_ ?_ ?_ ?_
    · refine ⟨?_, none, none, none, none, none, none, rfl⟩
      rw [← eL2]
      exact Same.refl _
    · rintro i σ H2 hi ⟨s3, _⟩
      exact ⟨_, .int zs[i], SqL.of (s3 _ _ upd_same), by rw [List.getElem?_map, List.getElem?_eq_getElem hi]; rfl⟩
    · rintro σ H2 ⟨s3, _⟩
      exact ⟨_, SqL.of (s3 _ _ upd_same), by rw [List.length_map]; omega⟩
    · rintro i σ H2 x H' hi ⟨s3, v8, v9, v10, v11, v12, v13, rfl⟩ ⟨rfl, fx⟩
      obtain ⟨z, ez, rfl⟩ := of_map (fx _ (SqL.of (s3 _ _ upd_same)))
      have s4 := s2.trans s3
      walk_at "go"
      refine ⟨fun σ H3 => H3 = H' ∧ σ = [some (.ref r), some (.ref c), some (.int m), some (.int ld), some (.bl b), none, some (.int tot), some (.ref rl), some (.int z), some (.bl (if 0 < m then decide (z % m = 0) else decide (z = 0))), v10, v11, v12, v13], ?_, ?_⟩
      · walk_at "go"
        refine ite2 (fun e => ?_) (fun e => ?_)
        · have em : 0 < m := of_decide_eq_true e
          walk_at "go"
          rw [if_pos em]
          simp
        · have em : ¬ 0 < m := fun z => e (decide_eq_true z)
          refine ⟨rfl, ?_⟩
          rw [if_neg em]
          simp
      rintro σ H3 ⟨rfl, rfl⟩
      generalize ek : (if 0 < m then decide (z % m = 0) else decide (z = 0)) = kz
      walk_at "go"
      refine ⟨r, _, rfl, .inl (s4.seq hr'), fun gl ngl => ?_⟩
      have s5 : Same H3 (upd H3 gl (.lst (xs.map V.int))) := same_new ngl
      walk_at "go"
      refine ⟨c, _, rfl, .inl ((s4.trans s5).seq hc), fun cl ncl => ?_⟩
      have s6 : Same (upd H3 gl (.lst (xs.map V.int))) (upd (upd H3 gl (.lst (xs.map V.int))) cl (.lst (cs.map V.int))) := same_new ncl
      walk_at "go"
      intro kl nkl
      have s7 := same_new (o := .lst [.ref cl, .int (tot - z), .int m]) nkl
      have s57 := (s5.trans s6).trans s7
      walk_at "go"
      refine ⟨fun σ H4 => Same H3 H4 ∧ ∃ g k co, SqK b K H4 g (xs.map V.int) ∧ SqK b K H4 k [.ref co, .int (tot - z), .int m] ∧ SqK b K H4 co (cs.map V.int) ∧ σ = [some (.ref r), some (.ref c), some (.int m), some (.int ld), some (.bl b), none, some (.int tot), some (.ref rl), some (.int z), some (.bl kz), some (.ref g), some (.ref k), v12, v13], ?_, ?_⟩
      · cases b with
        | true =>
          refine ⟨_, rfl, _, rfl, ?_⟩
          exact ⟨s57, gl, kl, cl, SqL.of ((s6.trans s7) _ _ upd_same), SqL.of upd_same, SqL.of (s7 _ _ upd_same), rfl⟩
        | false =>
          walk_at "go"
          refine ⟨r, _, rfl, .inl ⟨(s4.trans s57).seq hr', fun g2 ng2 => ?_⟩⟩
          have s8 := same_new (o := .tup (xs.map V.int)) ng2
          walk_at "go"
          refine ⟨c, _, rfl, .inl ⟨((s4.trans s57).trans s8).seq hc, fun c2 nc2 => ?_⟩⟩
          have s9 := same_new (o := .tup (cs.map V.int)) nc2
          walk_at "go"
          intro k2 nk2
          have s10 := same_new (o := .tup [.ref c2, .int (tot - z), .int m]) nk2
          exact ⟨((s57.trans s8).trans s9).trans s10, g2, k2, c2, SqT.of ((s9.trans s10) _ _ upd_same), SqT.of upd_same, SqT.of (s10 _ _ upd_same), rfl⟩
      rintro σ H4 ⟨s8, g, kk, co, hg, hk, hco, rfl⟩
      have s9 := s4.trans s8
      walk_at "go"
      refine for_gen (n := 2) (fun i σ H5 => Same H4 H5 ∧ ∃ v12 v13 : Option V, σ = [some (.ref r), some (.ref c), some (.int m), some (.int ld), some (.bl b), none, some (.int tot), some (.ref rl), some (.int z), some (.bl kz), some (.ref g), some (.ref kk), v12, v13]) ⟨Same.refl _, v12, v13, rfl⟩ (fun i σ H4 hi _ => hi) (fun σ H4 _ => Nat.le_refl _) ?_ ?_
      · rintro j σ H5 x H' hj ⟨s10, u12, u13, rfl⟩ ⟨rfl, rfl⟩
        walk_at "go"
        refine ⟨b, b, b, g, kk, co, xs, cs, tot - z, m, rfl, Z.Same.sqK s10 hg, Z.Same.sqK s10 hk, Z.Same.sqK s10 hco, hl, by omega, h1, h2, hm, fun H6 s11 => ?_⟩
        rw [sumz cs xs (tot - z) z m hm (by rw [et]), ek]
        walk_at "go"
        refine isi (c := "bool") (b := true) (.bl _) (by decide +kernel) ?_
        walk_at "go"
        refine ite2 (fun e => absurd e (by simp)) (fun e => ?_)
        exact ⟨s10.trans s11, _, _, rfl⟩
      rintro σ H5 ⟨s10, u12, u13, rfl⟩
      walk_at "go"
      refine ⟨g, xs.map V.int, rfl, (by have q := Z.Same.sqK s10 hg; cases b; exact .inr q; exact .inl q), fun l1 nl1 => ?_⟩
      have s11 := same_new (o := .lst (xs.map V.int)) nl1
      walk_at "go"
      refine same2 (d := intsD true xs) (dp_ints (SqL.of upd_same)) (dp_ints (show SqK true K _ r _ from ((s9.trans s10).trans s11).seq hr')) (shaped_ints _ _) ?_
      rw [eqv_same (shaped_ints _ _)]
      walk_at "go"
      have pick : ∀ (H6 : Hp) (R' : V → Hp → Prop), Same H5 H6 → R' (.ref co) H6 → rIx K (.ref kk) (.int 0) H6 R' := by
        intro H6 R' s q
        cases b
        · exact .inr (.inl ⟨kk, _, 0, .ref co, rfl, rfl, Z.Same.sqT (s10.trans s) hk, at_of (j := 0) rfl rfl, q⟩)
        · exact .inl ⟨kk, _, 0, .ref co, rfl, rfl, (s10.trans s).seq hk, at_of (j := 0) rfl rfl, q⟩
      refine pick _ _ s11 ?_
      refine ⟨co, cs.map V.int, rfl, (by have q := Z.Same.sqK (s10.trans s11) hco; cases b; exact .inr q; exact .inl q), fun l2 nl2 => ?_⟩
      have s12 := same_new (o := .lst (cs.map V.int)) nl2
      walk_at "go"
      refine same2 (d := intsD true cs) (dp_ints (SqL.of upd_same)) (dp_ints (show SqK true K _ c _ from (((s9.trans s10).trans s11).trans s12).seq hc)) (shaped_ints _ _) ?_
      rw [eqv_same (shaped_ints _ _)]
      walk_at "go"
      have pickS : ∀ (H6 : Hp) (R' : V → Hp → Prop), Same H5 H6 → (∀ p H7, Same H6 H7 → SqK b K H7 p ([tot - z, m].map V.int) → R' (.ref p) H7) → (rSlL K (.ref kk) (some 1) none H6 R' ∨ rSlT K (.ref kk) (some 1) none H6 R') := by
        intro H6 R' s q
        cases b
        · exact .inr ⟨kk, _, rfl, Z.Same.sqT (s10.trans s) hk, (show ¬ (HT.sIx 3 0 (some 1) = 0 ∧ HT.sIx 3 3 none = 3) by decide), fun p np => q p _ (same_new np) (SqT.of upd_same)⟩
        · exact .inl ⟨kk, _, rfl, (s10.trans s).seq hk, fun p np => q p _ (same_new np) (SqL.of upd_same)⟩
      refine pickS _ _ (s11.trans s12) (fun p H7 s13 hp => ?_)
      refine ⟨p, [tot - z, m].map V.int, rfl, (by cases b; exact .inr hp; exact .inl hp), fun l3 nl3 => ?_⟩
      have s14 := same_new (o := .lst ([tot - z, m].map V.int)) nl3
      walk_at "go"
      intro l4 nl4
      have s15 := same_new (o := .lst ([tot - z, m].map V.int)) nl4
      refine same2 (d := intsD true [tot - z, m]) (dp_ints (SqL.of (s15 _ _ upd_same))) (dp_ints (SqL.of upd_same)) (shaped_ints _ _) ?_
      rw [eqv_same (shaped_ints _ _)]
      refine ⟨_, rfl, ?_⟩
      exact ⟨s3.trans ((s8.trans s10).trans (((s11.trans s12).trans s13).trans (s14.trans s15))), _, _, _, _, _, _, rfl⟩
    · rintro σ H2 ⟨s3, v8, v9, v10, v11, v12, v13, rfl⟩
      walk_at "go"
      exact k _ (s2.trans s3)
end
end Z
set_option Elab.async false
set_option linter.all false
set_option maxRecDepth 100000
set_option maxHeartbeats 4000000
namespace Z
open PySem PySem.Spec PyProof.Rows L2
open C8 (pss_cut tCut)
local macro_rules | `(tactic| walk_at "num") => `(tactic| first | rfl | omega | decide | exact Nat.le_of_lt (small1000 (by simp)) | exact ⟨by omega, by omega⟩ | exact ⟨by omega, by omega, by omega⟩ | exact ⟨by decide, by decide, by decide⟩ | exact Or.inl ⟨by omega, by omega⟩ | exact Or.inr ⟨by omega, by omega⟩)
local macro_rules | `(tactic| walk_at "go") => `(tactic| repeat (first | refine ⟨_, rfl, ?_⟩ | refine ⟨_, _, rfl, rfl, ?_⟩ | refine ⟨_, _, rfl, rfl, (by walk_at "num"), ?_⟩ | refine Or.inl ⟨_, rfl, ?_⟩ | refine ⟨rfl, ?_⟩ | refine And.intro (by walk_at "num") ?_))
abbrev s_law : Stmt := topS 19
abbrev N_law : List Str := ["_law_script", "_law_shape", "_law_own_width", "_law_many", "_law_draws_here", "_law_place", "_law_k", "_law_rows", "_law_factors", "_law_row_here", "_law_coefs", "_law_huge_here", "_law_listed", "_law_moduli"]
abbrev P_law : List Str := ["_law_script"]
theorem sc_law : FnScope N_law P_law (defScope s_law) := ⟨rfl, rfl, rfl, by decide +kernel, rfl, by decide +kernel, by decide +kernel⟩
theorem len13 : ∀ {ds : List Int}, ds.length = 13 → ∃ d0 d1 d2 d3 d4 d5 d6 d7 d8 d9 d10 d11 d12, ds = [d0, d1, d2, d3, d4, d5, d6, d7, d8, d9, d10, d11, d12]
  | [a0, a1, a2, a3, a4, a5, a6, a7, a8, a9, a10, a11, a12], _ => ⟨a0, a1, a2, a3, a4, a5, a6, a7, a8, a9, a10, a11, a12, rfl⟩
/-- rows made one after another by a def that turns the place pl -/
structure Gath (pl D : Addr) (wd : Nat) (H H1 : Hp) (i : Nat) (m : Nat) (qs : List Addr) (rs : List (List Int)) : Prop where
  sb : SB pl H H1
  plc : H1 pl = some (.lst [.int (m : Int)])
  top : H1 D = some (.lst (qs.map V.ref))
  lq : qs.length = i
  lr : rs.length = i
  row : ∀ (j : Nat) (q : Addr) (r : List Int), qs[j]? = some q → rs[j]? = some r → H1 q = some (.lst (r.map V.int))
  nd : qs.Nodup
  fr : ∀ q ∈ qs, H q = none ∧ q ≠ D ∧ q ≠ pl ∧ H1 q ≠ none
  ok : ∀ r ∈ rs, r.length = wd ∧ ∀ y ∈ r, Sn y
theorem Gath.step {pl D l : Addr} {wd i m m' : Nat} {H H1 H2 : Hp} {qs : List Addr} {rs : List (List Int)} {r : List Int} (g : Gath pl D wd H H1 i m qs rs) (hp : H pl ≠ none) (nD : H D = none) (sb : SB pl H1 H2) (nl : H1 l = none) (el : H2 l = some (.lst (r.map V.int))) (ep : H2 pl = some (.lst [.int (m' : Int)])) (lr : r.length = wd) (hs : ∀ y ∈ r, Sn y) :
    Gath pl D wd H (upd H2 D (.lst (qs.map V.ref ++ [.ref l]))) (i + 1) m' (qs ++ [l]) (rs ++ [r]) := by
  have plD : pl ≠ D := fun z => hp (by rw [z]; exact nD)
  have lD : l ≠ D := fun z => by rw [z, g.top] at nl; cases nl
  have lpl : l ≠ pl := fun z => by rw [z, g.plc] at nl; cases nl
  have keep : ∀ q ∈ qs, ∀ o, H1 q = some o → (upd H2 D (.lst (qs.map V.ref ++ [.ref l]))) q = some o := fun q hq o e => by
    have hm := g.fr q hq
    rw [upd_ne hm.2.1]
    exact sb q o hm.2.2.1 e
  refine ⟨fun b o nb e => ?_, ?_, ?_, ?_, ?_, fun j q r' h1 h2 => ?_, ?_, fun q hq => ?_, fun r' hr' => ?_⟩
  · rw [upd_ne (ne_of_none e nD)]
    exact sb b o nb (g.sb b o nb e)
  · rw [upd_ne plD]
    exact ep
  · rw [upd_same, List.map_append]
    rfl
  · rw [List.length_append, g.lq]
    rfl
  · rw [List.length_append, g.lr]
    rfl
  · have e1 := g.lq
    have e2 := g.lr
    by_cases hj : j < i
    · rw [List.getElem?_append_left (by omega)] at h1 h2
      exact keep q (List.mem_of_getElem? h1) _ (g.row j q r' h1 h2)
    · rw [List.getElem?_append_right (by omega)] at h1 h2
      have hj2 : j - qs.length = 0 := by
        apply Decidable.byContradiction
        intro z
        rw [List.getElem?_eq_none (by simp; omega)] at h1
        cases h1
      have hj3 : j - rs.length = 0 := by omega
      rw [hj2] at h1
      rw [hj3] at h2
      cases h1
      cases h2
      rw [upd_ne lD]
      exact el
  · rw [List.nodup_append]
    refine ⟨g.nd, by simp, fun x hx y hy z => ?_⟩
    rw [List.mem_singleton.mp hy] at z
    exact (g.fr x hx).2.2.2 (by rw [z]; exact nl)
  · rcases List.mem_append.mp hq with h | h
    · have hm := g.fr q h
      refine ⟨hm.1, hm.2.1, hm.2.2.1, fun z => ?_⟩
      cases e : H1 q with
      | none => exact hm.2.2.2 e
      | some o =>
        rw [keep q h o e] at z
        cases z
    · rw [List.mem_singleton.mp h]
      refine ⟨?_, lD, lpl, by rw [upd_ne lD, el]; exact fun z => nomatch z⟩
      cases e : H l with
      | none => rfl
      | some o =>
        rw [g.sb l o lpl e] at nl
        cases nl
  · rcases List.mem_append.mp hr' with h | h
    · exact g.ok r' h
    · rw [List.mem_singleton.mp h]
      exact ⟨lr, hs⟩
theorem pick_at {l : List Int} {i : Int} {Pr : Int → Prop} (h : ∀ v ∈ l, Pr v) (h0 : 0 ≤ i) (h1 : i < l.length) : ∃ v, atI (l.map V.int) i = some (.int v) ∧ Pr v := by
  have hi : i.toNat < l.length := by omega
  exact ⟨l[i.toNat], at_of (j := i.toNat) (by omega) (by rw [List.getElem?_map, List.getElem?_eq_getElem hi]; rfl), h _ (List.getElem_mem hi)⟩
theorem ixN_in {n : Nat} {i : Int} (h0 : 0 ≤ i) (h1 : i < n) : ixN n i = some i.toNat := by
  unfold ixN
  rw [if_pos h0, if_pos h1]
theorem set_all {Pr : Int → Prop} {l : List Int} {j : Nat} {v : Int} (h : ∀ x ∈ l, Pr x) (hv : Pr v) : ∀ x ∈ l.set j v, Pr x := fun x hx => by
  rcases List.mem_or_eq_of_mem_set hx with h' | h'
  · exact h x h'
  · rw [h']
    exact hv
section
variable {P : Program} {w : World} {K : PySem.W.Frag} {mg : Str → Option Value} {base : Heap} {f : Addr} {fd : FuncData}
/-- what the law has built: the lists stand apart -/
structure Blt (H : Hp) (p D fa ra ca : Addr) (wd mn : Nat) (qs : List Addr) (ds : List Int) (fs xs cs : List Int) (rs : List (List Int)) : Prop where
  shape : H p = some (.lst (ds.map V.int))
  rows : H D = some (.lst (qs.map V.ref))
  lq : qs.length = mn
  lr : rs.length = mn
  row : ∀ (j : Nat) (q : Addr) (r : List Int), qs[j]? = some q → rs[j]? = some r → H q = some (.lst (r.map V.int))
  rok : ∀ r ∈ rs, r.length = wd ∧ ∀ y ∈ r, Sn y
  fac : H fa = some (.lst (fs.map V.int))
  lf : fs.length = mn ∧ ∀ y ∈ fs, Sn y
  vec : H ra = some (.lst (xs.map V.int))
  lx : xs.length = wd ∧ ∀ y ∈ xs, Sn y
  coe : H ca = some (.lst (cs.map V.int))
  lc : cs.length = wd ∧ ∀ y ∈ cs, Sn y
theorem Blt.mono {H H' : Hp} {p D fa ra ca : Addr} {wd mn : Nat} {qs : List Addr} {ds fs xs cs : List Int} {rs : List (List Int)} (s : Same H H') (b : Blt H p D fa ra ca wd mn qs ds fs xs cs rs) : Blt H' p D fa ra ca wd mn qs ds fs xs cs rs :=
  ⟨s _ _ b.shape, s _ _ b.rows, b.lq, b.lr, fun j q r h1 h2 => s _ _ (b.row j q r h1 h2), b.rok, s _ _ b.fac, b.lf, s _ _ b.vec, b.lx, s _ _ b.coe, b.lc⟩
theorem drawn_row {σ : L2.St} {H : Hp} {Q : VK} {a : Addr} {ns : List Int} {i : Nat} {n c j : Nat} (h0 : σ[0]? = some (some (.ref a))) (h1 : σ[i]? = some (some (.int (n : Int)))) (hS : SqL K H a (ns.map V.int)) (hn : n ≤ 1000)
    (q : ∀ (x : Addr) (rs : List Int) H', Same H H' → H x = none → H' x = some (.lst (rs.map V.int)) → rs.length = n → (∀ r ∈ rs, Sn r) → Q (.ref x) H') :
    tCall (spRow K) [] E0 (tCons (tCall spDraws [] E0 (tCons (tOp (rI0 fun i j => .int (i + j)) (tCall (spCell K) [] E0 (tCons (tVar 0) (tCons (tC (.int (c : Int))) tNil))) (tC (.int (j : Int)))) (tCons (tVar i) tNil))) (tCons (tLst (tCons (tC (.int 0)) tNil)) (tCons (tVar i) tNil))) σ H Q := by
  refine ⟨_, h0, a, ns, c, rfl, hS, _, _, rfl, rfl, _, h1, _, n, rfl, by omega, fun p ds np hd => ?_⟩
  refine ⟨by show 1 ≤ sizeLine; decide, fun pl npl => ⟨_, h1, ?_⟩⟩
  have np1 : p ≠ pl := fun z => by rw [← z, upd_same] at npl; cases npl
  have s1 : Same H (upd (upd H p (.lst (ds.map V.int))) pl (.lst [.int 0])) := (same_new np).trans (same_new npl)
  have plH : H pl = none := Same.free (same_new np) npl
  refine ⟨p, pl, n, 0, n, ds, rfl, SqL.of (by rw [upd_ne np1, upd_same]), hd, upd_same, np1, hn, fun x rs m' H' sb nx ex _ hl hs => ?_⟩
  exact q x rs H' (fun b o e => sb b o (ne_of_none e plH) (s1 b o e)) (Same.free s1 nx) ex hl hs
structure Apart (p D fa ra ca : Addr) (qs : List Addr) : Prop where
  pf : p ≠ fa
  pr : p ≠ ra
  Df : D ≠ fa
  Dr : D ≠ ra
  fr : fa ≠ ra
  cf : ca ≠ fa
  cr : ca ≠ ra
  q : ∀ q ∈ qs, p ≠ q ∧ D ≠ q ∧ fa ≠ q ∧ ra ≠ q ∧ ca ≠ q
  nd : qs.Nodup
theorem map_set (l : List Int) (j : Nat) (v : Int) : (l.map V.int).set j (.int v) = (l.set j v).map V.int := List.map_set.symm
theorem Blt.setVec {H : Hp} {p D fa ra ca : Addr} {wd mn : Nat} {qs : List Addr} {ds fs xs cs : List Int} {rs : List (List Int)} (b : Blt H p D fa ra ca wd mn qs ds fs xs cs rs) (ap : Apart p D fa ra ca qs) {j : Nat} {v : Int} (hv : Sn v) :
    Blt (upd H ra (.lst ((xs.map V.int).set j (.int v)))) p D fa ra ca wd mn qs ds fs (xs.set j v) cs rs :=
  ⟨by rw [upd_ne ap.pr]; exact b.shape, by rw [upd_ne ap.Dr]; exact b.rows, b.lq, b.lr, fun i q r h1 h2 => by rw [upd_ne (ap.q q (List.mem_of_getElem? h1)).2.2.2.1.symm]; exact b.row i q r h1 h2, b.rok, by rw [upd_ne ap.fr]; exact b.fac, b.lf, by rw [upd_same, map_set], ⟨by rw [List.length_set]; exact b.lx.1, set_all b.lx.2 hv⟩, by rw [upd_ne ap.cr]; exact b.coe, b.lc⟩
theorem Blt.setFac {H : Hp} {p D fa ra ca : Addr} {wd mn : Nat} {qs : List Addr} {ds fs xs cs : List Int} {rs : List (List Int)} (b : Blt H p D fa ra ca wd mn qs ds fs xs cs rs) (ap : Apart p D fa ra ca qs) {j : Nat} {v : Int} (hv : Sn v) :
    Blt (upd H fa (.lst ((fs.map V.int).set j (.int v)))) p D fa ra ca wd mn qs ds (fs.set j v) xs cs rs :=
  ⟨by rw [upd_ne ap.pf]; exact b.shape, by rw [upd_ne ap.Df]; exact b.rows, b.lq, b.lr, fun i q r h1 h2 => by rw [upd_ne (ap.q q (List.mem_of_getElem? h1)).2.2.1.symm]; exact b.row i q r h1 h2, b.rok, by rw [upd_same, map_set], ⟨by rw [List.length_set]; exact b.lf.1, set_all b.lf.2 hv⟩, by rw [upd_ne ap.fr.symm]; exact b.vec, b.lx, by rw [upd_ne ap.cf]; exact b.coe, b.lc⟩
theorem Blt.setRow {H : Hp} {p D fa ra ca : Addr} {wd mn : Nat} {qs : List Addr} {ds fs xs cs : List Int} {rs : List (List Int)} (b : Blt H p D fa ra ca wd mn qs ds fs xs cs rs) (ap : Apart p D fa ra ca qs) {i j : Nat} {v : Int} {q : Addr} {r : List Int} (hq : qs[i]? = some q) (hr : rs[i]? = some r) (hv : Sn v) :
    Blt (upd H q (.lst ((r.map V.int).set j (.int v)))) p D fa ra ca wd mn qs ds fs xs cs (rs.set i (r.set j v)) := by
  have aq := ap.q q (List.mem_of_getElem? hq)
  refine ⟨by rw [upd_ne aq.1]; exact b.shape, by rw [upd_ne aq.2.1]; exact b.rows, b.lq, by rw [List.length_set]; exact b.lr, fun i' q' r' h1 h2 => ?_, fun r' hr' => ?_, by rw [upd_ne aq.2.2.1]; exact b.fac, b.lf, by rw [upd_ne aq.2.2.2.1]; exact b.vec, b.lx, by rw [upd_ne aq.2.2.2.2]; exact b.coe, b.lc⟩
  · by_cases e : i' = i
    · subst e
      rw [hq] at h1
      cases h1
      have hlt : i' < rs.length := (List.getElem?_eq_some_iff.mp hr).1
      rw [List.getElem?_set_self hlt] at h2
      cases h2
      rw [upd_same, map_set]
    · have nq : q' ≠ q := fun z => e (nd_ix ap.nd h1 (by rw [z]; exact hq))
      rw [List.getElem?_set_ne (fun z => e z.symm)] at h2
      rw [upd_ne nq]
      exact b.row i' q' r' h1 h2
  · rcases List.mem_or_eq_of_mem_set hr' with h | h
    · exact b.rok r' h
    · rw [h]
      have hm := b.rok r (List.mem_of_getElem? hr)
      exact ⟨by rw [List.length_set]; exact hm.1, set_all hm.2 hv⟩
def spLaw (K : PySem.W.Frag) : Sp := fun vs H Q _ => ∃ (a : Addr) (ns : List Int), vs = [.ref a] ∧ SqL K H a (ns.map V.int) ∧ ∀ H', Q (.bl true) H'
theorem ok_law (F : FnP K "law" s_law f fd) (m_int : mg "int" = none) (m_abs : mg "abs" = none) (m_range : mg "range" = none) (c_cell : Cal P w K mg base 1 "_law_cell" (spCell K)) (c_draws : Cal P w K mg base 1 "_law_draws" spDraws) (c_row : Cal P w K mg base 2 "_law_row" (spRow K)) (c_huge : Cal P w K mg base 2 "_law_huge" spHuge) (c_number : Cal P w K mg base 1 "_law_number" spNumber)
    (c_combines : Cal P w K mg base 3 "_law_combines" (spCombines K)) (c_keeping : Cal P w K mg base 3 "_law_keeping" (spKeeping K)) : FnOk P w K mg base CX0 4 f fd P_law (spLaw K) := by
  refine F.ok sc_law (fun vs H Q E h => ?_) (fun cdv A outer s H vs Q E hr h => ?_)
  · obtain ⟨a, ns, rfl, _⟩ := h
    rfl
  · obtain ⟨a, ns, rfl, hS, k⟩ := h
    refine ⟨_, PSs.nox (pss_cons (ps_set (i := 1) sc_law.nd rfl (by first | exact .inl rfl | exact .inr rfl) (pe_cl c_draws hr (by decide) (by rfl) (pa_cons (pe_cl c_cell hr (by decide) (by rfl) (pa_cons (pv 0) (pa_cons pe_int pa_nil))) (pa_cons pe_int pa_nil))))
      (pss_cons (ps_set (i := 2) sc_law.nd rfl (by first | exact .inl rfl | exact .inr rfl) (pe_op op_mod (pe_callTy call_int1 (by rfl) m_int (by decide +kernel) (pa_cons (pe_ix ix_list (pv 1) pe_int (fun _ _ => rfl)) pa_nil)) pe_int))
      (pss_cut (ps_if (pt_cmpR op_eq (pe_op op_mod (pe_callTy call_int1 (by rfl) m_int (by decide +kernel) (pa_cons (pe_ix ix_list (pv 1) pe_int (fun _ _ => rfl)) pa_nil)) pe_int) pe_int (nomark _)) (pss_one (ps_set (i := 2) sc_law.nd rfl (by first | exact .inl rfl | exact .inr rfl) (pe_op op_mod (pe_callTy call_int1 (by rfl) m_int (by decide +kernel) (pa_cons (pe_ix ix_list (pv 1) pe_int (fun _ _ => rfl)) pa_nil)) pe_int))) pss_nil)
      (pss_cons (ps_set (i := 3) sc_law.nd rfl (by first | exact .inl rfl | exact .inr rfl) (pe_op op_mod (pe_callTy call_int1 (by rfl) m_int (by decide +kernel) (pa_cons (pe_ix ix_list (pv 1) pe_int (fun _ _ => rfl)) pa_nil)) pe_int))
      (pss_cut (ps_if (pt_cmpR op_eq (pe_op op_mod (pe_callTy call_int1 (by rfl) m_int (by decide +kernel) (pa_cons (pe_ix ix_list (pv 1) pe_int (fun _ _ => rfl)) pa_nil)) pe_int) pe_int (nomark _)) (pss_one (ps_set (i := 3) sc_law.nd rfl (by first | exact .inl rfl | exact .inr rfl) (pe_op op_add (pv 3) pe_int))) pss_nil)
      (pss_cons (ps_set (i := 4) sc_law.nd rfl (by first | exact .inl rfl | exact .inr rfl) (pe_cl c_draws hr (by decide) (by rfl) (pa_cons (pe_cl c_cell hr (by decide) (by rfl) (pa_cons (pv 0) (pa_cons pe_int pa_nil))) (pa_cons (pe_op op_mul (pv 3) (pv 2)) pa_nil))))
      (pss_cons (ps_set (i := 5) sc_law.nd rfl (by first | exact .inl rfl | exact .inr rfl) (pe_lst (pa_cons pe_int pa_nil)))
      (pss_cons (ps_setLc (i := 7) (own := [("_law_k", 6)]) (g := (gName 6)) (tt := tYes) (by rfl) sc_law.nd rfl rfl (sw_true rfl rfl rfl (by decide +kernel)) (pi_range1 (by rfl) m_range (pa_cons (pv 3) pa_nil)) (blkOk_by (own := [("_law_k", 6)]) (N := N_law) (sc := defScope s_law) (by decide +kernel)) (fun _ _ _ _ _ => (pg_name (i := 6) sc_law.nd rfl (by first | exact .inl rfl | exact .inr rfl))) (fun _ _ _ _ _ => pts_nil) (fun _ _ _ _ _ => (pe_cl c_row hr (by decide) (by rfl) (pa_cons (pv 4) (pa_cons (pv 5) (pa_cons (pv 2) pa_nil))))))
      (pss_cons (ps_set (i := 8) sc_law.nd rfl (by first | exact .inl rfl | exact .inr rfl) (pe_cl c_row hr (by decide) (by rfl) (pa_cons (pe_cl c_draws hr (by decide) (by rfl) (pa_cons (pe_op op_add (pe_cl c_cell hr (by decide) (by rfl) (pa_cons (pv 0) (pa_cons pe_int pa_nil))) pe_int) (pa_cons (pv 3) pa_nil))) (pa_cons (pe_lst (pa_cons pe_int pa_nil)) (pa_cons (pv 3) pa_nil)))))
      (pss_cons (ps_set (i := 9) sc_law.nd rfl (by first | exact .inl rfl | exact .inr rfl) (pe_cl c_row hr (by decide) (by rfl) (pa_cons (pe_cl c_draws hr (by decide) (by rfl) (pa_cons (pe_op op_add (pe_cl c_cell hr (by decide) (by rfl) (pa_cons (pv 0) (pa_cons pe_int pa_nil))) pe_int) (pa_cons (pv 2) pa_nil))) (pa_cons (pe_lst (pa_cons pe_int pa_nil)) (pa_cons (pv 2) pa_nil)))))
      (pss_cons (ps_set (i := 10) sc_law.nd rfl (by first | exact .inl rfl | exact .inr rfl) (pe_cl c_row hr (by decide) (by rfl) (pa_cons (pe_cl c_draws hr (by decide) (by rfl) (pa_cons (pe_op op_add (pe_cl c_cell hr (by decide) (by rfl) (pa_cons (pv 0) (pa_cons pe_int pa_nil))) pe_int) (pa_cons (pv 2) pa_nil))) (pa_cons (pe_lst (pa_cons pe_int pa_nil)) (pa_cons (pv 2) pa_nil)))))
      (pss_cons (ps_set (i := 11) sc_law.nd rfl (by first | exact .inl rfl | exact .inr rfl) (pe_cl c_huge hr (by decide) (by rfl) (pa_cons (pe_cl c_cell hr (by decide) (by rfl) (pa_cons (pv 0) (pa_cons pe_int pa_nil))) pa_nil)))
      (pss_cut (ps_if (PW.pt (pw_and (pt_cmpR op_eq (pe_op op_mod (pe_callTy call_int1 (by rfl) m_int (by decide +kernel) (pa_cons (pe_ix ix_list (pv 1) pe_int (fun _ _ => rfl)) pa_nil)) pe_int) pe_int (nomark _)) (pw_and1 (pt_cmpR op_gt (pv 2) pe_int (nomark _))))) (pss_one (ps_asg (pv 11) (pg_sub (pv 9) (pe_op op_mod (pe_callTy call_int1 (by rfl) m_int (by decide +kernel) (pa_cons (pe_ix ix_list (pv 1) pe_int (fun _ _ => rfl)) pa_nil)) (pv 2)) set_list))) pss_nil)
      (pss_cut (ps_if (PW.pt (pw_and (pt_cmpR op_eq (pe_op op_mod (pe_callTy call_int1 (by rfl) m_int (by decide +kernel) (pa_cons (pe_op op_fdiv (pe_ix ix_list (pv 1) pe_int (fun _ _ => rfl)) pe_int) pa_nil)) pe_int) pe_int (nomark _)) (pw_and (pt_cmpR op_gt (pv 2) pe_int (nomark _)) (pw_and1 (pt_cmpR op_gt (pv 3) pe_int (nomark _)))))) (pss_one (ps_asg (pe_un un_neg (pv 11)) (pg_sub (pe_ix ix_list (pv 7) (pe_op op_mod (pe_callTy call_int1 (by rfl) m_int (by decide +kernel) (pa_cons (pe_ix ix_list (pv 1) pe_int (fun _ _ => rfl)) pa_nil)) (pv 3)) (fun _ _ => rfl)) (pe_op op_mod (pe_callTy call_int1 (by rfl) m_int (by decide +kernel) (pa_cons (pe_ix ix_list (pv 1) pe_int (fun _ _ => rfl)) pa_nil)) (pv 2)) set_list))) pss_nil)
      (pss_cut (ps_if (PW.pt (pw_and (pt_cmpR op_eq (pe_op op_mod (pe_callTy call_int1 (by rfl) m_int (by decide +kernel) (pa_cons (pe_op op_fdiv (pe_ix ix_list (pv 1) pe_int (fun _ _ => rfl)) pe_int) pa_nil)) pe_int) pe_int (nomark _)) (pw_and1 (pt_cmpR op_gt (pv 3) pe_int (nomark _))))) (pss_one (ps_asg (pv 11) (pg_sub (pv 8) (pe_op op_mod (pe_callTy call_int1 (by rfl) m_int (by decide +kernel) (pa_cons (pe_ix ix_list (pv 1) pe_int (fun _ _ => rfl)) pa_nil)) (pv 3)) set_list))) pss_nil)
      (pss_cons (ps_set (i := 12) sc_law.nd rfl (by first | exact .inl rfl | exact .inr rfl) (pe_cmpR op_eq (pe_op op_mod (pe_callTy call_int1 (by rfl) m_int (by decide +kernel) (pa_cons (pe_ix ix_list (pv 1) pe_int (fun _ _ => rfl)) pa_nil)) pe_int) pe_int (nomark _)))
      (pss_cons (ps_if (pt_not (pt_val (pe_cl c_combines hr (by decide) (by rfl) (pa_cons (pv 7) (pa_cons (pv 8) (pa_cons (pv 2) (pa_cons (pv 12) pa_nil))))))) (pss_one (ps_ret pe_bl)) pss_nil)
      (pss_cons (ps_set (i := 13) sc_law.nd rfl (by first | exact .inl rfl | exact .inr rfl) (pe_lst (pa_cons pe_int (pa_cons pe_int (pa_cons (pe_op op_add pe_int (pe_op op_mod (pe_callTy call_int1 (by rfl) m_int (by decide +kernel) (pa_cons (pe_op op_fdiv (pe_ix ix_list (pv 1) pe_int (fun _ _ => rfl)) pe_int) pa_nil)) pe_int)) (pa_cons (pe_op op_add pe_int (pe_op op_mod (pe_callTy call_int1 (by rfl) m_int (by decide +kernel) (pa_cons (pe_op op_fdiv (pe_ix ix_list (pv 1) pe_int (fun _ _ => rfl)) pe_int) pa_nil)) pe_int)) (pa_cons (pe_callB call_abs (by rfl) m_abs (by decide +kernel) (pa_cons (pe_cl c_number hr (by decide) (by rfl) (pa_cons (pe_ix ix_list (pv 1) pe_int (fun _ _ => rfl)) pa_nil)) pa_nil)) (pa_cons (pv 11) pa_nil))))))))
      (pss_one (ps_ret (pe_cl c_keeping hr (by decide) (by rfl) (pa_cons (pv 9) (pa_cons (pv 10) (pa_cons (pe_ix ix_list (pv 13) (pe_op op_mod (pe_callTy call_int1 (by rfl) m_int (by decide +kernel) (pa_cons (pe_ix ix_list (pv 1) pe_int (fun _ _ => rfl)) pa_nil)) pe_int) (fun _ _ => rfl)) (pa_cons (pe_cl c_number hr (by decide) (by rfl) (pa_cons (pe_ix ix_list (pv 1) pe_int (fun _ _ => rfl)) pa_nil)) (pa_cons (pv 12) pa_nil)))))))))))))))))))))))))), ?_⟩
    walk_at "go"
    refine ⟨a, ns, 0, rfl, hS, ?_⟩
    walk_at "go"
    refine ⟨_, 13, rfl, by omega, fun p ds np hd => ?_⟩
    obtain ⟨d0, d1, d2, d3, d4, d5, d6, d7, d8, d9, d10, d11, d12, rfl⟩ := len13 hd.1
    have b0 := hd.2 d0 (by simp)
    have b1 := hd.2 d1 (by simp)
    have b2 := hd.2 d2 (by simp)
    have b5 := hd.2 d5 (by simp)
    have b6 := hd.2 d6 (by simp)
    have b7 := hd.2 d7 (by simp)
    have b8 := hd.2 d8 (by simp)
    have b10 := hd.2 d10 (by simp)
    have b11 := hd.2 d11 (by simp)
    have b12 := hd.2 d12 (by simp)
    have s1 : Same H (upd H p (.lst ([d0, d1, d2, d3, d4, d5, d6, d7, d8, d9, d10, d11, d12].map V.int))) := same_new np
    have ep : (upd H p (.lst ([d0, d1, d2, d3, d4, d5, d6, d7, d8, d9, d10, d11, d12].map V.int))) p = some (.lst ([d0, d1, d2, d3, d4, d5, d6, d7, d8, d9, d10, d11, d12].map V.int)) := upd_same
    generalize (upd H p (.lst ([d0, d1, d2, d3, d4, d5, d6, d7, d8, d9, d10, d11, d12].map V.int))) = H1 at s1 ep ⊢
    -- own_width
    walk_at "go"
    refine ⟨p, _, 0, _, rfl, rfl, SqL.of ep, at_of (j := 0) rfl rfl, ?_⟩
    walk_at "go"
    refine ⟨fun σ H2 => H2 = H1 ∧ ∃ wd : Nat, wd ≤ 16 ∧ σ = [some (.ref a), some (.ref p), some (.int (wd : Int)), none, none, none, none, none, none, none, none, none, none, none], ?_, ?_⟩
    · walk_at "go"
      refine ⟨p, _, 1, _, rfl, rfl, SqL.of ep, at_of (j := 1) rfl rfl, ?_⟩
      walk_at "go"
      refine ite2 (fun e => ?_) (fun e => ?_)
      · walk_at "go"
        refine ⟨p, _, 0, _, rfl, rfl, SqL.of ep, at_of (j := 0) rfl rfl, ?_⟩
        walk_at "go"
        exact ⟨(d0 % 17).toNat, by omega, by rw [Int.toNat_of_nonneg (by omega)]; rfl⟩
      · exact ⟨rfl, (d0 % 6).toNat, by omega, by rw [Int.toNat_of_nonneg (by omega)]; rfl⟩
    rintro σ H2 ⟨rfl, wd, hwd, rfl⟩
    -- many
    walk_at "go"
    refine ⟨p, _, 2, _, rfl, rfl, SqL.of ep, at_of (j := 2) rfl rfl, ?_⟩
    walk_at "go"
    refine ⟨fun σ H3 => H3 = H2 ∧ ∃ mn : Nat, mn ≤ 60 ∧ σ = [some (.ref a), some (.ref p), some (.int (wd : Int)), some (.int (mn : Int)), none, none, none, none, none, none, none, none, none, none], ?_, ?_⟩
    · walk_at "go"
      refine ⟨p, _, 3, _, rfl, rfl, SqL.of ep, at_of (j := 3) rfl rfl, ?_⟩
      walk_at "go"
      refine ite2 (fun e => ?_) (fun e => ?_)
      · walk_at "go"
        exact ⟨(d2 % 7 + 54).toNat, by omega, by rw [Int.toNat_of_nonneg (by omega)]; rfl⟩
      · exact ⟨rfl, (d2 % 7).toNat, by omega, by rw [Int.toNat_of_nonneg (by omega)]; rfl⟩
    rintro σ H3 ⟨rfl, mn, hmn, rfl⟩
    -- draws_here, place
    walk_at "go"
    refine ⟨a, ns, 1, rfl, s1.seq hS, ?_⟩
    walk_at "go"
    have hmw : mn * wd ≤ 60 * 16 := Nat.mul_le_mul hmn hwd
    refine ⟨ns.getD 1 0, mn * wd, by rw [Int.natCast_mul]; rfl, by omega, fun dh es nd he => ?_⟩
    walk_at "go"
    intro pl npl
    have ndp : dh ≠ pl := fun z => by rw [← z, upd_same] at npl; cases npl
    have s2 : Same H3 (upd (upd H3 dh (.lst (es.map V.int))) pl (.lst [.int 0])) := (same_new nd).trans (same_new npl)
    have edh : (upd (upd H3 dh (.lst (es.map V.int))) pl (.lst [.int 0])) dh = some (.lst (es.map V.int)) := by rw [upd_ne ndp, upd_same]
    have epl : (upd (upd H3 dh (.lst (es.map V.int))) pl (.lst [.int 0])) pl = some (.lst [.int ((0 : Nat) : Int)]) := upd_same
    have plH : H3 pl = none := Same.free (same_new nd) npl
    generalize (upd (upd H3 dh (.lst (es.map V.int))) pl (.lst [.int 0])) = H4 at s2 edh epl ⊢
    -- rows
    walk_at "go"
    intro D nD
    refine lc_gen (n := mn) (fun i H5 => ∃ m qs rs, Gath pl D wd H4 H5 i m qs rs) ?_ ?_ ?_ ?_ ?_
    · have plD : pl ≠ D := ne_of_none epl nD
      exact ⟨0, [], [], Z.Same.sb (same_new nD), by rw [upd_ne plD]; exact epl, upd_same, rfl, rfl, fun j q r h => by simp at h, List.nodup_nil, by simp, by simp⟩
    · intro i H5 hi _
      show i < (mn : Int).toNat
      omega
    · intro H5 _
      show (mn : Int).toNat ≤ mn
      omega
    · rintro i H5 x H' hi ⟨m, qs, rs, g⟩ ⟨rfl, rfl⟩
      walk_at "go"
      refine ⟨dh, pl, mn * wd, m, wd, es, rfl, SqL.of (g.sb _ _ ndp edh), he, g.plc, ndp, by omega, fun l r m' H6 sb nl el ep' lr hs => ?_⟩
      have plD : pl ≠ D := ne_of_none epl nD
      refine ⟨qs.map V.ref, sb _ _ plD.symm g.top, ?_, m', _, _, g.step (by rw [epl]; exact fun z => nomatch z) nD sb nl el ep' lr hs⟩
      rw [List.length_map, g.lq]
      exact sz hi
    rintro H5 ⟨m, qs, rs, g⟩
    have s3 : Same H3 H5 := fun b o e => g.sb b o (ne_of_none e plH) (s2 b o e)
    have s13 := s1.trans s3
    -- factors
    refine drawn_row (c := 2) (j := 2) (n := mn) rfl rfl (s13.seq hS) (by omega) fun fa fs H6 s6 nfa efa lfa hfa => ?_
    have s16 := s13.trans s6
    refine drawn_row (c := 3) (j := 3) (n := wd) rfl rfl (s16.seq hS) (by omega) fun ra xs H7 s7 nra era lra hra => ?_
    have s17 := s16.trans s7
    refine drawn_row (c := 4) (j := 4) (n := wd) rfl rfl (s17.seq hS) (by omega) fun ca cs H8 s8 nca eca lca hca => ?_
    have s18 := s17.trans s8
    have s58 := (s6.trans s7).trans s8
    have gp : H5 p = some (.lst ([d0, d1, d2, d3, d4, d5, d6, d7, d8, d9, d10, d11, d12].map V.int)) := s3 _ _ ep
    have ap : Apart p D fa ra ca qs := by
      have qin : ∀ q ∈ qs, ∃ o, H5 q = some o := fun q hq => by
        cases e : H5 q with
        | none => exact absurd e (g.fr q hq).2.2.2
        | some o => exact ⟨o, rfl⟩
      refine ⟨ne_of_none gp nfa, ne_of_none (s6 _ _ gp) nra, ne_of_none g.top nfa, ne_of_none (s6 _ _ g.top) nra, ne_of_none efa nra, (ne_of_none (s7 _ _ efa) nca).symm, (ne_of_none era nca).symm, fun q hq => ?_, g.nd⟩
      obtain ⟨o, eo⟩ := qin q hq
      have hm := g.fr q hq
      exact ⟨ne_of_none (s2 _ _ ep) hm.1, hm.2.1.symm, (ne_of_none eo nfa).symm, (ne_of_none (s6 _ _ eo) nra).symm, (ne_of_none ((s6.trans s7) _ _ eo) nca).symm⟩
    have blt : Blt H8 p D fa ra ca wd mn qs [d0, d1, d2, d3, d4, d5, d6, d7, d8, d9, d10, d11, d12] fs xs cs rs :=
      ⟨s58 _ _ gp, s58 _ _ g.top, g.lq, g.lr, fun j q r h1 h2 => s58 _ _ (g.row j q r h1 h2), g.ok, (s7.trans s8) _ _ efa, ⟨lfa, hfa⟩, s8 _ _ era, ⟨lra, hra⟩, eca, ⟨lca, hca⟩⟩
    have n1 : H fa = none := Same.free s13 nfa
    have n2 : H ra = none := Same.free s16 nra
    have n3 : ∀ q ∈ qs, H q = none := fun q hq => Same.free (s1.trans s2) (g.fr q hq).1
    -- huge
    walk_at "go"
    refine ⟨a, ns, 5, rfl, s18.seq hS, ?_⟩
    walk_at "go"
    intro hv H9 s9 shv hv0
    have s19 := s18.trans s9
    have blt9 := blt.mono s9
    clear blt s9 s58 gp g s2 epl edh nca nra nfa efa era eca s3 s13 s6 s7 s8 s16 s17 s18 hfa hra hca
    walk_at "go"
    -- row_here[..] = huge
    refine ⟨fun σ H2 => Same H H2 ∧ ∃ xs, Blt H2 p D fa ra ca wd mn qs [d0, d1, d2, d3, d4, d5, d6, d7, d8, d9, d10, d11, d12] fs xs cs rs ∧ σ = [some (.ref a), some (.ref p), some (.int (wd : Int)), some (.int (mn : Int)), some (.ref dh), some (.ref pl), none, some (.ref D), some (.ref fa), some (.ref ra), some (.ref ca), some (.int hv), none, none], ?_, ?_⟩
    · walk_at "go"
      refine ⟨p, _, 4, _, rfl, rfl, SqL.of blt9.shape, at_of (j := 4) rfl rfl, ?_⟩
      walk_at "go"
      refine ite2 (fun e => ?_) (fun e => ⟨s19, xs, blt9, rfl⟩)
      walk_at "go"
      refine ite2 (fun e' => ?_) (fun e' => ⟨s19, xs, blt9, rfl⟩)
      have hw0 : 0 < (wd : Int) := of_decide_eq_true e'
      walk_at "go"
      refine ⟨p, _, 5, _, rfl, rfl, SqL.of blt9.shape, at_of (j := 5) rfl rfl, ?_⟩
      walk_at "go"
      have h1 := Int.emod_nonneg d5 (b := (wd : Int)) (by omega)
      have h2 := Int.emod_lt_of_pos d5 hw0
      refine ⟨ra, _, _, _, rfl, rfl, blt9.vec, ixN_in h1 (by rw [List.length_map, blt9.lx.1]; exact h2), ?_⟩
      exact ⟨Z.Same.mut s19 n2, _, blt9.setVec ap shv, rfl⟩
    rintro σ H2 ⟨s20, xs, blt2, rfl⟩
    walk_at "go"
    -- rows[..][..] = -huge
    refine ⟨fun σ H2 => Same H H2 ∧ ∃ rs, Blt H2 p D fa ra ca wd mn qs [d0, d1, d2, d3, d4, d5, d6, d7, d8, d9, d10, d11, d12] fs xs cs rs ∧ σ = [some (.ref a), some (.ref p), some (.int (wd : Int)), some (.int (mn : Int)), some (.ref dh), some (.ref pl), none, some (.ref D), some (.ref fa), some (.ref ra), some (.ref ca), some (.int hv), none, none], ?_, ?_⟩
    · walk_at "go"
      refine ⟨p, _, 4, _, rfl, rfl, SqL.of blt2.shape, at_of (j := 4) rfl rfl, ?_⟩
      walk_at "go"
      refine ite2 (fun e => ?_) (fun e => ⟨s20, rs, blt2, rfl⟩)
      walk_at "go"
      refine ite2 (fun e' => ?_) (fun e' => ⟨s20, rs, blt2, rfl⟩)
      have hw0 : 0 < (wd : Int) := of_decide_eq_true e'
      walk_at "go"
      refine ite2 (fun e2 => ?_) (fun e2 => ⟨s20, rs, blt2, rfl⟩)
      have hm0 : 0 < (mn : Int) := of_decide_eq_true e2
      walk_at "go"
      refine ⟨p, _, 6, _, rfl, rfl, SqL.of blt2.shape, at_of (j := 6) rfl rfl, ?_⟩
      walk_at "go"
      have h1 := Int.emod_nonneg d6 (b := (mn : Int)) (by omega)
      have h2 := Int.emod_lt_of_pos d6 hm0
      have h3 : (d6 % (mn : Int)).toNat < qs.length := by rw [blt2.lq]; omega
      have h4 : (d6 % (mn : Int)).toNat < rs.length := by rw [blt2.lr]; omega
      have eq := List.getElem?_eq_getElem h3
      have er := List.getElem?_eq_getElem h4
      have hrow := blt2.row _ _ _ eq er
      refine ⟨D, _, _, _, rfl, rfl, SqL.of blt2.rows, at_of (j := (d6 % (mn : Int)).toNat) (by omega) (by rw [List.getElem?_map, eq]; rfl), ?_⟩
      walk_at "go"
      refine ⟨p, _, 7, _, rfl, rfl, SqL.of blt2.shape, at_of (j := 7) rfl rfl, ?_⟩
      walk_at "go"
      have h5 := Int.emod_nonneg d7 (b := (wd : Int)) (by omega)
      have h6 := Int.emod_lt_of_pos d7 hw0
      refine ⟨_, _, _, _, rfl, rfl, hrow, ixN_in h5 (by rw [List.length_map, (blt2.rok _ (List.getElem_mem h4)).1]; exact h6), ?_⟩
      exact ⟨Z.Same.mut s20 (n3 _ (List.getElem_mem h3)), _, blt2.setRow ap eq er shv.neg, rfl⟩
    clear blt2 s20 blt9 s19
    rintro σ H2 ⟨s20, rs, blt2, rfl⟩
    walk_at "go"
    -- factors[..] = huge
    refine ⟨fun σ H2 => Same H H2 ∧ ∃ fs, Blt H2 p D fa ra ca wd mn qs [d0, d1, d2, d3, d4, d5, d6, d7, d8, d9, d10, d11, d12] fs xs cs rs ∧ σ = [some (.ref a), some (.ref p), some (.int (wd : Int)), some (.int (mn : Int)), some (.ref dh), some (.ref pl), none, some (.ref D), some (.ref fa), some (.ref ra), some (.ref ca), some (.int hv), none, none], ?_, ?_⟩
    · walk_at "go"
      refine ⟨p, _, 4, _, rfl, rfl, SqL.of blt2.shape, at_of (j := 4) rfl rfl, ?_⟩
      walk_at "go"
      refine ite2 (fun e => ?_) (fun e => ⟨s20, fs, blt2, rfl⟩)
      walk_at "go"
      refine ite2 (fun e2 => ?_) (fun e2 => ⟨s20, fs, blt2, rfl⟩)
      have hm0 : 0 < (mn : Int) := of_decide_eq_true e2
      walk_at "go"
      refine ⟨p, _, 8, _, rfl, rfl, SqL.of blt2.shape, at_of (j := 8) rfl rfl, ?_⟩
      walk_at "go"
      have h1 := Int.emod_nonneg d8 (b := (mn : Int)) (by omega)
      have h2 := Int.emod_lt_of_pos d8 hm0
      refine ⟨fa, _, _, _, rfl, rfl, blt2.fac, ixN_in h1 (by rw [List.length_map, blt2.lf.1]; exact h2), ?_⟩
      exact ⟨Z.Same.mut s20 n1, _, blt2.setFac ap shv, rfl⟩
    clear blt2 s20
    rintro σ H2 ⟨s20, fs, blt2, rfl⟩
    walk_at "go"
    refine ⟨p, _, 9, _, rfl, rfl, SqL.of blt2.shape, at_of (j := 9) rfl rfl, ?_⟩
    walk_at "go"
    generalize decide (V.int (d9 % 2) = V.int 0) = lb
    refine ⟨lb, D, fa, qs, rs, fs, wd, rfl, ⟨SqL.of blt2.rows, by rw [blt2.lq, blt2.lr], fun i q r h1 h2 => SqL.of (blt2.row i q r h1 h2)⟩, SqL.of blt2.fac, by rw [blt2.lf.1, blt2.lr], fun r hr => (blt2.rok r hr).1, by omega, by rw [blt2.lr]; omega, fun x hx => (blt2.lf.2 x hx).sm, fun r hr y hy => ⟨((blt2.rok r hr).2 y hy).sm, ((blt2.rok r hr).2 y hy).sm1⟩, fun H3 s21 => ?_⟩
    have blt3 := blt2.mono s21
    walk_at "go"
    refine ⟨p, _, 10, _, rfl, rfl, SqL.of blt3.shape, at_of (j := 10) rfl rfl, ?_⟩
    walk_at "go"
    refine ⟨p, _, 10, _, rfl, rfl, SqL.of blt3.shape, at_of (j := 10) rfl rfl, ?_⟩
    walk_at "go"
    refine ⟨p, _, 11, _, rfl, rfl, SqL.of blt3.shape, at_of (j := 11) rfl rfl, ?_⟩
    walk_at "go"
    intro nr snr
    walk_at "go"
    intro ml nml
    have s22 := same_new (o := .lst ([0, 1, 2 + d10 / 6 % 12, 2 + d10 / 6 % 12, (if nr < 0 then -nr else nr), hv].map V.int)) nml
    have blt4 := blt3.mono s22
    walk_at "go"
    have hmod : ∀ v ∈ [0, 1, 2 + d10 / 6 % 12, 2 + d10 / 6 % 12, (if nr < 0 then -nr else nr), hv], 0 ≤ v ∧ Sm v := by
      intro v hv'
      simp only [List.mem_cons, List.not_mem_nil, or_false] at hv'
      rcases hv' with rfl | rfl | rfl | rfl | rfl | rfl
      · exact ⟨by omega, (sm_of (m := 100) (by omega)).sm⟩
      · exact ⟨by omega, (sm_of (m := 100) (by omega)).sm⟩
      · exact ⟨by omega, (sm_of (m := 100) (by omega)).sm⟩
      · exact ⟨by omega, (sm_of (m := 100) (by omega)).sm⟩
      · split
        · exact ⟨by omega, snr.neg.sm⟩
        · exact ⟨by omega, snr.sm⟩
      · exact ⟨hv0, shv.sm⟩
    obtain ⟨md, emd, hmd⟩ := pick_at (i := d10 % 6) hmod (by omega) (by simp; omega)
    refine ⟨p, _, 10, _, rfl, rfl, SqL.of blt4.shape, at_of (j := 10) rfl rfl, ?_⟩
    walk_at "go"
    refine ⟨ml, _, _, _, rfl, rfl, SqL.of upd_same, emd, ?_⟩
    walk_at "go"
    refine ⟨p, _, 12, _, rfl, rfl, SqL.of blt4.shape, at_of (j := 12) rfl rfl, ?_⟩
    walk_at "go"
    intro ld sld
    walk_at "go"
    exact ⟨lb, ra, ca, xs, cs, md, ld, rfl, SqL.of blt4.vec, SqL.of blt4.coe, by rw [blt4.lc.1, blt4.lx.1], by rw [blt4.lx.1]; omega, fun x hx => (blt4.lc.2 x hx).sm, fun x hx => (blt4.lx.2 x hx).sm, hmd.1, hmd.2, sld.sm, fun H' _ => k H'⟩
end
end Z
set_option Elab.async false
set_option linter.all false
set_option maxRecDepth 100000
set_option maxHeartbeats 4000000
set_option maxHeartbeats 0
namespace Z
open PySem PySem.Spec PyProof.Rows L2
theorem kb_combine {K : PySem.W.Frag} {f : Addr} {fd : FuncData} (F : FnP K "combine" s_combine f fd) : KBn K fd P_combine 2 ["width"] (fun us ws => us ++ ws) (fun vs zs => vs ++ zs) := by
  obtain ⟨oc, od, dV, kV, doc, pm, an, cdv, ct, osl, rfl, lk, hcd, hD, hK⟩ := F.ex
  rcases hD with ⟨_, rfl⟩ | ⟨e, _⟩
  · exact ⟨fun s us ws X l1 l2 => .of_eq (match us, l1, ws, l2 with | [_, _], _, [_], _ => rfl), fun r1 r2 => r1.append r2⟩
  · exact absurd rfl e
theorem b_less {K : PySem.W.Frag} {f : Addr} {fd : FuncData} (F : FunD K "less_rows" "less_rows" (defArgs s_less_rows) (defBody s_less_rows) (defScope s_less_rows) [.int 1] [] f fd) : Binds K fd P_less_rows [] := by
  obtain ⟨ds, hv, b⟩ := F.binds1 (ps := P_less_rows) 3 1 (by simp) rfl (fun T kV doc pm an cdv ct us its h1 h2 => match us, h1, its, h2 with | [_, _, _], _, [_], _ => ⟨_, rfl, rfl⟩)
  cases hv
  exact b
def d_less_rows : He.DefD := ⟨("less_rows", none), "less_rows", "less_rows", defArgs s_less_rows, defBody s_less_rows, defScope s_less_rows, [.int 1], []⟩
def d_dot : He.DefD := ⟨("dot", none), "dot", "dot", defArgs s_dot, defBody s_dot, defScope s_dot, [], []⟩
def d_combine : He.DefD := ⟨("combine", none), "combine", "combine", defArgs s_combine, defBody s_combine, defScope s_combine, [], []⟩
def d_keeps : He.DefD := ⟨("keeps", none), "keeps", "keeps", defArgs s_keeps, defBody s_keeps, defScope s_keeps, [], []⟩
def d_cell : He.DefD := ⟨("_law_cell", none), "_law_cell", "_law_cell", defArgs s_cell, defBody s_cell, defScope s_cell, [], []⟩
def d_draws : He.DefD := ⟨("_law_draws", none), "_law_draws", "_law_draws", defArgs s_draws, defBody s_draws, defScope s_draws, [], []⟩
def d_take : He.DefD := ⟨("_law_take", none), "_law_take", "_law_take", defArgs s_take, defBody s_take, defScope s_take, [], []⟩
def d_int : He.DefD := ⟨("_law_int", none), "_law_int", "_law_int", defArgs s_int, defBody s_int, defScope s_int, [], []⟩
def d_is_row : He.DefD := ⟨("_law_is_row", none), "_law_is_row", "_law_is_row", defArgs s_is_row, defBody s_is_row, defScope s_is_row, [], []⟩
def d_number : He.DefD := ⟨("_law_number", none), "_law_number", "_law_number", defArgs s_number, defBody s_number, defScope s_number, [], []⟩
def d_huge : He.DefD := ⟨("_law_huge", none), "_law_huge", "_law_huge", defArgs s_huge, defBody s_huge, defScope s_huge, [], []⟩
def d_row : He.DefD := ⟨("_law_row", none), "_law_row", "_law_row", defArgs s_row, defBody s_row, defScope s_row, [], []⟩
def d_combined : He.DefD := ⟨("_law_combined", none), "_law_combined", "_law_combined", defArgs s_combined, defBody s_combined, defScope s_combined, [], []⟩
def d_handed : He.DefD := ⟨("_law_handed", none), "_law_handed", "_law_handed", defArgs s_handed, defBody s_handed, defScope s_handed, [], []⟩
def d_combines : He.DefD := ⟨("_law_combines", none), "_law_combines", "_law_combines", defArgs s_combines, defBody s_combines, defScope s_combines, [], []⟩
def d_keeping : He.DefD := ⟨("_law_keeping", none), "_law_keeping", "_law_keeping", defArgs s_keeping, defBody s_keeping, defScope s_keeping, [], []⟩
def d_law : He.DefD := ⟨("law", none), "law", "law", defArgs s_law, defBody s_law, defScope s_law, [], []⟩
def fn : List He.DefD := [d_less_rows, d_dot, d_combine, d_keeps, d_cell, d_draws, d_take, d_int, d_is_row, d_number, d_huge, d_row, d_combined, d_handed, d_combines, d_keeping, d_law]
def fa : List He.Fa := [.glo "less_rows", .glo "dot", .glo "combine", .glo "keeps", .glo "_law_cell", .glo "_law_draws", .glo "_law_take", .glo "_law_int", .glo "_law_is_row", .glo "_law_number", .glo "_law_huge", .glo "_law_row", .glo "_law_combined", .glo "_law_handed", .glo "_law_combines", .glo "_law_keeping", .glo "law", .free "abs", .free "bool", .free "int", .free "isinstance", .free "len", .free "list", .free "range", .free "sum", .free "tuple", .free "zip"]
def loose : List Str := ["less_rows", "dot", "combine", "keeps", "_law_cell", "_law_draws", "_law_take", "_law_int", "_law_is_row", "_law_number", "_law_huge", "_law_row", "_law_combined", "_law_handed", "_law_combines", "_law_keeping"]
abbrev R : PySem.W.OpenRow := PySem.W.OpenLaw.row PySem.Challenge.rw_signedpacts_k07_combine_and_keeps
abbrev hk : PySem.W.Hook := He.hookD 4 fa fn
def ob (s : PySem.W.SharedT) : He.AlD := He.obsDG 4 fa fn (HandSHeadRun.getT s)
theorem ob_eq (s : PySem.W.SharedT) : ob s = hk.obs s.abs := He.obsDG_eq (HandSHeadRun.getT_eq s)
theorem run (w : World) : HandSHeadRun.RunEq R (PySem.W.view R.prog [19]) hk ob 2000 loose w := by
  intro os
  kernel_rfl
theorem facts {P : Program} {w : World} {K : PySem.W.Frag} {h : Heap} {mg : Str → Option Value} {f : Addr} (X : K.In h) (G : h.Ns mainGlobals mg) (hfa : mg ("law" : Str) = some (.ref f)) (c : He.SaysD fa fn K) :
    ∃ fd : FuncData, (∀ (s : Shared) (v : Value), BindsTo s fd ⟨[v], []⟩ [("_law_script", v)]) ∧ ∀ base : Heap, K.In base → base.Ns mainGlobals mg → FnOk P w K mg base CX0 4 f fd ["_law_script"] (spLaw K) := by
  obtain ⟨fd_less_rows, F_less_rows⟩ := c.def_ 0 (d := d_less_rows) rfl
  have g_less_rows := He.glo_ok X G (c.fact 0 (f := .glo "less_rows") rfl)
  obtain ⟨fd_dot, F_dot⟩ := c.def_ 1 (d := d_dot) rfl
  have F_dot : FnP K "dot" s_dot _ fd_dot := F_dot
  have g_dot := He.glo_ok X G (c.fact 1 (f := .glo "dot") rfl)
  obtain ⟨fd_combine, F_combine⟩ := c.def_ 2 (d := d_combine) rfl
  have F_combine : FnP K "combine" s_combine _ fd_combine := F_combine
  have g_combine := He.glo_ok X G (c.fact 2 (f := .glo "combine") rfl)
  obtain ⟨fd_keeps, F_keeps⟩ := c.def_ 3 (d := d_keeps) rfl
  have F_keeps : FnP K "keeps" s_keeps _ fd_keeps := F_keeps
  have g_keeps := He.glo_ok X G (c.fact 3 (f := .glo "keeps") rfl)
  obtain ⟨fd_cell, F_cell⟩ := c.def_ 4 (d := d_cell) rfl
  have F_cell : FnP K "_law_cell" s_cell _ fd_cell := F_cell
  have g_cell := He.glo_ok X G (c.fact 4 (f := .glo "_law_cell") rfl)
  obtain ⟨fd_draws, F_draws⟩ := c.def_ 5 (d := d_draws) rfl
  have F_draws : FnP K "_law_draws" s_draws _ fd_draws := F_draws
  have g_draws := He.glo_ok X G (c.fact 5 (f := .glo "_law_draws") rfl)
  obtain ⟨fd_take, F_take⟩ := c.def_ 6 (d := d_take) rfl
  have F_take : FnP K "_law_take" s_take _ fd_take := F_take
  have g_take := He.glo_ok X G (c.fact 6 (f := .glo "_law_take") rfl)
  obtain ⟨fd_int, F_int⟩ := c.def_ 7 (d := d_int) rfl
  have F_int : FnP K "_law_int" s_int _ fd_int := F_int
  have g_int := He.glo_ok X G (c.fact 7 (f := .glo "_law_int") rfl)
  obtain ⟨fd_is_row, F_is_row⟩ := c.def_ 8 (d := d_is_row) rfl
  have F_is_row : FnP K "_law_is_row" s_is_row _ fd_is_row := F_is_row
  have g_is_row := He.glo_ok X G (c.fact 8 (f := .glo "_law_is_row") rfl)
  obtain ⟨fd_number, F_number⟩ := c.def_ 9 (d := d_number) rfl
  have F_number : FnP K "_law_number" s_number _ fd_number := F_number
  have g_number := He.glo_ok X G (c.fact 9 (f := .glo "_law_number") rfl)
  obtain ⟨fd_huge, F_huge⟩ := c.def_ 10 (d := d_huge) rfl
  have F_huge : FnP K "_law_huge" s_huge _ fd_huge := F_huge
  have g_huge := He.glo_ok X G (c.fact 10 (f := .glo "_law_huge") rfl)
  obtain ⟨fd_row, F_row⟩ := c.def_ 11 (d := d_row) rfl
  have F_row : FnP K "_law_row" s_row _ fd_row := F_row
  have g_row := He.glo_ok X G (c.fact 11 (f := .glo "_law_row") rfl)
  obtain ⟨fd_combined, F_combined⟩ := c.def_ 12 (d := d_combined) rfl
  have F_combined : FnP K "_law_combined" s_combined _ fd_combined := F_combined
  have g_combined := He.glo_ok X G (c.fact 12 (f := .glo "_law_combined") rfl)
  obtain ⟨fd_handed, F_handed⟩ := c.def_ 13 (d := d_handed) rfl
  have F_handed : FnP K "_law_handed" s_handed _ fd_handed := F_handed
  have g_handed := He.glo_ok X G (c.fact 13 (f := .glo "_law_handed") rfl)
  obtain ⟨fd_combines, F_combines⟩ := c.def_ 14 (d := d_combines) rfl
  have F_combines : FnP K "_law_combines" s_combines _ fd_combines := F_combines
  have g_combines := He.glo_ok X G (c.fact 14 (f := .glo "_law_combines") rfl)
  obtain ⟨fd_keeping, F_keeping⟩ := c.def_ 15 (d := d_keeping) rfl
  have F_keeping : FnP K "_law_keeping" s_keeping _ fd_keeping := F_keeping
  have g_keeping := He.glo_ok X G (c.fact 15 (f := .glo "_law_keeping") rfl)
  obtain ⟨fd_law, F_law⟩ := c.def_ 16 (d := d_law) rfl
  have F_law : FnP K "law" s_law _ fd_law := F_law
  have g_law := He.glo_ok X G (c.fact 16 (f := .glo "law") rfl)
  have m_abs := He.free_ok X G (c.fact 17 (f := .free "abs") rfl)
  have m_bool := He.free_ok X G (c.fact 18 (f := .free "bool") rfl)
  have m_int := He.free_ok X G (c.fact 19 (f := .free "int") rfl)
  have m_isinstance := He.free_ok X G (c.fact 20 (f := .free "isinstance") rfl)
  have m_len := He.free_ok X G (c.fact 21 (f := .free "len") rfl)
  have m_list := He.free_ok X G (c.fact 22 (f := .free "list") rfl)
  have m_range := He.free_ok X G (c.fact 23 (f := .free "range") rfl)
  have m_sum := He.free_ok X G (c.fact 24 (f := .free "sum") rfl)
  have m_tuple := He.free_ok X G (c.fact 25 (f := .free "tuple") rfl)
  have m_zip := He.free_ok X G (c.fact 26 (f := .free "zip") rfl)
  have b_dot : Binds K fd_dot P_dot [] := F_dot.bindsN fun _ _ _ _ _ _ us hl => match us, hl with | [_, _], _ => rfl
  have b_keeps : Binds K fd_keeps P_keeps [] := F_keeps.bindsN fun _ _ _ _ _ _ us hl => match us, hl with | [_, _], _ => rfl
  have b_cell : Binds K fd_cell P_cell [] := F_cell.bindsN fun _ _ _ _ _ _ us hl => match us, hl with | [_, _], _ => rfl
  have b_draws : Binds K fd_draws P_draws [] := F_draws.bindsN fun _ _ _ _ _ _ us hl => match us, hl with | [_, _], _ => rfl
  have b_take : Binds K fd_take P_take [] := F_take.bindsN fun _ _ _ _ _ _ us hl => match us, hl with | [_, _], _ => rfl
  have b_int : Binds K fd_int P_int [] := F_int.bindsN fun _ _ _ _ _ _ us hl => match us, hl with | [_], _ => rfl
  have b_is_row : Binds K fd_is_row P_is_row [] := F_is_row.bindsN fun _ _ _ _ _ _ us hl => match us, hl with | [_, _], _ => rfl
  have b_number : Binds K fd_number P_number [] := F_number.bindsN fun _ _ _ _ _ _ us hl => match us, hl with | [_], _ => rfl
  have b_huge : Binds K fd_huge P_huge [] := F_huge.bindsN fun _ _ _ _ _ _ us hl => match us, hl with | [_], _ => rfl
  have b_row : Binds K fd_row P_row [] := F_row.bindsN fun _ _ _ _ _ _ us hl => match us, hl with | [_, _, _], _ => rfl
  have b_combined : Binds K fd_combined P_combined [] := F_combined.bindsN fun _ _ _ _ _ _ us hl => match us, hl with | [_, _, _], _ => rfl
  have b_handed : Binds K fd_handed P_handed [] := F_handed.bindsN fun _ _ _ _ _ _ us hl => match us, hl with | [_, _], _ => rfl
  have b_combines : Binds K fd_combines P_combines [] := F_combines.bindsN fun _ _ _ _ _ _ us hl => match us, hl with | [_, _, _, _], _ => rfl
  have b_keeping : Binds K fd_keeping P_keeping [] := F_keeping.bindsN fun _ _ _ _ _ _ us hl => match us, hl with | [_, _, _, _, _], _ => rfl
  have e := hfa.symm.trans g_law
  cases e
  have b := FunD.bindsA (ps := ["_law_script"]) F_law fun _ _ _ _ _ _ us hl => match us, hl with | [_], _ => rfl
  refine ⟨fd_law, fun s v => b s [v] rfl, fun base _ _ => ?_⟩
  have c_cell : Cal P w K mg base 1 "_law_cell" (spCell K) := cal_of F_cell g_cell b_cell (ok_cell F_cell m_len m_int)
  have c_draws : Cal P w K mg base 1 "_law_draws" spDraws := cal_of F_draws g_draws b_draws (ok_draws F_draws m_int m_abs m_range)
  have c_take : Cal P w K mg base 1 "_law_take" (spTake K) := cal_of F_take g_take b_take (ok_take F_take m_len)
  have c_number : Cal P w K mg base 1 "_law_number" spNumber := cal_of F_number g_number b_number (ok_number F_number m_int m_range)
  have c_huge : Cal P w K mg base 2 "_law_huge" spHuge := cal_of F_huge g_huge b_huge (ok_huge F_huge c_draws)
  have c_int : Cal P w K mg base 1 "_law_int" spInt := cal_of F_int g_int b_int (ok_int F_int m_isinstance m_int m_bool)
  have c_is_row : Cal P w K mg base 2 "_law_is_row" spIsRow := cal_of F_is_row g_is_row b_is_row (ok_is_row F_is_row m_isinstance m_tuple m_len c_int)
  have c_row : Cal P w K mg base 2 "_law_row" (spRow K) := cal_of F_row g_row b_row (ok_row F_row m_range c_number c_take)
  have c_less : Cal P w K mg base 1 "less_rows" (spLess K) := ⟨_, _, _, ok_less F_less_rows m_zip m_tuple, g_less_rows, F_less_rows.kp, b_less F_less_rows⟩
  have c_dot : Cal P w K mg base 1 "dot" (spDot K) := cal_of F_dot g_dot b_dot (ok_dot F_dot m_zip m_sum)
  have c_combine : CalK P w K mg base 2 "combine" 2 ["width"] (fun vs zs => vs ++ zs) (spComb K) := ⟨_, _, _, _, ok_combine F_combine m_zip c_less, g_combine, F_combine.kp, kb_combine F_combine⟩
  have c_keeps : Cal P w K mg base 2 "keeps" (spKeeps K) := cal_of F_keeps g_keeps b_keeps (ok_keeps F_keeps c_dot)
  have c_combined : Cal P w K mg base 1 "_law_combined" (spCombined K) := cal_of F_combined g_combined b_combined (ok_combined F_combined m_range m_len)
  have c_handed : Cal P w K mg base 1 "_law_handed" (spHanded K) := cal_of F_handed g_handed b_handed (ok_handed F_handed m_list m_tuple)
  have c_combines : Cal P w K mg base 3 "_law_combines" (spCombines K) := cal_of F_combines g_combines b_combines (ok_combines F_combines m_range m_len m_list c_handed c_combined c_is_row c_combine)
  have c_keeping : Cal P w K mg base 3 "_law_keeping" (spKeeping K) := cal_of F_keeping g_keeping b_keeping (ok_keeping F_keeping m_range m_len m_list m_tuple m_sum m_int m_bool m_isinstance c_keeps)
  exact ok_law F_law m_int m_abs m_range c_cell c_draws c_row c_huge c_number c_combines c_keeping
end Z
open PySem PySem.W PySem.Calls PyProof.Rows
theorem PySem.Challenge.cw_signedpacts_k07_combine_and_keeps_holds : PySem.Challenge.rw_signedpacts_k07_combine_and_keeps.Holds := by
  w_on; o_law
  refine HandSHeadRun.head_any (r := OpenLaw.row PySem.Challenge.rw_signedpacts_k07_combine_and_keeps) (q := view (OpenLaw.row PySem.Challenge.rw_signedpacts_k07_combine_and_keeps).prog [19]) (H := Z.hk) (ob := Z.ob) (M := 2000) (loose := Z.loose) (d := HandSHeadRun.topDef (OpenLaw.row PySem.Challenge.rw_signedpacts_k07_combine_and_keeps).prog 19) (kwd := []) Z.ob_eq
    (by kernel_rfl) (fun s => by kernel_rfl) Z.run (by kernel_rfl) (by kernel_rfl) (by kernel_rfl) (by rfl) (by first | assumption | decide +kernel) (by decide +kernel) ⟨rfl, rfl, rfl, rfl, rfl, by decide +kernel⟩ ?hw ?hc
  case hw => w_witness2
  case hc =>
    refine L2.walk_ofE (l := PySem.Challenge.rw_signedpacts_k07_combine_and_keeps) (n := 63) (k := 4) (x := "_law_script") (CX := L2.CX0) rfl (by decide) (by kernel_rfl) ⟨rfl, by decide, by decide⟩ ?F (fun _ _ _ _ z => z)
    intro w mg fa h Y G hmg0
    obtain ⟨K, KX, c⟩ := Y
    have hmg : mg ("law" : PySem.Str) = some (.ref fa) := by
      have e : (HandSHeadRun.topDef (OpenLaw.row PySem.Challenge.rw_signedpacts_k07_combine_and_keeps).prog 19).name = ("law" : PySem.Str) := by kernel_rfl
      rw [← e]
      exact hmg0
    obtain ⟨fd, hb, hF⟩ := Z.facts (P := (PySem.Challenge.rw_signedpacts_k07_combine_and_keeps).prog) (w := w) KX G hmg c
    exact ⟨K, fd, Z.spLaw K, KX, hb, fun H a ns hl _ hS => ⟨a, ns, rfl, hS, fun _ => rfl⟩, hF⟩
