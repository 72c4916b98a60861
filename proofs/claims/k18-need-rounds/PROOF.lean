import PyProof.Rows.All
import Wide.All
import OpenK.AllK
import Wide.FinOn
import HandS.ForMost
import HandS.Zip
import HandS.TupMul
import HandS.Codes
import KE.GoesMore
import KE.GoesEnum
import HandS.Defaults
import HandS.IsInst
import HandS.Wide
import HandS.WideBits
import HandS.NoneIn
import HandS.OwnEq
import HandS.Star
import HandS.SetTxtIn
import HandS.Head0
import HandS.Head1
import HandS.Head2
import HandS.HeadEnd
import HandS.HeadHook1
import HandS.HeadHook2
import PySem.Challenge.RW_signedpacts_k18_need_rounds
set_option Elab.async false
set_option linter.all false
set_option maxRecDepth 100000
set_option maxHeartbeats 4000000
namespace Z
open PySem PySem.Spec PyProof.Rows L2
/-! ### zip over two sequences, each a list (true) or a tuple (false) -/
def SqK (b : Bool) (K : PySem.W.Frag) (H : Hp) (a : Addr) (xs : List V) : Prop := match b with
  | true => SqL K H a xs
  | false => SqT K H a xs
def ItK (b : Bool) (h : Heap) (it l : Addr) (i : Nat) : Prop := match b with
  | true => h.IsListIter it l i
  | false => h.IsTupleIter it l i
def IsK (b : Bool) (h : Heap) (l : Addr) (xs : Array Value) : Prop := match b with
  | true => h.IsList l xs
  | false => h.IsTuple l xs
theorem ItK.at' {b : Bool} {h h' : Heap} {it l : Addr} {i : Nat} (x : ItK b h it l i) (k : ∀ o, h.get? it = some o → h'.get? it = some o) : ItK b h' it l i := by
  cases b
  · exact Heap.IsTupleIter.at x k
  · exact Heap.IsListIter.at x k
theorem ItK.obj {b : Bool} {h : Heap} {it l : Addr} {i : Nat} (x : ItK b h it l i) : ∃ o, h.get? it = some o ∧ ∀ v, o.data ≠ .cell v := by
  cases b
  · obtain ⟨o, e, _, d⟩ := (show h.IsTupleIter it l i from x)
    exact ⟨o, e, fun v q => by rw [d] at q; cases q⟩
  · obtain ⟨o, e, _, d⟩ := (show h.IsListIter it l i from x)
    exact ⟨o, e, fun v q => by rw [d] at q; cases q⟩
theorem sqk_is {X : Cx} {pins : List (Addr × Obj)} {σ : L2.St} {H : Hp} {s : Shared} {b : Bool} {a : Addr} {xs : List V} (I : Inv X pins σ H s) (h : SqK b X.K H a xs) :
    ∃ its : List Value, Vals xs its ∧ IsK b s.heap a its.toArray ∧ a < s.heap.objs.size := by
  cases b
  · obtain ⟨its, r, p, _⟩ := I.tuple h
    obtain ⟨o, ho, _⟩ := id p
    exact ⟨its, r, p, Heap.lt_size ho⟩
  · obtain ⟨its, r, p, _⟩ := I.list h
    exact ⟨its, r, p.isList, p.lt⟩
theorem sqk_inj {X : Cx} {pins : List (Addr × Obj)} {σ : L2.St} {H : Hp} {s : Shared} {b : Bool} {a : Addr} {xs ys : List V} (I : Inv X pins σ H s) (h : SqK b X.K H a xs) (h' : SqK b X.K H a ys) : xs = ys := by
  cases b
  · exact I.tuple_inj h h'
  · exact I.list_inj h h'
theorem drawsK {prog : Program} {w : World} {A : Around} (b : Bool) (hh : A.handled = none) (it l : Addr) (hne : l ≠ it) (items : Array Value) :
    Draws prog w A it [it, l] items.size (fun i v => items[i]? = some v) (fun i h => ItK b h it l i ∧ IsK b h l items) := by
  cases b
  · exact Draws.tuple hh it l hne items
  · exact Draws.list hh it l hne items
def ItzM (p q : Bool) (K : PySem.W.Frag) (a b : Addr) : It :=
  ⟨fun i H => ∃ (xs ys : List V) (x y : V), SqK p K H a xs ∧ SqK q K H b ys ∧ xs[i]? = some x ∧ ys[i]? = some y,
   fun i H v H' => ∃ T x y, v = .ref T ∧ H T = none ∧ H' = upd H T (.tup [x, y]) ∧ (∀ xs, SqK p K H a xs → xs[i]? = some x) ∧ (∀ ys, SqK q K H b ys → ys[i]? = some y),
   fun i H => ∃ xs ys : List V, SqK p K H a xs ∧ SqK q K H b ys ∧ (xs.length ≤ i ∨ ys.length ≤ i) ∧ i ≤ xs.length ∧ i ≤ ys.length⟩
theorem zsep {z TI TO i1 i2 a b : Addr} (D : ZipApart z TI TO i1 i2 a b) : ZipSep2 z TI TO i1 i2 [i1, a] [i2, b] where
  TIz := D.TIz
  TOz := D.TOz
  TITO := D.TITO
  TIi1 := D.TIi1
  mem1 := List.mem_cons_self
  zf1 := fun h => by rcases List.mem_cons.mp h with e | h; exact D.i1z e.symm; exact D.l1z (List.mem_singleton.mp h).symm
  Tf1 := fun h => by rcases List.mem_cons.mp h with e | h; exact D.TOi1 e; exact D.l1TO (List.mem_singleton.mp h).symm
  TIi2 := D.TIi2
  mem2 := List.mem_cons_self
  zf2 := fun h => by rcases List.mem_cons.mp h with e | h; exact D.i2z e.symm; exact D.l2z (List.mem_singleton.mp h).symm
  Tf2 := fun h => by rcases List.mem_cons.mp h with e | h; exact D.TOi2 e; exact D.l2TO (List.mem_singleton.mp h).symm
  sep1_2 := fun h => by rcases List.mem_cons.mp h with e | h; exact D.i12 e; exact D.l2i1 (List.mem_singleton.mp h).symm
  sep2_1 := fun h => by rcases List.mem_cons.mp h with e | h; exact D.i12 e.symm; exact D.l1i2 (List.mem_singleton.mp h).symm
theorem five {c z TI TO i1 i2 : Addr} {Pr : Addr → Prop} (hc : c ∈ [z, TI, TO, i1, i2]) (a : Pr z) (b : Pr TI) (d : Pr TO) (e : Pr i1) (f : Pr i2) : Pr c := by
  have q : c = z ∨ c = TI ∨ c = TO ∨ c = i1 ∨ c = i2 := by simpa using hc
  rcases q with rfl | rfl | rfl | rfl | rfl <;> assumption
theorem turn_zipM {p q : Bool} {P : Program} {w : World} {K : PySem.W.Frag} {elts : List Expr} {kk : Nat} {tpos : Pos} {a b z TI TO i1 i2 : Addr} (D : ZipApart z TI TO i1 i2 a b) :
    Turn P w K (.Tuple elts kk tpos) (ItzM p q K a b) [z, TI, TO, i1, i2] z (fun i h => IsZip h z TI TO .none ∧ IsTupOf2 h TI (.ref i1) (.ref i2) ∧ (∃ x y, IsTupOf2 h TO x y) ∧ ItK p h i1 a i ∧ ItK q h i2 b i) where
  mem := by simp
  obj := fun i h st c hc => by
    obtain ⟨hz, hI, ⟨x, y, hO⟩, h1, h2⟩ := st
    exact five (Pr := fun c => ∃ o, h.get? c = some o ∧ ∀ v, o.data ≠ .cell v) hc ⟨_, hz, fun v q => nomatch q⟩ ⟨_, hI, fun v q => nomatch q⟩ ⟨_, hO, fun v q => nomatch q⟩ h1.obj h2.obj
  keep := fun i h h' st k => by
    obtain ⟨hz, hI, ⟨x, y, hO⟩, h1, h2⟩ := st
    exact ⟨k z (by simp) _ hz, k TI (by simp) _ hI, ⟨x, y, k TO (by simp) _ hO⟩, h1.at' (fun o e => k i1 (by simp) o e), h2.at' (fun o e => k i2 (by simp) o e)⟩
  item := by
    intro X hP hw hK hc i pins s σ H E I hf st hg
    subst hP hw hK
    obtain ⟨hz, hI, ⟨x0, y0, hO⟩, h1, h2⟩ := st
    obtain ⟨xs, ys, x, y, qx, qy, ex, ey⟩ := hg
    obtain ⟨us, rx, kx, _⟩ := sqk_is I qx
    obtain ⟨vs, ry, ky, _⟩ := sqk_is I qy
    obtain ⟨u, eu, ru⟩ := rx.get ex
    obtain ⟨v, ev, rv⟩ := ry.get ey
    have hzl : z < s.heap.objs.size := Heap.lt_size hz
    have lu : i < us.toArray.size := by simpa using (List.getElem?_eq_some_iff.mp eu).1
    have lv : i < vs.toArray.size := by simpa using (List.getElem?_eq_some_iff.mp ev).1
    have hh : X.A.in1.handled = none := I.ok.hd hc
    refine wpAny_pyNext_zipD2_item (zsep D) (drawsK p hh i1 a D.l1i1 us.toArray) (drawsK q hh i2 b D.l2i2 vs.toArray) hz hI hO ⟨h1, kx⟩ ⟨h2, ky⟩ lu lv fun m1 m2 g tk p1 p2 gz gO g1 g2 gT gs gk => ?_
    have e1 : m1 = u := by
      have t1 : us.toArray[i]? = some u := by simpa using eu
      exact Option.some.inj (p1.symm.trans t1)
    have e2 : m2 = v := by
      have t1 : vs.toArray[i]? = some v := by simpa using ev
      exact Option.some.inj (p2.symm.trans t1)
    subst e1 e2
    refine ⟨_, rfl, wpAny_letOwnedTupleGo_zip (s := { s with heap := g, toks := tk }) gz fun g' gz' sb => ?_⟩
    have gT' : g'.get? s.heap.objs.size = some { cls := .type "tuple", data := .seq #[m1, m2] } := (sb.2 _ (Nat.ne_of_gt hzl)).trans gT
    have nw : ObjOk X.prog X.w (upd H s.heap.objs.size (.tup [x, y])) g' s.heap.objs.size (.tup [x, y]) := ⟨by show 2 ≤ sizeLine; decide, [m1, m2], .cons ru (.cons rv .nil), ⟨_, gT', rfl, _, rfl⟩⟩
    have I1 : Inv X pins σ (upd H s.heap.objs.size (.tup [x, y])) { s with heap := g', toks := tk } :=
      I.turnedNew (t' := tk) (ch := [z, TI, TO, i1, i2]) (fun c o nb e => (sb.2 c (fun w => nb (by simp [w]))).trans (gk c o (fun w => nb (by simp [w])) (fun w => nb (by simp [w])) (fun w => nb (by simp [w])) (fun w => nb (by simp [w])) e)) hf (Nat.le_refl _) nw
    refine ⟨.ref s.heap.objs.size, _, I1, rfl, ⟨_, x, y, rfl, I.hok.fresh (Nat.le_refl _), rfl, fun l hl => by rw [sqk_inj I hl qx]; exact ex, fun l hl => by rw [sqk_inj I hl qy]; exact ey⟩, ⟨gz', ?_, ⟨m1, m2, ?_⟩, ?_, ?_⟩, fun c hcm => ?_⟩
    · exact (sb.2 _ D.TIz).trans (gk _ _ D.TIz D.TITO D.TIi1 D.TIi2 hI)
    · exact (sb.2 _ D.TOz).trans gO
    · exact ItK.at' g1.1 (fun o e => (sb.2 _ D.i1z).trans e)
    · exact ItK.at' g2.1 (fun o e => (sb.2 _ D.i2z).trans e)
    · have lt : c < s.heap.objs.size := by
        obtain ⟨o1, q1, _⟩ := h1.obj
        obtain ⟨o2, q2, _⟩ := h2.obj
        exact five (Pr := fun c => c < s.heap.objs.size) hcm hzl (Heap.lt_size hI) (Heap.lt_size hO) (Heap.lt_size q1) (Heap.lt_size q2)
      rw [upd_ne (Nat.ne_of_lt lt)]
      exact (hf c hcm).1
  done := by
    intro X hP hw hK hc i pins s σ H E I hf st hg
    subst hP hw hK
    obtain ⟨hz, hI, ⟨x0, y0, hO⟩, h1, h2⟩ := st
    obtain ⟨xs, ys, qx, qy, hend, le1, le2⟩ := hg
    obtain ⟨us, rx, kx, _⟩ := sqk_is I qx
    obtain ⟨vs, ry, ky, _⟩ := sqk_is I qy
    have l1 := rx.length
    have l2 := ry.length
    have n1 : us.toArray.size = us.length := by simp
    have n2 : vs.toArray.size = vs.length := by simp
    have hh : X.A.in1.handled = none := I.ok.hd hc
    refine wpAny_pyNext_zipD2_end (i := i) (zsep D) (drawsK p hh i1 a D.l1i1 us.toArray) (drawsK q hh i2 b D.l2i2 vs.toArray) hz hI hO ⟨h1, kx⟩ ⟨h2, ky⟩ (by omega) (by omega) (by omega) fun g tk gk => ?_
    exact ⟨rfl, I.turnedL (t' := tk) (ch := [z, TI, TO, i1, i2]) (fun c o nb e => gk c o (fun w => nb (by simp [w])) (fun w => nb (by simp [w])) (fun w => nb (by simp [w])) (fun w => nb (by simp [w])) e) hf⟩
  self := fun A i s Q E st h => wpAny_pyIter_zip st.1 h
def iZipM (K : PySem.W.Frag) (ta : TA) : TI := fun σ H R => ta σ H fun vs H1 => ∃ p q a b xs ys, vs = [.ref a, .ref b] ∧ SqK p K H1 a xs ∧ SqK q K H1 b ys ∧ R (ItzM p q K a b) H1
theorem begK {p : Bool} {h : Heap} {a : Addr} {xs : Array Value} (k : IsK p h a xs) : ∃ o Hp', Begins (.ref a) o Hp' ∧ Hp' h ∧ ∀ h' it, h'.get? it = some o → ItK p h' it a 0 := by
  cases p
  · exact ⟨_, _, begins_tuple a xs, k, fun h' it e => ⟨_, e, rfl, rfl⟩⟩
  · exact ⟨_, _, begins_list a xs, k, fun h' it e => ⟨_, e, rfl, rfl⟩⟩
theorem pi_zipM {X : Cx} {e e2 : Expr} {ta : TA} {p pos tpos : Pos} {elts : List Expr} {kk : Nat} (hg : Gl X "zip") (hm : X.mg "zip" = none) (ha : PA X [e, e2] ta)
    (hs : starEach [e, e2] X.env = (false, eval e X.env) :: starEach [e2] X.env := by rfl) (hpl : (backTo pos (starEach [e2] X.env)).any (·.1) = false := by rfl) :
    PI X (.Tuple elts kk tpos) (.Call (.Name "zip" p) [e, e2] [] pos) (iZipM X.K ta) := by
  constructor
  intro pins s σ H R I h
  refine Call_ (ld_blt I hg hm PyProof.Rows.boot_zip (PyProof.Rows.callWith_type1 (thn (ha.run pos pins s σ H _ I h) fun us s1 ⟨vs, H1, I1, r1, q1⟩ => ?_) hs hpl))
  obtain ⟨k1, k2, a, b, xs, ys, ex, qx, qy, q⟩ := q1
  subst ex
  obtain ⟨u, v, rfl, ru, rv⟩ := Vals.two r1
  cases ru
  cases rv
  obtain ⟨i1, _, p1, lt1⟩ := sqk_is I1 qx
  obtain ⟨i2, _, p2, lt2⟩ := sqk_is I1 qy
  obtain ⟨o1, G1, B1, g1, w1⟩ := begK p1
  obtain ⟨o2, G2, B2, g2, w2⟩ := begK p2
  refine zip_begins2 B1 B2 g1 g2 fun h' hz hI hO e1 e2 hsz hk => wpAny_pyIter_zip hz ?_
  have I2 : Inv X pins σ H1 { s1 with heap := h' } := I1.kept (t' := s1.toks) hk
  refine ⟨s1.heap.objs.size + 4, [s1.heap.objs.size + 4, s1.heap.objs.size + 2, s1.heap.objs.size + 3, s1.heap.objs.size, s1.heap.objs.size + 1], _, _, H1, rfl, I2, turn_zipM (PySem.W.ktu_apart s1.heap.objs.size a b lt1 lt2), ⟨hz, hI, ⟨_, _, hO⟩, w1 _ _ e1, w2 _ _ e2⟩, fun c hcm => ?_, q⟩
  have hle : s1.heap.objs.size ≤ c := five (Pr := fun c => s1.heap.objs.size ≤ c) hcm (Nat.le_add_right _ _) (Nat.le_add_right _ _) (Nat.le_add_right _ _) (Nat.le_refl _) (Nat.le_add_right _ _)
  exact I1.fpOk hle (I1.hok.fresh hle)
end Z
set_option Elab.async false
set_option linter.all false
set_option maxRecDepth 100000
set_option maxHeartbeats 4000000
namespace Z
open PySem PySem.Spec PyProof.Rows L2
/-! ### (v,) * k for 0 ≤ k -/
theorem tmul0 (l : Addr) (v : Value) (n : Nat) (dd : Option Addr) (sl : Array (Option Value)) (u : Tok) :
    Meets (Builtin.«tuple.__mul__» ⟨[.ref l, .int 0 u], []⟩) (fun _ R s => s.heap.get? l = some { cls := .type "tuple", dict := dd, data := .seq #[v] n, slots := sl } ∧
      R (.ok (.ret (Value.ref s.heap.objs.size))) { s with heap := s.heap.push { cls := Value.type "tuple", data := Data.seq #[] }, toks := s.toks }) :=
  .of_wp fun prog w A R s h => by
    obtain ⟨hp, g, d, tk, os⟩ := s
    obtain ⟨hl, h⟩ := h
    have f1 := AutoSeq1.idx_int
    wp_walk using AutoSeq1.wpAny_loadPart' hl
    exact ⟨_, rfl, h⟩
theorem tmul1 (l : Addr) (items : Array Value) (n : Nat) (dd : Option Addr) (sl : Array (Option Value)) (u : Tok) :
    Meets (Builtin.«tuple.__mul__» ⟨[.ref l, .int 1 u], []⟩) (fun _ R s => s.heap.get? l = some { cls := .type "tuple", dict := dd, data := .seq items n, slots := sl } ∧ R (.ok (.ret (Value.ref l))) s) :=
  .of_wp fun prog w A R s h => by
    obtain ⟨hp, g, d, tk, os⟩ := s
    obtain ⟨hl, h⟩ := h
    have f1 := AutoSeq1.idx_int
    wp_walk using AutoSeq1.wpAny_loadPart' hl
    exact ⟨_, rfl, h⟩
theorem same_new {H : Hp} {p : Addr} {o : HO} (h : H p = none) : Same H (upd H p o) := fun b x e => by
  rw [upd_ne (ne_of_none e h)]
  exact e
def rRepU : R2 := fun x y H Q => ∃ l k v, x = .ref l ∧ y = .int k ∧ H l = some (.tup [v]) ∧ 0 ≤ k ∧ k ≤ 1000 ∧ ∀ p H', Same H H' → H' p = some (.tup (List.replicate k.toNat v)) → Q (.ref p) H'
theorem op_repU {X : Cx} : OpR X (binaryOp .Mult) rRepU := by
  intro pins s σ H x y vv uu Q I rx ry h
  obtain ⟨l, k, v, rfl, rfl, hT, h0, h1, q⟩ := id h
  by_cases k2 : 2 ≤ k
  · refine op_repT pins s σ H _ _ vv uu Q I rx ry ⟨l, k, [v], rfl, rfl, .inl (.inl hT), by simp, k2, h1, by simp, fun p np => q p _ (same_new np) ?_⟩
    rw [upd_same]
    congr 2
    generalize k.toNat = m
    induction m with
    | zero => rfl
    | succ m ih => rw [List.replicate_succ, List.flatten_cons, ih, List.replicate_succ]; rfl
  · cases rx
    obtain ⟨t, rfl⟩ := ry
    obtain ⟨its, r, ⟨⟨cls, dd, data, sl⟩, ho, hc, n, hd⟩, hs⟩ := I.tuple (.inl (.inl hT) : SqT X.K H l [v])
    simp only at hc hd
    subst hc hd
    obtain ⟨u, rfl, ru⟩ := Vals.one r
    by_cases k1 : k = 1
    · subst k1
      refine wpAny_binaryOp_repeat_ref (T := "tuple") (U := "int") (by decide) ⟨_, ho, rfl⟩ (fun s' => typeIs_int s' 1 t) noFill_tuple_mul F.fills_int_mul F.slot_int_rmul repeat_tuple F.slot_int_index.lookup
        (call_meets F.slot_int_rmul (typeIs_int s 1 t) F.entry_int_rmul (F.args_int_rmul_2 _ _) (int_rmul_tuple 1 t l [u].toArray n dd sl)
          ⟨ho, rfl, ⟨_, ho, rfl⟩, call_meets F.slot_tuple_mul ⟨_, ho, rfl⟩ F.entry_tuple_mul (F.args_tuple_mul_2 _ _) (tmul1 l [u].toArray n dd sl t) ⟨ho, ?_⟩⟩)
      exact ⟨.ref l, H, I, rfl, q l H (Same.refl H) hT⟩
    · have k0 : k = 0 := by omega
      subst k0
      refine wpAny_binaryOp_repeat_ref (T := "tuple") (U := "int") (by decide) ⟨_, ho, rfl⟩ (fun s' => typeIs_int s' 0 t) noFill_tuple_mul F.fills_int_mul F.slot_int_rmul repeat_tuple F.slot_int_index.lookup
        (call_meets F.slot_int_rmul (typeIs_int s 0 t) F.entry_int_rmul (F.args_int_rmul_2 _ _) (int_rmul_tuple 0 t l [u].toArray n dd sl)
          ⟨ho, rfl, ⟨_, ho, rfl⟩, call_meets F.slot_tuple_mul ⟨_, ho, rfl⟩ F.entry_tuple_mul (F.args_tuple_mul_2 _ _) (tmul0 l u n dd sl t) ⟨ho, ?_⟩⟩)
      refine ⟨.ref s.heap.objs.size, _, I.laid (t' := s.toks) (o := .tup []) (fun b ob z => Heap.get?_push_of_some _ z) (Nat.le_refl _) ?_, rfl, q _ _ (same_new (I.hok.fresh (Nat.le_refl _))) upd_same⟩
      exact ⟨Nat.zero_le _, [], .nil, IsTup.new _ _⟩
/-! ### loops and comprehensions over any iterator -/
def forW (J : It) (g : TG) (tb : TS) (D : Ends) (σ : L2.St) (H : Hp) : Prop := ∃ W : Nat → Nat → L2.St → Hp → Prop, (∃ m, W 0 m σ H) ∧ ∀ i m σ H, W i m σ H →
  (J.stop i H ∧ D.nx σ H) ∨ (J.go i H ∧ ∃ N : L2.St → Hp → Prop, (∀ σ' H', N σ' H' → ∃ m', m' < m ∧ W (i + 1) m' σ' H') ∧ ∀ x H', J.yld i H x H' → g x σ H' fun σ2 H2 => tb { D with nx := N, ct := N, bk := D.nx } σ2 H2)
theorem for_gen {J : It} {n : Nat} {g : TG} {tb : TS} {D : Ends} {σ : L2.St} {H : Hp} (Pv : Nat → L2.St → Hp → Prop) (h0 : Pv 0 σ H) (hgo : ∀ i σ H, i < n → Pv i σ H → J.go i H) (hst : ∀ σ H, Pv n σ H → J.stop n H)
    (hs : ∀ i σ H x H', i < n → Pv i σ H → J.yld i H x H' → g x σ H' fun σ2 H2 => tb { D with nx := Pv (i + 1), ct := Pv (i + 1), bk := D.nx } σ2 H2) (hd : ∀ σ H, Pv n σ H → D.nx σ H) : forW J g tb D σ H := by
  refine ⟨fun i m σ H => m = n - i ∧ i ≤ n ∧ Pv i σ H, ⟨n, by omega, Nat.zero_le _, h0⟩, fun i m σ H w => ?_⟩
  obtain ⟨rfl, hi, p⟩ := w
  by_cases hlt : i < n
  · exact .inr ⟨hgo i σ H hlt p, Pv (i + 1), fun σ' H' z => ⟨n - (i + 1), by omega, rfl, hlt, z⟩, fun x H' y => hs i σ H x H' hlt p y⟩
  · have e : i = n := by omega
    subst e
    exact .inl ⟨hst σ H p, hd σ H p⟩
def lcW (J : It) (g : TG) (tt : TT) (te : TE) (vs : List Nat) (σ : L2.St) (D : Addr) (Qd : Hp → Prop) (H1 : Hp) : Prop := ∃ W : Nat → Nat → Hp → Prop, (∃ m, W 0 m (upd H1 D (.lst []))) ∧ ∀ i m H, W i m H →
  (J.stop i H ∧ Qd H) ∨ (J.go i H ∧ ∃ Nx : Hp → Prop, (∀ H', Nx H' → ∃ m', m' < m ∧ W (i + 1) m' H') ∧ ∀ x H', J.yld i H x H' → g x (wipe σ vs) H' fun σ2 H2 => wipe σ2 vs = wipe σ vs ∧ tt σ2 H2 fun b H3 =>
    if b = true then te σ2 H3 fun y H4 => ∃ acc, H4 D = some (.lst acc) ∧ acc.length < sizeLine ∧ Nx (upd H4 D (.lst (acc ++ [y]))) else Nx H3)
theorem lc_gen {J : It} {n : Nat} {g : TG} {tt : TT} {te : TE} {vs : List Nat} {σ : L2.St} {H1 : Hp} {D : Addr} {Qd : Hp → Prop} (Pv : Nat → Hp → Prop) (h0 : Pv 0 (upd H1 D (.lst []))) (hgo : ∀ i H, i < n → Pv i H → J.go i H) (hst : ∀ H, Pv n H → J.stop n H)
    (hs : ∀ i H x H', i < n → Pv i H → J.yld i H x H' → g x (wipe σ vs) H' fun σ2 H2 => wipe σ2 vs = wipe σ vs ∧ tt σ2 H2 fun b H3 =>
      if b = true then te σ2 H3 fun y H4 => ∃ acc, H4 D = some (.lst acc) ∧ acc.length < sizeLine ∧ Pv (i + 1) (upd H4 D (.lst (acc ++ [y]))) else Pv (i + 1) H3) (hd : ∀ H, Pv n H → Qd H) : lcW J g tt te vs σ D Qd H1 := by
  refine ⟨fun i m H => m = n - i ∧ i ≤ n ∧ Pv i H, ⟨n, by omega, Nat.zero_le _, h0⟩, fun i m H w => ?_⟩
  obtain ⟨rfl, hi, p⟩ := w
  by_cases hlt : i < n
  · exact .inr ⟨hgo i H hlt p, Pv (i + 1), fun H' z => ⟨n - (i + 1), by omega, rfl, hlt, z⟩, fun x H' y => hs i H x H' hlt p y⟩
  · have e : i = n := by omega
    subst e
    exact .inl ⟨hst H p, hd H p⟩
/-! ### a def of the module that may be called by its name -/
structure Cal (P : Program) (w : World) (K : PySem.W.Frag) (mg : Str → Option Value) (base : Heap) (k : Nat) (x : Str) (sp : Sp) : Prop where
  ex : ∃ (f : Addr) (fd : FuncData) (ps : List Str), FnOk P w K mg base CX0 k f fd ps sp ∧ mg x = some (.ref f) ∧ PySem.W.keepIn K (.ref f) = true ∧ Binds K fd ps []
section
variable {X : Cx} {k j : Nat} {x : Str} {sp : Sp} {p pos : Pos} {e : Expr} {es : List Expr} {t : TA}
theorem pe_cl (c : Cal X.prog X.w X.K X.mg X.base k x sp) (hr : Room j X.A) (hk : k ≤ j) (hg : Gl X x) (ha : PA X (e :: es) t)
    (hdb : (x == ("__debug__" : Str)) = false := by decide) (he : starEach (e :: es) X.env = (false, eval e X.env) :: starEach es X.env := by rfl) (hpl : (backTo pos (starEach es X.env)).any (·.1) = false := by rfl) : PE X (.Call (.Name x p) (e :: es) [] pos) (tCall sp [] E0 t) := by
  obtain ⟨f, fd, ps, F, hm, kp, b⟩ := c.ex
  exact pe_call F (hr.mono hk) hg hm kp b .nil pass0 ha hdb he hpl
end
structure CalK (P : Program) (w : World) (K : PySem.W.Frag) (mg : Str → Option Value) (base : Heap) (k : Nat) (x : Str) (n : Nat) (ks : List Str) (gV : List V → List V → List V) (sp : Sp) : Prop where
  ex : ∃ (f : Addr) (fd : FuncData) (ps : List Str) (g : List Value → List Value → List Value), FnOk P w K mg base CX0 k f fd ps sp ∧ mg x = some (.ref f) ∧ PySem.W.keepIn K (.ref f) = true ∧ KBn K fd ps n ks g gV
section
variable {X : Cx} {k j n : Nat} {x : Str} {sp : Sp} {ks : List Str} {gV : List V → List V → List V} {p pos : Pos} {e : Expr} {es : List Expr} {kws : List Keyword} {t tk : TA}
theorem pe_clK (c : CalK X.prog X.w X.K X.mg X.base k x n ks gV sp) (hr : Room j X.A) (hk : k ≤ j) (hg : Gl X x) (ha : PA X (e :: es) t) (hkw : PK X kws tk)
    (hall : (backToKw pos (keywordEach kws X.env)).all (·.1.isSome) = true := by rfl) (hks : (backToKw pos (keywordEach kws X.env)).filterMap (·.1) = ks := by rfl) (hdb : (x == ("__debug__" : Str)) = false := by decide)
    (he : starEach (e :: es) X.env = (false, eval e X.env) :: starEach es X.env := by rfl) (hpl : ((backTo pos (starEach (e :: es) X.env)).any (·.1) || (backToKw pos (keywordEach kws X.env)).any (·.1.isNone)) = false := by rfl) :
    PE X (.Call (.Name x p) (e :: es) kws pos) (tCallN n ks.length sp gV E0 t tk) := by
  obtain ⟨f, fd, ps, g, F, hm, kp, b⟩ := c.ex
  exact pe_callN F (hr.mono hk) hg hm kp b pass0 ha hkw hall hks hdb he hpl
end
/-! ### heaps -/
/-- all but p stands -/
def SB (p : Addr) (H H' : Hp) : Prop := ∀ b o, b ≠ p → H b = some o → H' b = some o
theorem Same.sb {p : Addr} {H H' : Hp} (s : Same H H') : SB p H H' := fun b o _ h => s b o h
theorem SB.trans {p : Addr} {H H1 H2 : Hp} (a : SB p H H1) (b : SB p H1 H2) : SB p H H2 := fun c o n h => b c o n (a c o n h)
theorem SB.upd {p : Addr} {H H' : Hp} {o : HO} (s : SB p H H') : SB p H (upd H' p o) := fun b u n h => by
  rw [upd_ne n]
  exact s b u n h
theorem SB.same {p : Addr} {H H' : Hp} (s : SB p H H') (n : H p = none) : Same H H' := fun b o h => s b o (ne_of_none h n) h
theorem Same.mut {p : Addr} {H H' : Hp} {o : HO} (s : Same H H') (n : H p = none) : Same H (L2.upd H' p o) := fun b u h => by
  rw [upd_ne (ne_of_none h n)]
  exact s b u h
theorem SB.sq {K : PySem.W.Frag} {p a : Addr} {H H' : Hp} {xs : List V} (s : SB p H H') (n : a ≠ p) (h : SqL K H a xs) : SqL K H' a xs := by
  rcases h with (h | ⟨o, h⟩) | h
  · exact .inl (.inl (s _ _ n h))
  · exact .inl (.inr ⟨o, s _ _ n h⟩)
  · exact .inr h
theorem Same.sqT {K : PySem.W.Frag} {a : Addr} {H H' : Hp} {xs : List V} (s : Same H H') (h : SqT K H a xs) : SqT K H' a xs := by
  rcases h with (h | ⟨o, h⟩) | h
  · exact .inl (.inl (s _ _ h))
  · exact .inl (.inr ⟨o, s _ _ h⟩)
  · exact .inr h
theorem Same.sqK {b : Bool} {K : PySem.W.Frag} {a : Addr} {H H' : Hp} {xs : List V} (s : Same H H') (h : SqK b K H a xs) : SqK b K H' a xs := by
  cases b
  · exact Z.Same.sqT s h
  · exact s.seq h
theorem at_map {α : Type} {f : α → V} {xs : List α} {i : Nat} {x : α} (h : xs[i]? = some x) : atI (xs.map f) (i : Int) = some (f x) := atI_nat (by rw [List.getElem?_map, h]; rfl)
theorem of_map {α : Type} {f : α → V} {xs : List α} {i : Nat} {v : V} (h : (xs.map f)[i]? = some v) : ∃ x, xs[i]? = some x ∧ v = f x := by
  rw [List.getElem?_map] at h
  cases e : xs[i]? with
  | none => rw [e] at h; cases h
  | some x => rw [e] at h; exact ⟨x, rfl, (Option.some.inj h).symm⟩
end Z
set_option Elab.async false
set_option linter.all false
set_option maxRecDepth 100000
set_option maxHeartbeats 4000000
namespace Z
open PySem PySem.Spec PyProof.Rows L2
open C8 (pss_cut tCut)
local macro_rules | `(tactic| walk_at "num") => `(tactic| first | omega | decide | exact ⟨by omega, by omega⟩ | exact ⟨by omega, by omega, by omega⟩ | exact ⟨by decide, by decide, by decide⟩ | exact Or.inl ⟨by omega, by omega⟩ | exact Or.inr ⟨by omega, by omega⟩)
local macro_rules | `(tactic| walk_at "go") => `(tactic| repeat (first | refine ⟨_, rfl, ?_⟩ | refine ⟨_, _, rfl, rfl, ?_⟩ | refine ⟨_, _, rfl, rfl, (by walk_at "num"), ?_⟩ | refine Or.inl ⟨_, rfl, ?_⟩ | refine ⟨rfl, ?_⟩ | refine And.intro (by walk_at "num") ?_))
def topS (i : Nat) : Stmt := PySem.Challenge.pw_signedpacts_k18_need_rounds.main.body.getD i (.Pass ⟨0, 0, 0, 0⟩)
abbrev s_cell : Stmt := topS 20
abbrev N_cell : List Str := ["_law_script", "_law_k"]
abbrev P_cell : List Str := ["_law_script", "_law_k"]
theorem sc_cell : FnScope N_cell P_cell (defScope s_cell) := ⟨rfl, rfl, rfl, by decide +kernel, rfl, by decide +kernel, by decide +kernel⟩
abbrev s_draws : Stmt := topS 21
abbrev N_draws : List Str := ["_law_cell_here", "_law_many", "_law_rest", "_law_large", "_law_seed", "_law_found", "_law_k"]
abbrev P_draws : List Str := ["_law_cell_here", "_law_many"]
theorem sc_draws : FnScope N_draws P_draws (defScope s_draws) := ⟨rfl, rfl, rfl, by decide +kernel, rfl, by decide +kernel, by decide +kernel⟩
abbrev s_take : Stmt := topS 22
abbrev N_take : List Str := ["_law_draws_here", "_law_place"]
abbrev P_take : List Str := ["_law_draws_here", "_law_place"]
theorem sc_take : FnScope N_take P_take (defScope s_take) := ⟨rfl, rfl, rfl, by decide +kernel, rfl, by decide +kernel, by decide +kernel⟩
abbrev FnP (K : PySem.W.Frag) (x : Str) (st : Stmt) (f : Addr) (fd : FuncData) : Prop := FunD K x x (defArgs st) (defBody st) (defScope st) [] [] f fd
section
variable {P : Program} {w : World} {K : PySem.W.Frag} {mg : Str → Option Value} {base : Heap} {f : Addr} {fd : FuncData}
theorem cal_of {k : Nat} {x : Str} {st : Stmt} {ps : List Str} {sp : Sp} (F : FnP K x st f fd) (g : mg x = some (.ref f)) (b : Binds K fd ps []) (h : FnOk P w K mg base CX0 k f fd ps sp) : Cal P w K mg base k x sp := ⟨f, fd, ps, h, g, F.kp, b⟩
/-! ### _law_cell -/
def spCell (K : PySem.W.Frag) : Sp := fun vs H Q _ => ∃ (a : Addr) (ns : List Int) (k : Nat), vs = [.ref a, .int (k : Int)] ∧ SqL K H a (ns.map V.int) ∧ Q (.int (ns.getD k 0)) H
theorem ok_cell (F : FnP K "_law_cell" s_cell f fd) (m_len : mg "len" = none) (m_int : mg "int" = none) : FnOk P w K mg base CX0 1 f fd P_cell (spCell K) := by
  refine F.ok sc_cell (fun vs H Q E h => ?_) (fun cdv A outer s H vs Q E hr h => ?_)
  · obtain ⟨a, ns, k, rfl, _⟩ := h
    rfl
  · obtain ⟨a, ns, k, rfl, hS, q⟩ := h
    refine ⟨_, PSs.nox (pss_cons (ps_if (pt_cmpR op_lt (pv 1) (pe_callB call_len_seq (by rfl) m_len PySem.boot_len (pa_cons (pv 0) pa_nil)) (nomark _)) (pss_one (ps_ret (pe_callTy call_int1 (by rfl) m_int (by decide +kernel) (pa_cons (pe_ix ix_list (pv 0) (pv 1) (fun _ _ => rfl)) pa_nil)))) pss_nil)
      (pss_one (ps_ret pe_int))), ?_⟩
    walk_at "go"
    refine ⟨a, _, rfl, .inl hS, ?_⟩
    walk_at "go"
    rw [List.length_map]
    refine ite2 (fun e => ?_) (fun e => ?_)
    · have hk : k < ns.length := by have := of_decide_eq_true e; omega
      walk_at "go"
      refine ⟨a, _, _, _, rfl, rfl, hS, at_map (List.getElem?_eq_getElem hk), ?_⟩
      walk_at "go"
      rw [List.getD_eq_getElem?_getD, List.getElem?_eq_getElem hk] at q
      exact q
    · have hk : ¬ k < ns.length := fun z => e (decide_eq_true (by omega))
      rw [List.getD_eq_getElem?_getD, List.getElem?_eq_none (by omega)] at q
      exact q
/-! ### _law_draws -/
def Dr (n : Nat) (ds : List Int) : Prop := ds.length = n ∧ ∀ d ∈ ds, 0 ≤ d ∧ d < 1000000
def spDraws : Sp := fun vs H Q _ => ∃ (c : Int) (n : Nat), vs = [.int c, .int (n : Int)] ∧ n ≤ 100000 ∧ ∀ p ds, H p = none → Dr n ds → Q (.ref p) (upd H p (.lst (ds.map V.int)))
theorem ok_draws (F : FnP K "_law_draws" s_draws f fd) (m_int : mg "int" = none) (m_abs : mg "abs" = none) (m_range : mg "range" = none) : FnOk P w K mg base CX0 1 f fd P_draws spDraws := by
  refine F.ok sc_draws (fun vs H Q E h => ?_) (fun cdv A outer s H vs Q E hr h => ?_)
  · obtain ⟨c, n, rfl, _⟩ := h
    rfl
  · obtain ⟨c, n, rfl, hn, q⟩ := h
    refine ⟨_, PSs.nox (pss_cons (ps_set (i := 2) sc_draws.nd rfl (by first | exact .inl rfl | exact .inr rfl) (pe_callB call_abs (by rfl) m_abs (by decide +kernel) (pa_cons (pe_callTy call_int1 (by rfl) m_int (by decide +kernel) (pa_cons (pv 0) pa_nil)) pa_nil)))
      (pss_cons (ps_set (i := 3) sc_draws.nd rfl (by first | exact .inl rfl | exact .inr rfl) (pe_cmpR op_ge (pv 2) (pe_op op_pow pe_int pe_int) (nomark _)))
      (pss_cons (ps_set (i := 4) sc_draws.nd rfl (by first | exact .inl rfl | exact .inr rfl) (pe_op op_mod (pe_callTy call_int1 (by rfl) m_int (by decide +kernel) (pa_cons (pv 2) pa_nil)) pe_int))
      (pss_cons (ps_set (i := 5) sc_draws.nd rfl (by first | exact .inl rfl | exact .inr rfl) (pe_lst pa_nil))
      (pss_cons (ps_for PassesOwn.never rfl (pi_range1 (by rfl) m_range (pa_cons (pv 1) pa_nil)) (pg_name (i := 6) sc_draws.nd rfl (by first | exact .inl rfl | exact .inr rfl))
        (pss_cons (ps_set (i := 4) sc_draws.nd rfl (by first | exact .inl rfl | exact .inr rfl) (pe_op op_mod (pe_callTy call_int1 (by rfl) m_int (by decide +kernel) (pa_cons (pe_op op_add (pe_op op_add (pe_op op_mul (pv 4) pe_int) (pe_op op_mul pe_int (pv 6))) pe_int) pa_nil)) pe_int))
      (pss_one (ps_if (PW.pt (pw_and (pt_val (pv 3)) (pw_and1 (pt_cmpR op_gt (pv 2) pe_int (nomark _))))) (pss_cons (ps_expr (pe_bm PySem.F.plainAttrs_list PySem.F.slot_list_append PySem.F.type_list_append mt_append (pv 5) (pa_cons (pe_op op_mod (pe_callTy call_int1 (by rfl) m_int (by decide +kernel) (pa_cons (pv 2) pa_nil)) pe_int) pa_nil)))
      (pss_one (ps_set (i := 2) sc_draws.nd rfl (by first | exact .inl rfl | exact .inr rfl) (pe_op op_fdiv (pv 2) pe_int)))) (pss_one (ps_expr (pe_bm PySem.F.plainAttrs_list PySem.F.slot_list_append PySem.F.type_list_append mt_append (pv 5) (pa_cons (pe_op op_mod (pe_callTy call_int1 (by rfl) m_int (by decide +kernel) (pa_cons (pe_op op_fdiv (pe_op op_mod (pe_callTy call_int1 (by rfl) m_int (by decide +kernel) (pa_cons (pe_op op_add (pe_op op_mul (pv 4) pe_int) (pe_op op_mul pe_int (pv 6))) pa_nil)) pe_int) pe_int) pa_nil)) pe_int) pa_nil))))))))
      (pss_one (ps_ret (pv 5)))))))), ?_⟩
    walk_at "go"
    intro p np
    walk_at "go"
    refine for_gen (n := n) (fun i σ H1 => ∃ (r : Int) (z : Int) (ds : List Int) (v : Option V), 0 ≤ r ∧ 0 ≤ z ∧ z < 2147483647 ∧ Dr i ds ∧ H1 = upd H p (.lst (ds.map V.int)) ∧
      σ = [some (.int c), some (.int (n : Int)), some (.int r), some (.bl (decide ((10 : Int) ^ 18 ≤ (if c < 0 then -c else c)))), some (.int z), some (.ref p), v]) ?_ ?_ ?_ ?_ ?_
    · refine ⟨_, _, [], none, ?_, ?_, ?_, ⟨rfl, fun d hd => nomatch hd⟩, rfl, rfl⟩
      · split <;> omega
      · omega
      · omega
    · intro i σ H1 hi _
      show i < (n : Int).toNat
      omega
    · intro σ H1 _
      show (n : Int).toNat ≤ n
      omega
    · rintro i σ H1 x H' hi ⟨r, z, ds, v, hr0, hz0, hz1, hd, rfl, rfl⟩ ⟨rfl, rfl⟩
      have hlen : (ds.map V.int).length < sizeLine := by
        rw [List.length_map, hd.1]
        exact Nat.lt_of_lt_of_le hi (Nat.le_trans hn (by decide))
      have fin : ∀ (r' z' d : Int) (u : Option V), 0 ≤ r' → 0 ≤ z' → z' < 2147483647 → 0 ≤ d → d < 1000000 → ∃ (r : Int) (z : Int) (es : List Int) (v : Option V), 0 ≤ r ∧ 0 ≤ z ∧ z < 2147483647 ∧ Dr (i + 1) es ∧ upd (upd H p (.lst (ds.map V.int))) p (.lst (ds.map V.int ++ [.int d])) = upd H p (.lst (es.map V.int)) ∧
          [some (.int c), some (.int (n : Int)), some (.int r'), some (.bl (decide ((10 : Int) ^ 18 ≤ (if c < 0 then -c else c)))), some (.int z'), some (.ref p), u] = [some (.int c), some (.int (n : Int)), some (.int r), some (.bl (decide ((10 : Int) ^ 18 ≤ (if c < 0 then -c else c)))), some (.int z), some (.ref p), v] := by
        intro r' z' d u a1 a2 a3 a4 a5
        refine ⟨r', z', ds ++ [d], u, a1, a2, a3, ⟨by rw [List.length_append, hd.1]; rfl, fun x hx => ?_⟩, ?_, rfl⟩
        · rcases List.mem_append.mp hx with h | h
          · exact hd.2 x h
          · rw [List.mem_singleton.mp h]
            exact ⟨a4, a5⟩
        · rw [upd_upd, List.map_append]
          rfl
      walk_at "go"
      refine ite2 (fun e => ?_) (fun e => ?_)
      · walk_at "go"
        refine ite2 (fun e2 => ?_) (fun e2 => ?_)
        · walk_at "go"
          refine ⟨.inl ⟨rfl, _, .inl (.inl upd_same)⟩, ?_⟩
          walk_at "go"
          refine ⟨_, _, _, rfl, rfl, upd_same, hlen, ?_⟩
          walk_at "go"
          exact fin _ _ _ _ (by omega) (by omega) (by omega) (by omega) (by omega)
        · walk_at "go"
          refine ⟨.inl ⟨rfl, _, .inl (.inl upd_same)⟩, ?_⟩
          walk_at "go"
          refine ⟨_, _, _, rfl, rfl, upd_same, hlen, ?_⟩
          walk_at "go"
          exact fin _ _ _ _ (by omega) (by omega) (by omega) (by omega) (by omega)
      · walk_at "go"
        refine ⟨.inl ⟨rfl, _, .inl (.inl upd_same)⟩, ?_⟩
        walk_at "go"
        refine ⟨_, _, _, rfl, rfl, upd_same, hlen, ?_⟩
        walk_at "go"
        exact fin _ _ _ _ (by omega) (by omega) (by omega) (by omega) (by omega)
    · rintro σ H1 ⟨r, z, ds, v, hr0, hz0, hz1, hd, rfl, rfl⟩
      walk_at "go"
      exact q p ds np hd
/-! ### _law_take -/
def spTake (K : PySem.W.Frag) : Sp := fun vs H Q _ => ∃ (a p : Addr) (n m : Nat) (ds : List Int), vs = [.ref a, .ref p] ∧ SqL K H a (ds.map V.int) ∧ Dr n ds ∧ H p = some (.lst [.int (m : Int)]) ∧ a ≠ p ∧ ∀ r : Int, 0 ≤ r → r < 1000000 → Q (.int r) (upd H p (.lst [.int ((m + 1 : Nat) : Int)]))
theorem ok_take (F : FnP K "_law_take" s_take f fd) (m_len : mg "len" = none) : FnOk P w K mg base CX0 1 f fd P_take (spTake K) := by
  refine F.ok sc_take (fun vs H Q E h => ?_) (fun cdv A outer s H vs Q E hr h => ?_)
  · obtain ⟨a, p, n, m, ds, rfl, _⟩ := h
    rfl
  · obtain ⟨a, p, n, m, ds, rfl, hS, hd, hp, ne, q⟩ := h
    refine ⟨_, PSs.nox (pss_cons (ps_asg (pe_op op_add (pe_ix ix_list (pv 1) pe_int (fun _ _ => rfl)) pe_int) (pg_sub (pv 1) pe_int set_list))
      (pss_cons (ps_if (pt_cmpR op_gt (pe_ix ix_list (pv 1) pe_int (fun _ _ => rfl)) (pe_callB call_len_seq (by rfl) m_len PySem.boot_len (pa_cons (pv 0) pa_nil)) (nomark _)) (pss_one (ps_ret pe_int)) pss_nil)
      (pss_one (ps_ret (pe_ix ix_list (pv 0) (pe_op op_sub (pe_ix ix_list (pv 1) pe_int (fun _ _ => rfl)) pe_int) (fun _ _ => rfl)))))), ?_⟩
    have sb : SB p H (upd H p (.lst [.int ((m + 1 : Nat) : Int)])) := SB.upd (Z.Same.sb (Same.refl H))
    have hS' := sb.sq ne hS
    walk_at "go"
    refine ⟨p, _, 0, _, rfl, rfl, SqL.of hp, rfl, ?_⟩
    walk_at "go"
    refine ⟨p, _, 0, 0, rfl, rfl, hp, rfl, ?_⟩
    show tSeq _ _ _ _ (upd H p (.lst [.int ((m : Int) + 1)]))
    rw [show ((m : Int) + 1) = ((m + 1 : Nat) : Int) by omega]
    walk_at "go"
    refine ⟨p, _, 0, _, rfl, rfl, SqL.of upd_same, rfl, ?_⟩
    walk_at "go"
    refine ⟨a, _, rfl, .inl hS', ?_⟩
    walk_at "go"
    rw [List.length_map]
    refine ite2 (fun e => ?_) (fun e => ?_)
    · exact q 0 (by omega) (by omega)
    · have hk : m < ds.length := by
        apply Decidable.byContradiction
        intro z
        exact e (decide_eq_true (by omega))
      walk_at "go"
      refine ⟨p, _, 0, _, rfl, rfl, SqL.of upd_same, rfl, ?_⟩
      walk_at "go"
      refine ⟨a, _, _, _, rfl, rfl, hS', at_of (by omega) (show (ds.map V.int)[m]? = some (.int ds[m]) by rw [List.getElem?_map, List.getElem?_eq_getElem hk]; rfl), ?_⟩
      have h1 := hd.2 ds[m] (List.getElem_mem hk)
      exact q _ h1.1 h1.2
end
end Z
set_option Elab.async false
set_option linter.all false
set_option maxRecDepth 100000
set_option maxHeartbeats 4000000
namespace Z
open PySem PySem.Spec PyProof.Rows L2
/-! ### data -/
def sqD (b : Bool) (ds : List PyData) : PyData := match b with
  | true => .list ds
  | false => .tuple ds
def intsD (b : Bool) (ns : List Int) : PyData := sqD b (ns.map PyData.int)
def matD (b : Bool) (rs : List (List Int)) : PyData := sqD b (rs.map (intsD b))
theorem dp_sq {b : Bool} {K : PySem.W.Frag} {H : Hp} {a : Addr} {xs : List V} {ds : List PyData} (h : SqK b K H a xs) (d : DpAll K H xs ds) : Dp K H (.ref a) (sqD b ds) := by
  cases b
  · exact .tup h d
  · exact .lst h d
theorem dpa_ints {K : PySem.W.Frag} {H : Hp} : ∀ ns : List Int, DpAll K H (ns.map V.int) (ns.map PyData.int)
  | [] => .nil
  | n :: r => .cons (.int n) (dpa_ints r)
theorem dp_ints {b : Bool} {K : PySem.W.Frag} {H : Hp} {a : Addr} {ns : List Int} (h : SqK b K H a (ns.map V.int)) : Dp K H (.ref a) (intsD b ns) := dp_sq h (dpa_ints ns)
/-- a matrix: a list (or tuple) of lists (or tuples) of ints, at ps -/
def Mat (b : Bool) (K : PySem.W.Frag) (H : Hp) (a : Addr) (ps : List Addr) (rs : List (List Int)) : Prop := SqK b K H a (ps.map V.ref) ∧ ps.length = rs.length ∧ ∀ (i : Nat) (p : Addr) (r : List Int), ps[i]? = some p → rs[i]? = some r → SqK b K H p (r.map V.int)
theorem Mat.mono {b : Bool} {K : PySem.W.Frag} {H H' : Hp} {a : Addr} {ps : List Addr} {rs : List (List Int)} (s : Same H H') (m : Mat b K H a ps rs) : Mat b K H' a ps rs := ⟨Z.Same.sqK s m.1, m.2.1, fun i p r h1 h2 => Z.Same.sqK s (m.2.2 i p r h1 h2)⟩
theorem dpa_mat {b : Bool} {K : PySem.W.Frag} {H : Hp} : ∀ (ps : List Addr) (rs : List (List Int)), ps.length = rs.length → (∀ (i : Nat) (p : Addr) (r : List Int), ps[i]? = some p → rs[i]? = some r → SqK b K H p (r.map V.int)) → DpAll K H (ps.map V.ref) (rs.map (intsD b))
  | [], [], _, _ => .nil
  | p :: ps, r :: rs, hl, h => .cons (dp_ints (h 0 p r rfl rfl)) (dpa_mat ps rs (by simpa using hl) fun i q s h1 h2 => h (i + 1) q s h1 h2)
theorem Mat.dp {b : Bool} {K : PySem.W.Frag} {H : Hp} {a : Addr} {ps : List Addr} {rs : List (List Int)} (m : Mat b K H a ps rs) : Dp K H (.ref a) (matD b rs) := dp_sq m.1 (dpa_mat ps rs m.2.1 m.2.2)
theorem lay_ints : ∀ ns : List Int, PyData.canLayAll0 (ns.map PyData.int) = true
  | [] => rfl
  | n :: r => by
    rw [List.map_cons, PyData.canLayAll0, lay_ints r]
    rfl
theorem dep_ints : ∀ ns : List Int, PyData.depthAll (ns.map PyData.int) = 0
  | [] => rfl
  | n :: r => by
    rw [List.map_cons, PyData.depthAll, dep_ints r]
    rfl
theorem shaped_ints (b : Bool) (ns : List Int) : SeqAt.shaped (intsD b ns) = true := by
  unfold SeqAt.shaped intsD
  cases b
  · show (PyData.canLayAll0 (ns.map PyData.int) && decide (PyData.depthAll (ns.map PyData.int) + 1 ≤ 64)) = true
    rw [lay_ints, dep_ints]
    rfl
  · show (PyData.canLayAll0 (ns.map PyData.int) && decide (PyData.depthAll (ns.map PyData.int) + 1 ≤ 64)) = true
    rw [lay_ints, dep_ints]
    rfl
theorem lay_mat (b : Bool) : ∀ rs : List (List Int), PyData.canLayAll0 (rs.map (intsD b)) = true
  | [] => rfl
  | n :: r => by
    rw [List.map_cons, PyData.canLayAll0, lay_mat b r, SeqAt.canLay_of_shaped (shaped_ints b n)]
    rfl
theorem dep_mat (b : Bool) : ∀ rs : List (List Int), PyData.depthAll (rs.map (intsD b)) ≤ 1
  | [] => Nat.zero_le _
  | n :: r => by
    rw [List.map_cons, PyData.depthAll]
    have h := dep_mat b r
    have h2 : (intsD b n).depth = 1 := by
      cases b
      · show PyData.depthAll (n.map PyData.int) + 1 = 1
        rw [dep_ints]
      · show PyData.depthAll (n.map PyData.int) + 1 = 1
        rw [dep_ints]
    omega
theorem shaped_mat (b : Bool) (rs : List (List Int)) : SeqAt.shaped (matD b rs) = true := by
  have h := dep_mat b rs
  unfold SeqAt.shaped matD
  cases b
  · show (PyData.canLayAll0 (rs.map (intsD false)) && decide (PyData.depthAll (rs.map (intsD false)) + 1 ≤ 64)) = true
    rw [lay_mat, decide_eq_true (by omega)]
    rfl
  · show (PyData.canLayAll0 (rs.map (intsD true)) && decide (PyData.depthAll (rs.map (intsD true)) + 1 ≤ 64)) = true
    rw [lay_mat, decide_eq_true (by omega)]
    rfl
theorem same2 {K : PySem.W.Frag} {H : Hp} {x y : V} {d : PyData} {R : PyData → PyData → Prop} (hx : Dp K H x d) (hy : Dp K H y d) (hs : SeqAt.shaped d = true) (q : R d d) : ∃ d' e', Dp K H x d' ∧ Dp K H y e' ∧ SeqAt.shaped d' = true ∧ SeqAt.shaped e' = true ∧ R d' e' := ⟨d, d, hx, hy, hs, hs, q⟩
theorem eqv_same {d : PyData} (hs : SeqAt.shaped d = true) : PyData.eqv d d = true := SeqAt.eqv_refl d (SeqAt.canLay_of_shaped hs)
/-! ### a target that is one of two kinds -/
def gOr (t u : TG) : TG := fun v σ H Q => t v σ H Q ∨ u v σ H Q
theorem pg_or {X : Cx} {e : Expr} {t u : TG} (h1 : PG X e t) (h2 : PG X e u) : PG X e (gOr t u) := by
  refine ⟨fun pins s σ H v uu Q I r hw => ?_⟩
  rcases hw with h | h
  · exact h1.run pins s σ H v uu Q I r h
  · exact h2.run pins s σ H v uu Q I r h
/-! ### isinstance of built-in kinds -/
theorem isi {K : PySem.W.Frag} {H : Hp} {x : V} {T c : String} {b : Bool} {R : Bool → Prop} (t : TyOf K H x (.type T)) (h : kitB T c = some b) (q : R b) : ∃ (x' c' : V) (t' u' : Value) (b' : Bool), [x, .ty c] = [x', c'] ∧ ClsV c' u' ∧ TyX K H x' t' ∧ PySem.W.kitOne K t' u' = some b' ∧ R b' :=
  ⟨x, .ty c, .type T, .type c, b, rfl, .ty c, .base t, kit_ty h, q⟩
/-! ### rules by the written part itself (within a comprehension's block) -/
section
variable {X : Cx} {K : PySem.W.Frag}
theorem ix_list_K (h : X.K = K) : IxR X (rIxL K) := by subst h; exact ix_list
theorem ix_tup_K (h : X.K = K) : IxR X (rIxT K) := by subst h; exact ix_tup
theorem ix_seq_K (h : X.K = K) : IxR X (rIx K) := by subst h; exact ix_seq
theorem call_len_seq_K (h : X.K = K) : CallR X (.builtin "len") (fun xs H Q => ∃ p ys, xs = [.ref p] ∧ (SqL K H p ys ∨ SqT K H p ys) ∧ Q (.int ys.length) H) := by subst h; exact call_len_seq
theorem call_list_of_K (h : X.K = K) : CallR X (.type "list") (fun xs H Q => ∃ p ys, xs = [.ref p] ∧ (SqL K H p ys ∨ SqT K H p ys) ∧ ∀ l, H l = none → Q (.ref l) (upd H l (.lst ys))) := by subst h; exact call_list_of
theorem call_tuple_of_K (h : X.K = K) : CallR X (.type "tuple") (fun xs H Q => ∃ p ys, xs = [.ref p] ∧ ((SqL K H p ys ∧ ∀ l, H l = none → Q (.ref l) (upd H l (.tup ys))) ∨ (SqT K H p ys ∧ Q (.ref p) H))) := by subst h; exact call_tuple_of
theorem op_in_seq_K (h : X.K = K) : OpR X (compareOp .In) (rIn K false) := by subst h; exact op_in_seq
theorem op_notIn_seq_K (h : X.K = K) : OpR X (compareOp .NotIn) (rIn K true) := by subst h; exact op_notIn_seq
theorem op_eqD_K (h : X.K = K) (hu : X.A.units + 64 < cLine) : OpR X (compareOp .Eq) (rEqD K) := by subst h; exact op_eqD hu
theorem op_neD_K (h : X.K = K) (hu : X.A.units + 64 < cLine) : OpR X (compareOp .NotEq) (rNeD K) := by subst h; exact op_neD hu
theorem call_isi_K (h : X.K = K) : CallR X (.builtin "isinstance") (rIsi K) := by subst h; exact call_isi
end
/-! ### great products -/
theorem big_mul {i j : Int} (hi : i.natAbs < 2 ^ 4000) (hj : j.natAbs < 2 ^ 4000) : CMulX i j := mulx_ok hi hj (by decide)
/-! ### sums of multiples of rows -/
def combN (rs : List (List Int)) (fs : List Int) (w : Nat) : Nat → List Int
  | 0 => List.replicate w 0
  | n + 1 => List.zipWith (fun a b => a + fs.getD n 0 * b) (combN rs fs w n) (rs.getD n [])
theorem combN_len {rs : List (List Int)} {fs : List Int} {w : Nat} (h : ∀ r ∈ rs, r.length = w) : ∀ n, n ≤ rs.length → (combN rs fs w n).length = w
  | 0, _ => List.length_replicate
  | n + 1, hn => by
    rw [combN, List.length_zipWith, combN_len h n (by omega), List.getD_eq_getElem?_getD, List.getElem?_eq_getElem (by omega), Option.getD_some, h _ (List.getElem_mem _)]
    omega
theorem combN_at {rs : List (List Int)} {fs : List Int} {w i c : Nat} (hi : i < rs.length) (hf : i < fs.length) (c1 : c < (combN rs fs w i).length) (c2 : c < rs[i].length) : (combN rs fs w (i + 1))[c]? = some ((combN rs fs w i)[c] + fs[i] * rs[i][c]) := by
  have g1 : fs.getD i 0 = fs[i] := by rw [List.getD_eq_getElem?_getD, List.getElem?_eq_getElem hf]; rfl
  have g2 : rs.getD i [] = rs[i] := by rw [List.getD_eq_getElem?_getD, List.getElem?_eq_getElem hi]; rfl
  rw [combN, List.getElem?_zipWith, g1, g2, List.getElem?_eq_getElem c1, List.getElem?_eq_getElem c2]
end Z
set_option Elab.async false
set_option linter.all false
set_option maxRecDepth 100000
set_option maxHeartbeats 4000000
namespace Z
open PySem PySem.Spec PyProof.Rows L2
/-! ### own classes: making, methods, calls of instances, == -/
structure Mak (P : Program) (w : World) (K : PySem.W.Frag) (mg : Str → Option Value) (base : Heap) (k : Nat) (x : Str) (sp : Sp) : Prop where
  ex : ∃ (C f : Addr) (fd : FuncData) (ps : List Str) (si : Sp), Mk K C f ∧ FnOk P w K mg base CX0 k f fd ps si ∧ mg x = some (.ref C) ∧ Binds K fd ps [] ∧
    ∀ vs H Q E, sp vs H Q E → ∀ n dx, H n = none → H dx = none → dx ≠ n → si (.ref n :: vs) (upd (upd H dx (.own n)) n (.ins C dx [])) (fun v H2 => v = .non ∧ Q (.ref n) H2) E
structure Met (P : Program) (w : World) (K : PySem.W.Frag) (mg : Str → Option Value) (base : Heap) (k : Nat) (C : Addr) (m : Str) (sp : Sp) : Prop where
  ex : ∃ (f : Addr) (fd : FuncData) (ps : List Str), Cls K C ∧ Meth K C m f ∧ FnOk P w K mg base CX0 k f fd ps sp ∧ Binds K fd ps []
section
variable {X : Cx} {k j : Nat} {x m : Str} {sp : Sp} {C : Addr} {p pos apos : Pos} {e o : Expr} {es : List Expr} {t : TA} {ta : TE}
theorem pe_mk (c : Mak X.prog X.w X.K X.mg X.base k x sp) (hr : Room j X.A) (hk : k + 1 ≤ j) (hg : Gl X x) (ha : PA X (e :: es) t)
    (hdb : (x == ("__debug__" : Str)) = false := by decide) (he : starEach (e :: es) X.env = (false, eval e X.env) :: starEach es X.env := by rfl) (hpl : (backTo pos (starEach es X.env)).any (·.1) = false := by rfl) : PE X (.Call (.Name x p) (e :: es) [] pos) (tCall sp [] E0 t) := by
  obtain ⟨C, f, fd, ps, si, M, F, hm, b, imp⟩ := c.ex
  constructor
  intro pins s σ H Q I h
  refine wpAny_Call_Name_kw (ld_glob I hg hm ?_ hdb)
  refine PySem.W.callWith_K (h₀ := X.base) I.ok.mod.kin M.kp (thn (ha.run pos pins s σ H _ I h) fun us s1 ⟨vs, H1, I1, r, q⟩ => ⟨I1.kIn, ?_⟩) he hpl
  have q2 : sp vs H1 Q E0 := by
    have z : sp (vs ++ []) H1 Q E0 := q
    rw [List.append_nil] at z
    exact z
  refine run_make (dvs := []) M F (hr.mono hk) b .nil pass0 I1 r (fun n dx n1 n2 n3 => ?_)
  rw [List.append_nil]
  exact imp _ _ _ _ q2 n dx n1 n2 n3
theorem pe_me {pl : Sem Bool} (c : Met X.prog X.w X.K X.mg X.base k C m sp) (he : PE X o ta) (hr : Room j X.A) (hk : k ≤ j) (ha : PA X (e :: es) t)
    (hst : starEach (e :: es) X.env = (false, eval e X.env) :: starEach es X.env := by rfl) (hpl : (backTo pos (starEach es X.env)).any (·.1) = false := by rfl)
    (ht : eval (.Call (.Attribute o m apos) (e :: es) [] pos) X.env = (do
      let ov ← eval o X.env
      standAt apos.atName
      let (f, first) ← holding [ov] (getMethod ov m pl)
      callWith pos f first (backTo pos (starEach (e :: es) X.env)) (backToKw pos (keywordEach [] X.env))) := by rfl) : PE X (.Call (.Attribute o m apos) (e :: es) [] pos) (tMeth C m sp [] E0 ta t) := by
  obtain ⟨f, fd, ps, cl, me, F, b⟩ := c.ex
  exact pe_meth he cl me F (hr.mono hk) b .nil pass0 ha hst hpl ht
theorem pe_me0 {pl : Sem Bool} (c : Met X.prog X.w X.K X.mg X.base k C m sp) (he : PE X o ta) (hr : Room j X.A) (hk : k ≤ j)
    (ht : eval (.Call (.Attribute o m apos) [] [] pos) X.env = (do
      let ov ← eval o X.env
      standAt apos.atName
      let (f, first) ← holding [ov] (getMethod ov m pl)
      callWith pos f first (backTo pos (starEach [] X.env)) (backToKw pos (keywordEach [] X.env))) := by rfl) : PE X (.Call (.Attribute o m apos) [] [] pos) (tMeth C m sp [] E0 ta tNil) := by
  obtain ⟨f, fd, ps, cl, me, F, b⟩ := c.ex
  exact pe_meth0 he cl me F (hr.mono hk) b .nil pass0 ht
end
/-! ### f(e, ..), f an instance of C -/
structure Cob (P : Program) (w : World) (K : PySem.W.Frag) (mg : Str → Option Value) (base : Heap) (k : Nat) (C : Addr) (sp : Sp) : Prop where
  ex : ∃ g : Addr, StX.CallO K C g ∧ FnR P w K mg base CX0 k g sp
def tCo (C : Addr) (sp : Sp) (tf : TE) (t : TA) : TE := fun σ H Q => tf σ H fun y H1 => ∃ a, y = V.ref a ∧ t σ H1 fun vs H2 => (∃ dx fs, H2 a = some (.ins C dx fs)) ∧ sp (V.ref a :: vs) H2 Q E0
section
variable {X : Cx} {k j : Nat} {sp : Sp} {C : Addr} {pos : Pos} {e fe : Expr} {es : List Expr} {t : TA} {tf : TE}
theorem pe_co (c : Cob X.prog X.w X.K X.mg X.base k C sp) (hf : PE X fe tf) (hr : Room j X.A) (hk : k ≤ j) (ha : PA X (e :: es) t)
    (ht : eval (.Call fe (e :: es) [] pos) X.env = (do callWith pos (← eval fe X.env) [] (backTo pos (starEach (e :: es) X.env)) (backToKw pos (keywordEach [] X.env))) := by rfl)
    (he : starEach (e :: es) X.env = (false, eval e X.env) :: starEach es X.env := by rfl) (hpl : (backTo pos (starEach es X.env)).any (·.1) = false := by rfl) : PE X (.Call fe (e :: es) [] pos) (tCo C sp tf t) := by
  obtain ⟨g, co, F⟩ := c.ex
  constructor
  intro pins s σ H Q I h
  refine Call_ (thn (hf.run pins s σ H _ I h) fun u s1 ⟨y, H1, I1, ry, a, ey, q⟩ => ?_) ht
  subst ey
  obtain rfl : u = Value.ref a := ry
  refine StX.callO_with (thn (ha.run pos pins s1 σ H1 _ I1 q) fun us s2 ⟨vs, H2, I2, r, hi, q2⟩ => ?_) he hpl
  have hi2 : StX.InsC X H2 a C := .inr hi
  obtain ⟨ox, od, J, hd⟩ := StX.insC_at I2 hi2
  exact ⟨⟨C, ox, od, J, hd⟩, StX.run_callO co F (hr.mono hk) pass0 I2 hi2 r q2⟩
end
/-! ### a == b by the class's own __eq__ -/
structure Eqo (P : Program) (w : World) (K : PySem.W.Frag) (mg : Str → Option Value) (base : Heap) (k : Nat) (C : Addr) (sp : Sp) : Prop where
  ex : ∃ (f : Addr) (fd : FuncData) (ps : List Str), FnOk P w K mg base CX0 k f fd ps sp ∧ PySem.W.findIn K (.ref C) "__eq__" = some (some (.ref f)) ∧ PySem.W.isFn K (.ref f) = true ∧ Binds K fd ps []
def rOwn (C : Addr) (sp : Sp) : R2 := fun x y H Q => ∃ a b dx dy fs gs, x = .ref a ∧ y = .ref b ∧ H a = some (.ins C dx fs) ∧ H b = some (.ins C dy gs) ∧ sp [.ref a, .ref b] H (fun v H' => ∃ r, v = .bl r ∧ Q v H') E0
theorem op_own {X : Cx} {k j : Nat} {C : Addr} {sp : Sp} (c : Eqo X.prog X.w X.K X.mg X.base k C sp) (hr : Room j X.A) (hk : k ≤ j) : OpR X (compareOp .Eq) (rOwn C sp) := by
  intro pins s σ H x y v u Q I rx ry hq
  obtain ⟨f, fd, ps, F, hs, hf, hb⟩ := c.ex
  obtain ⟨a, b, dx, dy, fs, gs, rfl, rfl, ha, hb', q⟩ := hq
  cases rx
  cases ry
  obtain ⟨mA, J, _⟩ := ins_get I.hok ha
  obtain ⟨mB, J', _⟩ := ins_get I.hok hb'
  obtain ⟨od, J, _⟩ := J.look
  obtain ⟨od', J', _⟩ := J'.look
  obtain ⟨m, hF⟩ := I.fr
  show wpAny (model X.prog X.w) X.A (richCompare .Eq (Value.ref a) (Value.ref b)) (EP X pins σ Q) X.xe s
  refine PySem.W.cmp_K (op := .Eq) (tb := .ref C) (hr.mono hk).units0 hF I.ok.mod.kin J J'.type (by simp [PySem.W.notFirst]) hs hf ?_
  have r2 : Vals [V.ref a, V.ref b] [Value.ref a, Value.ref b] := .cons rfl (.cons rfl .nil)
  refine thn (run_fn (dvs := []) F (hr.mono hk) hb .nil pass0 I r2 q) fun r s' z => ?_
  obtain ⟨v, H', I', rv, b', rfl, q'⟩ := z
  cases rv
  exact ⟨.bl b', H', I', rfl, q'⟩
end Z
set_option Elab.async false
set_option linter.all false
namespace Nd
/-! ### needs: the mathematics -/
abbrev Rs := List (Int × Option Int)
def rise (k : Int) (p : Int × Option Int) : Int := if k ≤ p.1 then 0 else match p.2 with
  | none => k - p.1
  | some h => if k < h then k - p.1 else h - p.1
def Fs (rs : Rs) (k : Int) : Int := (rs.map (rise k)).sum
/-- the pairs lie behind the edge e, one behind another with gaps, none but the last is open -/
def Good : Int → Rs → Prop
  | _, [] => True
  | e, (l, none) :: r => e < l ∧ r = []
  | e, (l, some h) :: r => e < l ∧ l < h ∧ Good h r
theorem Good.weak {e e' : Int} (h : e' ≤ e) : ∀ {rs : Rs}, Good e rs → Good e' rs
  | [], _ => trivial
  | (l, none) :: r, g => ⟨by have := g.1; omega, g.2⟩
  | (l, some x) :: r, g => ⟨by have := g.1; omega, g.2⟩
theorem Fs_nil (k : Int) : Fs [] k = 0 := rfl
theorem Fs_cons (p : Int × Option Int) (rs : Rs) (k : Int) : Fs (p :: rs) k = rise k p + Fs rs k := by
  unfold Fs
  rw [List.map_cons, List.sum_cons]
theorem Fs_append (a b : Rs) (k : Int) : Fs (a ++ b) k = Fs a k + Fs b k := by
  unfold Fs
  rw [List.map_append, List.sum_append]
theorem rise_zero {k : Int} {p : Int × Option Int} (h : k ≤ p.1) : rise k p = 0 := if_pos h
theorem rise_none {k l : Int} (h : l < k) : rise k (l, none) = k - l := if_neg (by omega : ¬ k ≤ l)
theorem rise_some {k l x : Int} (h : l < k) : rise k (l, some x) = if k < x then k - l else x - l := if_neg (by omega : ¬ k ≤ l)
theorem Fs_zero {k : Int} : ∀ {e : Int} {rs : Rs}, Good e rs → k ≤ e → Fs rs k = 0
  | _, [], _, _ => rfl
  | e, (l, none) :: r, g, h => by
    have g1 := g.1
    rw [Fs_cons, rise_zero (show k ≤ l by omega), g.2]
    rfl
  | e, (l, some x) :: r, g, h => by
    have g1 := g.1
    have g2 := g.2.1
    rw [Fs_cons, rise_zero (show k ≤ l by omega), Fs_zero g.2.2 (by omega)]
    rfl
theorem Good.drop : ∀ {e : Int} {rs : Rs} (i : Nat), Good e rs → ∃ e', Good e' (rs.drop i)
  | e, rs, 0, g => ⟨e, g⟩
  | e, [], i + 1, _ => ⟨e, trivial⟩
  | e, (l, none) :: r, i + 1, g => by
    rw [g.2]
    exact ⟨e, by simp [Good]⟩
  | e, (l, some x) :: r, i + 1, g => Good.drop i g.2.2
/-- behind a low edge that k does not pass nothing is added -/
theorem Fs_stop {rs : Rs} {e k : Int} (g : Good e rs) {i : Nat} {l : Int} {h : Option Int} (hi : rs[i]? = some (l, h)) (hk : k ≤ l) : Fs rs k = Fs (rs.take i) k := by
  obtain ⟨e', g'⟩ := g.drop i
  have hd : rs.drop i = (l, h) :: rs.drop (i + 1) := by
    obtain ⟨hlt, e1⟩ := List.getElem?_eq_some_iff.mp hi
    rw [List.drop_eq_getElem_cons hlt, e1]
  have e2 : Fs (rs.drop i) k = 0 := by
    rw [hd] at g' ⊢
    rw [Fs_cons, rise_zero hk]
    cases h with
    | none => rw [g'.2]; rfl
    | some x =>
      rw [Fs_zero g'.2.2 (by have := g'.2.1; omega)]
      rfl
  have e3 : Fs rs k = Fs (rs.take i ++ rs.drop i) k := by rw [List.take_append_drop]
  rw [e3, Fs_append, e2]
  omega
theorem Fs_take {rs : Rs} {k : Int} {i : Nat} {p : Int × Option Int} (hi : rs[i]? = some p) : Fs (rs.take (i + 1)) k = Fs (rs.take i) k + rise k p := by
  rw [List.take_add_one, hi, Fs_append]
  show _ = _
  rw [show (some p).toList = [p] from rfl, Fs_cons, Fs_nil]
  omega
theorem rise_bounds {x y l : Int} {h : Option Int} (hl : ∀ v, h = some v → l < v) (hxy : x ≤ y) : 0 ≤ rise y (l, h) - rise x (l, h) ∧ 0 ≤ rise x (l, h) := by
  unfold rise
  dsimp only
  cases h with
  | none => dsimp only; constructor <;> (repeat' split) <;> omega
  | some v =>
    have := hl v rfl
    dsimp only
    constructor <;> (repeat' split) <;> omega
/-- the sum does not fall, and it grows by at most one for one -/
theorem Fs_slope {x y : Int} (hxy : x ≤ y) : ∀ {e : Int} {rs : Rs}, Good e rs → 0 ≤ Fs rs x ∧ Fs rs x ≤ Fs rs y ∧ (Fs rs y - Fs rs x ≤ y - x) ∧ (e ≤ y → Fs rs y ≤ y - e)
  | e, [], _ => ⟨by rw [Fs_nil]; omega, by rw [Fs_nil, Fs_nil]; omega, by rw [Fs_nil, Fs_nil]; omega, fun _ => by rw [Fs_nil]; omega⟩
  | e, (l, none) :: r, g => by
    have g1 := g.1
    rw [g.2, Fs_cons, Fs_cons, Fs_nil, Fs_nil]
    unfold rise
    dsimp only
    refine ⟨?_, ?_, ?_, fun _ => ?_⟩ <;> (repeat' split) <;> omega
  | e, (l, some h) :: r, g => by
    have g1 := g.1
    have g2 := g.2.1
    obtain ⟨i1, i2, i3, i4⟩ := Fs_slope hxy g.2.2
    rw [Fs_cons, Fs_cons]
    have z1 : x ≤ h → Fs r x = 0 := fun q => Fs_zero g.2.2 q
    have z2 : y ≤ h → Fs r y = 0 := fun q => Fs_zero g.2.2 q
    by_cases hy : y ≤ h
    · have a1 := z2 hy
      have a2 := z1 (by omega)
      rw [a1, a2]
      unfold rise
      dsimp only
      refine ⟨?_, ?_, ?_, fun _ => ?_⟩ <;> (repeat' split) <;> omega
    · have a4 := i4 (by omega)
      by_cases hx : x ≤ h
      · have a2 := z1 hx
        rw [a2]
        unfold rise
        dsimp only
        refine ⟨?_, ?_, ?_, fun _ => ?_⟩ <;> (repeat' split) <;> omega
      · unfold rise
        dsimp only
        refine ⟨?_, ?_, ?_, fun _ => ?_⟩ <;> (repeat' split) <;> omega
/-- flat_point as it goes -/
def fp : Rs → Int → Int → Option Int
  | [], left, edge => some (edge + left)
  | (l, h) :: r, left, edge => if left ≤ l - edge then some (edge + left) else match h with
    | none => none
    | some x => fp r (left - (l - edge)) x
theorem fp_spec : ∀ {rs : Rs} {A E : Int}, Good (E - 1) rs → 0 ≤ A → match fp rs A E with
    | some x => E ≤ x ∧ ∀ y, E ≤ y → (A ≤ (y - E) - Fs rs y ↔ x ≤ y)
    | none => ∀ y, E ≤ y → (y - E) - Fs rs y < A
  | [], A, E, _, hA => ⟨by omega, fun y hy => by rw [Fs_nil]; constructor <;> intro h <;> omega⟩
  | (l, h) :: r, A, E, g, hA => by
    unfold fp
    by_cases c : A ≤ l - E
    · rw [if_pos c]
      refine ⟨by omega, fun y hy => ?_⟩
      by_cases yl : y ≤ l
      · have z : Fs ((l, h) :: r) y = 0 := Fs_stop g (i := 0) rfl yl
        rw [z]
        constructor <;> intro <;> omega
      · have z : Fs ((l, h) :: r) l = 0 := Fs_stop g (i := 0) rfl (Int.le_refl l)
        have s := (Fs_slope (x := l) (y := y) (by omega) g).2.2.1
        rw [z] at s
        constructor <;> intro <;> omega
    · rw [if_neg c]
      cases h with
      | none =>
        have g2 := g.2
        subst g2
        intro y hy
        rw [Fs_cons, Fs_nil]
        by_cases yl : y ≤ l
        · rw [rise_zero yl]; omega
        · rw [rise_none (by omega)]; omega
      | some x =>
        have g1 := g.1
        have g2 := g.2.1
        have ih := fp_spec (rs := r) (A := A - (l - E)) (E := x) (g.2.2.weak (by omega)) (by omega)
        dsimp only
        have low : ∀ y, E ≤ y → y < x → (y - E) - Fs ((l, some x) :: r) y < A := fun y hy hx => by
          rw [Fs_cons, Fs_zero g.2.2 (by omega)]
          by_cases yl : y ≤ l
          · rw [rise_zero yl]; omega
          · rw [rise_some (by omega), if_pos hx]; omega
        have high : ∀ y, x ≤ y → (y - E) - Fs ((l, some x) :: r) y = (y - x) - Fs r y + (l - E) := fun y hx => by
          rw [Fs_cons, rise_some (by omega), if_neg (by omega)]
          omega
        cases e : fp r (A - (l - E)) x with
        | some q =>
          rw [e] at ih
          refine ⟨by have := ih.1; omega, fun y hy => ?_⟩
          by_cases hx : y < x
          · have a := low y hy hx
            have b := ih.1
            constructor <;> intro <;> omega
          · have a := high y (by omega)
            have b := ih.2 y (by omega)
            rw [a]
            constructor
            · intro h1
              exact b.mp (by omega)
            · intro h1
              have := b.mpr h1
              omega
        | none =>
          rw [e] at ih
          intro y hy
          by_cases hx : y < x
          · exact low y hy hx
          · have a := high y (by omega)
            have b := ih y (by omega)
            omega
end Nd
set_option Elab.async false
set_option linter.all false
namespace Nd
def top : Int → Rs → Option Int
  | t, [] => some t
  | _, (_, none) :: _ => none
  | t, (l, some h) :: r => top (t + h - l) r
def bnd : Int → Rs → Int
  | t, [] => t
  | t, (l, none) :: _ => if l > t then l else t
  | t, (l, some h) :: r => bnd (t + h - l) r
/-- the last pair is open, from l on -/
def opn : Rs → Option Int
  | [] => none
  | [(l, none)] => some l
  | [(_, some _)] => none
  | _ :: q :: r => opn (q :: r)
theorem ends_spec : ∀ {rs : Rs} {e t : Int}, Good e rs → match opn rs with
    | some l => e < l ∧ bnd t rs = (if l > t + Fs rs l then l else t + Fs rs l) ∧ (∀ y, l ≤ y → Fs rs y = Fs rs l + (y - l)) ∧ top t rs = none
    | none => (∀ y, t + Fs rs y ≤ bnd t rs) ∧ top t rs = some (bnd t rs)
  | [], e, t, _ => ⟨fun y => by rw [Fs_nil]; show t + 0 ≤ t; omega, rfl⟩
  | [(l, none)], e, t, g => by
    have z : Fs [(l, none)] l = 0 := by rw [Fs_cons, rise_zero (Int.le_refl l), Fs_nil]; rfl
    refine ⟨g.1, ?_, fun y hy => ?_, rfl⟩
    · rw [z]; show (if l > t then l else t) = _; rw [Int.add_zero]
    · rw [z, Fs_cons, Fs_nil]
      by_cases h : y ≤ l
      · rw [rise_zero h]; omega
      · rw [rise_none (by omega)]; omega
  | [(l, some h)], e, t, g => by
    have g2 := g.2.1
    refine ⟨fun y => ?_, rfl⟩
    rw [Fs_cons, Fs_nil]
    show t + (rise y (l, some h) + 0) ≤ t + h - l
    unfold rise
    dsimp only
    (repeat' split) <;> omega
  | (l, none) :: q :: r, e, t, g => by
    have := g.2
    cases this
  | (l, some h) :: q :: r, e, t, g => by
    have g2 := g.2.1
    have ih := ends_spec (rs := q :: r) (e := h) (t := t + h - l) g.2.2
    show match opn (q :: r) with
      | some l' => _
      | none => _
    cases c : opn (q :: r) with
    | some l' =>
      rw [c] at ih
      obtain ⟨i1, i2, i3, i4⟩ := ih
      have e1 : ∀ y, h ≤ y → Fs ((l, some h) :: q :: r) y = (h - l) + Fs (q :: r) y := fun y hy => by
        rw [Fs_cons, rise_some (by omega), if_neg (by omega)]
      have g1 := g.1
      refine ⟨by omega, ?_, fun y hy => ?_, i4⟩
      · show bnd (t + h - l) (q :: r) = _
        rw [i2, e1 l' (by omega)]
        rw [show t + h - l + Fs (q :: r) l' = t + (h - l + Fs (q :: r) l') by omega]
      · rw [e1 y (by omega), e1 l' (by omega), i3 y hy]
        omega
    | none =>
      rw [c] at ih
      refine ⟨fun y => ?_, ih.2⟩
      have := ih.1 y
      rw [Fs_cons]
      show t + (rise y (l, some h) + Fs (q :: r) y) ≤ bnd (t + h - l) (q :: r)
      have b : rise y (l, some h) ≤ h - l := by
        unfold rise
        dsimp only
        (repeat' split) <;> omega
      omega
def val (st : Option Int) (rs : Rs) (nv : Option Int) (k : Option Int) : Option Int := match st, k with
  | some s, some k => some (s + Fs rs k)
  | _, _ => nv
/-- the greatest x with f(x) ≥ x; the least with f(x) ≤ x -/
def grt (s : Int) (rs : Rs) : Option Int := (fp rs (s + 1) 0).map (· - 1)
def lst (s : Int) (rs : Rs) : Option Int := fp rs s 0
theorem lst_spec {s : Int} {rs : Rs} (g : Good (-1) rs) (hs : 0 ≤ s) : match lst s rs with
    | some x => 0 ≤ x ∧ ∀ y, 0 ≤ y → (s + Fs rs y ≤ y ↔ x ≤ y)
    | none => ∀ y, 0 ≤ y → y < s + Fs rs y := by
  have h := fp_spec (rs := rs) (A := s) (E := 0) g hs
  unfold lst
  cases e : fp rs s 0 with
  | some x =>
    rw [e] at h
    refine ⟨h.1, fun y hy => ?_⟩
    have := h.2 y hy
    constructor
    · intro z
      exact this.mp (by omega)
    · intro z
      have := this.mpr z
      omega
  | none =>
    rw [e] at h
    intro y hy
    have := h y hy
    omega
theorem grt_spec {s : Int} {rs : Rs} (g : Good (-1) rs) (hs : 0 ≤ s) : match grt s rs with
    | some x => 0 ≤ x ∧ ∀ y, 0 ≤ y → (y ≤ s + Fs rs y ↔ y ≤ x)
    | none => ∀ y, 0 ≤ y → y ≤ s + Fs rs y := by
  have h := fp_spec (rs := rs) (A := s + 1) (E := 0) g (by omega)
  unfold grt
  cases e : fp rs (s + 1) 0 with
  | some x =>
    rw [e] at h
    have pos := h.2 0 (by omega)
    have z0 := (Fs_slope (x := 0) (y := 0) (by omega) g).1
    have x1 : ¬ x ≤ 0 := fun z => by
      have := pos.mpr z
      omega
    show 0 ≤ x - 1 ∧ ∀ y, 0 ≤ y → (y ≤ s + Fs rs y ↔ y ≤ x - 1)
    refine ⟨by omega, fun y hy => ?_⟩
    have := h.2 y hy
    constructor
    · intro z
      apply Decidable.byContradiction
      intro q
      have := this.mpr (by omega)
      omega
    · intro z
      apply Decidable.byContradiction
      intro q
      have := this.mp (by omega)
      omega
  | none =>
    rw [e] at h
    intro y hy
    have := h y hy
    omega
theorem grt_none {s l : Int} {rs : Rs} (g : Good (-1) rs) (hs : 0 ≤ s) (ho : opn rs = some l) (hl : l ≤ s + Fs rs l) : grt s rs = none := by
  have h := grt_spec g hs
  have e := ends_spec (t := s) g
  rw [ho] at e
  cases c : grt s rs with
  | none => rfl
  | some x =>
    rw [c] at h
    exfalso
    have h1 := h.2 (max l (x + 1)) (by omega)
    have h2 := e.2.2.1 (max l (x + 1)) (by omega)
    have h3 := h1.mp (by omega)
    omega
theorem lst_none {s l : Int} {rs : Rs} (g : Good (-1) rs) (hs : 0 ≤ s) (ho : opn rs = some l) (hl : l < s + Fs rs l) : lst s rs = none := by
  have h := lst_spec g hs
  have e := ends_spec (t := s) g
  rw [ho] at e
  cases c : lst s rs with
  | none => rfl
  | some x =>
    rw [c] at h
    exfalso
    have h1 := h.2 (max l x) (by omega)
    have h2 := e.2.2.1 (max l x) (by omega)
    have h3 := h1.mpr (by omega)
    omega
/-- where the search for the greatest one begins -/
theorem grt_top {s : Int} {rs : Rs} (g : Good (-1) rs) (hs : 0 ≤ s) (hn : ∀ l, opn rs = some l → ¬ l ≤ s + Fs rs l) : s + Fs rs (bnd s rs + 1) < bnd s rs + 1 ∧ 0 ≤ bnd s rs := by
  have e := ends_spec (t := s) g
  have z0 := (Fs_slope (x := 0) (y := 0) (by omega) g).1
  cases c : opn rs with
  | some l =>
    rw [c] at e
    have h1 := hn l c
    obtain ⟨e1, e2, e3, e4⟩ := e
    rw [if_pos (by omega)] at e2
    rw [e2, e3 (l + 1) (by omega)]
    omega
  | none =>
    rw [c] at e
    have h1 := e.1 (bnd s rs + 1)
    have h2 := e.1 0
    omega
theorem lst_top {s : Int} {rs : Rs} (g : Good (-1) rs) (hs : 0 ≤ s) (hn : ∀ l, opn rs = some l → ¬ l < s + Fs rs l) : s + Fs rs (bnd s rs) ≤ bnd s rs ∧ 0 ≤ bnd s rs := by
  have e := ends_spec (t := s) g
  have z0 := (Fs_slope (x := 0) (y := 0) (by omega) g).1
  cases c : opn rs with
  | some l =>
    rw [c] at e
    have h1 := hn l c
    obtain ⟨e1, e2, e3, e4⟩ := e
    by_cases q : l > s + Fs rs l
    · rw [if_pos q] at e2
      rw [e2]
      omega
    · rw [if_neg q] at e2
      have q2 : s + Fs rs l = l := by omega
      rw [e2, q2]
      omega
  | none =>
    rw [c] at e
    have h1 := e.1 (bnd s rs)
    have h2 := e.1 0
    omega
theorem grt_is {s x : Int} {rs : Rs} (g : Good (-1) rs) (hs : 0 ≤ s) (h0 : 0 ≤ x) (h1 : x ≤ s + Fs rs x) (h2 : s + Fs rs (x + 1) < x + 1) : grt s rs = some x := by
  have h := grt_spec g hs
  cases c : grt s rs with
  | none =>
    rw [c] at h
    have := h (x + 1) (by omega)
    omega
  | some y =>
    rw [c] at h
    have a := (h.2 x h0).mp h1
    have b : ¬ x + 1 ≤ y := fun z => by
      have := (h.2 (x + 1) (by omega)).mpr z
      omega
    rw [show y = x by omega]
theorem lst_is {s x : Int} {rs : Rs} (g : Good (-1) rs) (hs : 0 ≤ s) (h0 : 0 ≤ x) (h1 : s + Fs rs x ≤ x) (h2 : x = 0 ∨ x - 1 < s + Fs rs (x - 1)) : lst s rs = some x := by
  have h := lst_spec g hs
  cases c : lst s rs with
  | none =>
    rw [c] at h
    have := h x h0
    omega
  | some y =>
    rw [c] at h
    have a := (h.2 x h0).mp h1
    have b := h.1
    rcases h2 with z | z
    · rw [show y = x by omega]
    · by_cases hx : x = 0
      · rw [show y = x by omega]
      · have d : ¬ y ≤ x - 1 := fun q => by
          have := (h.2 (x - 1) (by omega)).mpr q
          omega
        rw [show y = x by omega]
end Nd
set_option Elab.async false
set_option linter.all false
set_option maxRecDepth 100000
set_option maxHeartbeats 4000000
namespace Z
open PySem PySem.Spec PyProof.Rows L2 Nd
/-! ### None or a number; pairs; lists of pairs -/
def oV : Option Int → V
  | none => .non
  | some i => .int i
theorem oV_non {o : Option Int} : decide (oV o = V.non) = o.isNone := by cases o <;> rfl
def Ris (b c : Bool) (K : PySem.W.Frag) (H : Hp) (a : Addr) (ps : List Addr) (rs : Rs) : Prop := SqK b K H a (ps.map V.ref) ∧ ps.length = rs.length ∧ ∀ (i : Nat) (p : Addr) (q : Int × Option Int), ps[i]? = some p → rs[i]? = some q → SqK c K H p [.int q.1, oV q.2]
theorem Ris.mono {b c : Bool} {K : PySem.W.Frag} {H H' : Hp} {a : Addr} {ps : List Addr} {rs : Rs} (s : Same H H') (r : Ris b c K H a ps rs) : Ris b c K H' a ps rs := ⟨Z.Same.sqK s r.1, r.2.1, fun i p q h1 h2 => Z.Same.sqK s (r.2.2 i p q h1 h2)⟩
theorem _root_.Z.SqK.or {b : Bool} {K : PySem.W.Frag} {H : Hp} {a : Addr} {xs : List V} (h : SqK b K H a xs) : SqL K H a xs ∨ SqT K H a xs := by
  cases b
  · exact .inr h
  · exact .inl h
/-! ### what is walked: a list or a tuple -/
inductive Eor (A B : Prop) : Prop
  | l : A → Eor A B
  | r : B → Eor A B
def iOr (a b : TI) : TI := fun σ H R => Eor (a σ H R) (b σ H R)
theorem pi_or {X : Cx} {tg e : Expr} {a b : TI} (h1 : PI X tg e a) (h2 : PI X tg e b) : PI X tg e (iOr a b) := by
  constructor
  intro pins s σ H R I h
  rcases h with h | h
  · exact h1.run pins s σ H R I h
  · exact h2.run pins s σ H R I h
theorem pi_seq {X : Cx} {tg l : Expr} {tl : TE} (h : PE X l tl) : PI X tg l (iOr (iList X.K tl) (iTup X.K tl)) := pi_or (pi_list h) (pi_tup h)
def ItS (b : Bool) (K : PySem.W.Frag) (a : Addr) : It := match b with
  | true => Itl K a
  | false => Itt K a
theorem its_go {b : Bool} {K : PySem.W.Frag} {H : Hp} {a : Addr} {xs : List V} {i : Nat} {x : V} (h : SqK b K H a xs) (e : xs[i]? = some x) : (ItS b K a).go i H := by
  cases b
  · exact ⟨_, _, h, e⟩
  · exact ⟨_, _, h, e⟩
theorem its_stop {b : Bool} {K : PySem.W.Frag} {H : Hp} {a : Addr} {xs : List V} {i : Nat} (h : SqK b K H a xs) (e : xs.length ≤ i) : (ItS b K a).stop i H := by
  cases b
  · exact ⟨_, h, e⟩
  · exact ⟨_, h, e⟩
theorem its_yld {b : Bool} {K : PySem.W.Frag} {H H' : Hp} {a : Addr} {xs : List V} {i : Nat} {x : V} (h : SqK b K H a xs) (y : (ItS b K a).yld i H x H') : H' = H ∧ xs[i]? = some x := by
  cases b
  · exact ⟨y.1, y.2 _ h⟩
  · exact ⟨y.1, y.2 _ h⟩
theorem iSeq_of {b : Bool} {K : PySem.W.Frag} {σ : L2.St} {H : Hp} {tl : TE} {R : It → Hp → Prop} {a : Addr} {xs : List V} (h : ∀ Q : VK, Q (.ref a) H → tl σ H Q) (hs : SqK b K H a xs) (q : R (ItS b K a) H) : iOr (iList K tl) (iTup K tl) σ H R := by
  cases b
  · exact .r (h _ ⟨a, rfl, ⟨_, hs⟩, q⟩)
  · exact .l (h _ ⟨a, rfl, ⟨_, hs⟩, q⟩)
abbrev gPair (K : PySem.W.Frag) (i j : Nat) : TG := gOr (gUnl K 2 (gCons (gName i) (gCons (gName j) gNil))) (gTup K 2 (gCons (gName i) (gCons (gName j) gNil)))
theorem gpair_of {c : Bool} {K : PySem.W.Frag} {i j : Nat} {p : Addr} {x y : V} {σ : L2.St} {H : Hp} {Q : L2.St → Hp → Prop} (h : SqK c K H p [x, y]) (q : Q ((σ.set i (some x)).set j (some y)) H) : gPair K i j (.ref p) σ H Q := by
  cases c
  · exact .inr ⟨p, _, rfl, h, rfl, x, [y], rfl, y, [], rfl, rfl, q⟩
  · exact .inl ⟨p, _, rfl, h, rfl, x, [y], rfl, y, [], rfl, rfl, q⟩
/-- for low, high in rises, the list standing still -/
theorem for_pairs {b c : Bool} {K : PySem.W.Frag} {a : Addr} {ps : List Addr} {rs : Rs} {H0 : Hp} {i1 i2 j : Nat} {tb : TS} {D : Ends} {σ : L2.St} {H : Hp} (hR : Ris b c K H0 a ps rs) (s0 : Same H0 H) (hj : σ[j]? = some (some (.ref a))) (Pv : Nat → L2.St → Hp → Prop) (h0 : Pv 0 σ H) (hq : ∀ i σ H1, Pv i σ H1 → Same H0 H1)
    (hs : ∀ (i : Nat) (l : Int) (h : Option Int) (σ : L2.St) (H1 : Hp), rs[i]? = some (l, h) → Pv i σ H1 → tb { D with nx := Pv (i + 1), ct := Pv (i + 1), bk := D.nx } ((σ.set i1 (some (.int l))).set i2 (some (oV h))) H1)
    (hd : ∀ σ H1, Pv rs.length σ H1 → D.nx σ H1) : tFor (iOr (iList K (tVar j)) (iTup K (tVar j))) (gPair K i1 i2) tb D σ H := by
  refine iSeq_of (b := b) (fun Q q => ⟨_, hj, q⟩) (Z.Same.sqK s0 hR.1) ?_
  refine for_gen (n := rs.length) Pv h0 ?_ ?_ ?_ hd
  · intro i σ1 H1 hi p
    have hi2 : i < ps.length := by rw [hR.2.1]; exact hi
    exact its_go (x := .ref ps[i]) (Z.Same.sqK (hq i σ1 H1 p) hR.1) (by rw [List.getElem?_map, List.getElem?_eq_getElem hi2]; rfl)
  · intro σ1 H1 p
    exact its_stop (Z.Same.sqK (hq _ σ1 H1 p) hR.1) (by rw [List.length_map, hR.2.1]; exact Nat.le_refl _)
  · intro i σ1 H1 x H' hi p y
    have s1 := hq i σ1 H1 p
    obtain ⟨rfl, ex⟩ := its_yld (Z.Same.sqK s1 hR.1) y
    obtain ⟨q, eq, rfl⟩ := of_map ex
    have er : rs[i]? = some (rs[i].1, rs[i].2) := List.getElem?_eq_getElem hi
    exact gpair_of (Z.Same.sqK s1 (hR.2.2 i q _ eq er)) (hs i _ _ σ1 H' er p)
abbrev FnM (K : PySem.W.Frag) (x q : Str) (st : Stmt) (f : Addr) (fd : FuncData) : Prop := FunD K x q (defArgs st) (defBody st) (defScope st) [] [] f fd
theorem fnr_of {P : Program} {w : World} {K : PySem.W.Frag} {mg : Str → Option Value} {base : Heap} {k : Nat} {f : Addr} {fd : FuncData} {ps : List Str} {sp : Sp} (F : FnOk P w K mg base CX0 k f fd ps sp) (b : Binds K fd ps []) : FnR P w K mg base CX0 k f sp := (FnOk.raw (dvs := []) F b .nil).imp fun vs H Q E h => by
  show sp (vs ++ []) H Q E
  rw [List.append_nil]
  exact h
theorem relv_ref {a : Addr} : L2.RelV (.ref a) (.ref a) := rfl
/-- an if that only guards -/
theorem cut_stay {t u : TS} {D : Ends} {σ : L2.St} {H : Hp} (h : t { D with nx := fun σ' H' => σ' = σ ∧ H' = H } σ H) (h2 : u D σ H) : C8.tCut t u D σ H := ⟨_, h, fun σ' H' z => by
  obtain ⟨rfl, rfl⟩ := z
  exact h2⟩
/-- the fields of a need -/
def NeedAt (C : Addr) (K : PySem.W.Frag) (H : Hp) (n : Addr) (st : Option Int) (rs : Rs) (nv : Option Int) : Prop := ∃ dx r ps, H n = some (.ins C dx [("start", oV st), ("rises", .ref r), ("never", oV nv)]) ∧ Ris false false K H r ps rs ∧ H r = some (.tup (ps.map V.ref))
theorem NeedAt.mono {C : Addr} {K : PySem.W.Frag} {H H' : Hp} {n : Addr} {st nv : Option Int} {rs : Rs} (s : Same H H') (h : NeedAt C K H n st rs nv) : NeedAt C K H' n st rs nv := by
  obtain ⟨dx, r, ps, e, h2, h3⟩ := h
  exact ⟨dx, r, ps, s _ _ e, h2.mono s, s _ _ h3⟩
/-- for pair in rises, a tuple standing still -/
theorem for_prs {c : Bool} {K : PySem.W.Frag} {a : Addr} {ps : List Addr} {rs : Rs} {H0 : Hp} {i1 : Nat} {tb : TS} {D : Ends} {σ : L2.St} {H : Hp} (hR : Ris false c K H0 a ps rs) (Pv : Nat → L2.St → Hp → Prop) (h0 : Pv 0 σ H) (hq : ∀ i σ H1, Pv i σ H1 → Same H0 H1)
    (hs : ∀ (i : Nat) (p : Addr) (l : Int) (h : Option Int) (σ : L2.St) (H1 : Hp), rs[i]? = some (l, h) → SqK c K H1 p [.int l, oV h] → Pv i σ H1 → tb { D with nx := Pv (i + 1), ct := Pv (i + 1), bk := D.nx } (σ.set i1 (some (.ref p))) H1)
    (hd : ∀ σ H1, Pv rs.length σ H1 → D.nx σ H1) : forW (Itt K a) (gName i1) tb D σ H := by
  refine for_gen (n := rs.length) Pv h0 ?_ ?_ ?_ hd
  · intro i σ1 H1 hi p
    have hi2 : i < ps.length := by rw [hR.2.1]; exact hi
    exact its_go (b := false) (x := .ref ps[i]) (Z.Same.sqK (hq i σ1 H1 p) hR.1) (by rw [List.getElem?_map, List.getElem?_eq_getElem hi2]; rfl)
  · intro σ1 H1 p
    exact its_stop (b := false) (Z.Same.sqK (hq _ σ1 H1 p) hR.1) (by rw [List.length_map, hR.2.1]; exact Nat.le_refl _)
  · intro i σ1 H1 x H' hi p y
    have s1 := hq i σ1 H1 p
    obtain ⟨rfl, ex⟩ := its_yld (b := false) (Z.Same.sqK s1 hR.1) y
    obtain ⟨q, eq, rfl⟩ := of_map ex
    have er : rs[i]? = some (rs[i].1, rs[i].2) := List.getElem?_eq_getElem hi
    exact hs i q _ _ σ1 H' er (Z.Same.sqK s1 (hR.2.2 i q _ eq er)) p
end Z
set_option Elab.async false
set_option linter.all false
set_option maxRecDepth 100000
set_option maxHeartbeats 4000000
namespace Z
open Nd
open PySem PySem.Spec PyProof.Rows L2
open C8 (pss_cut tCut)
local macro_rules | `(tactic| walk_at "num") => `(tactic| first | rfl | omega | decide | exact Nat.le_of_lt (small1000 (by simp)) | exact ⟨by omega, by omega⟩ | exact ⟨by omega, by omega, by omega⟩ | exact ⟨by decide, by decide, by decide⟩ | exact Or.inl ⟨by omega, by omega⟩ | exact Or.inr ⟨by omega, by omega⟩)
local macro_rules | `(tactic| walk_at "go") => `(tactic| repeat (first | refine ⟨_, rfl, ?_⟩ | refine ⟨_, _, rfl, rfl, ?_⟩ | refine ⟨_, _, rfl, ?_⟩ | refine ⟨_, _, rfl, rfl, (by walk_at "num"), ?_⟩ | refine Or.inl ⟨_, rfl, ?_⟩ | refine ⟨_, _, _, _, rfl, rfl, (by assumption), (by rfl), ?_⟩ | refine ⟨_, _, _, _, _, rfl, (by assumption), (by assumption), (by assumption), (by rfl), ?_⟩ | refine ⟨rfl, ?_⟩ | refine And.intro (by walk_at "num") ?_))
abbrev s_value_at : Stmt := topS 7
abbrev N_value_at : List Str := ["start", "rises", "k", "value", "low", "high", "top"]
abbrev P_value_at : List Str := ["start", "rises", "k"]
theorem sc_value_at : FnScope N_value_at P_value_at (defScope s_value_at) := ⟨rfl, rfl, rfl, by decide +kernel, rfl, by decide +kernel, by decide +kernel⟩
abbrev s_greatest_value : Stmt := topS 17
abbrev N_greatest_value : List Str := ["start", "rises", "top", "edge", "low", "high"]
abbrev P_greatest_value : List Str := ["start", "rises"]
theorem sc_greatest_value : FnScope N_greatest_value P_greatest_value (defScope s_greatest_value) := ⟨rfl, rfl, rfl, by decide +kernel, rfl, by decide +kernel, by decide +kernel⟩
abbrev s_flat_point : Stmt := topS 14
abbrev N_flat_point : List Str := ["rises", "amount", "left", "edge", "low", "high"]
abbrev P_flat_point : List Str := ["rises", "amount"]
theorem sc_flat_point : FnScope N_flat_point P_flat_point (defScope s_flat_point) := ⟨rfl, rfl, rfl, by decide +kernel, rfl, by decide +kernel, by decide +kernel⟩
abbrev s_Need___init__ : Stmt := inClass (topS 18) 0
abbrev N_Need___init__ : List Str := ["self", "start", "rises", "never", "top", "low", "high"]
abbrev P_Need___init__ : List Str := ["self", "start", "rises", "never"]
theorem sc_Need___init__ : FnScope N_Need___init__ P_Need___init__ (defScope s_Need___init__) := ⟨rfl, rfl, rfl, by decide +kernel, rfl, by decide +kernel, by decide +kernel⟩
abbrev s_Need_value_for : Stmt := inClass (topS 18) 1
abbrev N_Need_value_for : List Str := ["self", "k"]
abbrev P_Need_value_for : List Str := ["self", "k"]
theorem sc_Need_value_for : FnScope N_Need_value_for P_Need_value_for (defScope s_Need_value_for) := ⟨rfl, rfl, rfl, by decide +kernel, rfl, by decide +kernel, by decide +kernel⟩
abbrev s_Need___call__ : Stmt := inClass (topS 18) 2
abbrev N_Need___call__ : List Str := ["self", "needed"]
abbrev P_Need___call__ : List Str := ["self", "needed"]
theorem sc_Need___call__ : FnScope N_Need___call__ P_Need___call__ (defScope s_Need___call__) := ⟨rfl, rfl, rfl, by decide +kernel, rfl, by decide +kernel, by decide +kernel⟩
abbrev s_Need___eq__ : Stmt := inClass (topS 18) 3
abbrev N_Need___eq__ : List Str := ["self", "other"]
abbrev P_Need___eq__ : List Str := ["self", "other"]
theorem sc_Need___eq__ : FnScope N_Need___eq__ P_Need___eq__ (defScope s_Need___eq__) := ⟨rfl, rfl, rfl, by decide +kernel, rfl, by decide +kernel, by decide +kernel⟩
abbrev s_Need_mine : Stmt := inClass (topS 18) 9
abbrev N_Need_mine : List Str := ["self", "point", "rises"]
abbrev P_Need_mine : List Str := ["self"]
theorem sc_Need_mine : FnScope N_Need_mine P_Need_mine (defScope s_Need_mine) := ⟨rfl, rfl, rfl, by decide +kernel, rfl, by decide +kernel, by decide +kernel⟩
abbrev s_Need_theirs : Stmt := inClass (topS 18) 10
abbrev N_Need_theirs : List Str := ["self", "point"]
abbrev P_Need_theirs : List Str := ["self"]
theorem sc_Need_theirs : FnScope N_Need_theirs P_Need_theirs (defScope s_Need_theirs) := ⟨rfl, rfl, rfl, by decide +kernel, rfl, by decide +kernel, by decide +kernel⟩
abbrev s_Need_endless : Stmt := inClass (topS 18) 11
abbrev N_Need_endless : List Str := ["self", "point"]
abbrev P_Need_endless : List Str := ["self"]
theorem sc_Need_endless : FnScope N_Need_endless P_Need_endless (defScope s_Need_endless) := ⟨rfl, rfl, rfl, by decide +kernel, rfl, by decide +kernel, by decide +kernel⟩
section
variable {P : Program} {w : World} {K : PySem.W.Frag} {mg : Str → Option Value} {base : Heap} {f C : Addr} {fd : FuncData}
/-! ### value_at -/
def spValueAt (K : PySem.W.Frag) : Sp := fun vs H Q _ => ∃ (b c : Bool) (s k : Int) (r : Addr) (ps : List Addr) (rs : Rs), vs = [.int s, .ref r, .int k] ∧ Ris b c K H r ps rs ∧ Good (-1) rs ∧ Q (.int (s + Fs rs k)) H
theorem ok_value_at (F : FnP K "value_at" s_value_at f fd) : FnOk P w K mg base CX0 1 f fd P_value_at (spValueAt K) := by
  refine F.ok sc_value_at (fun vs H Q E h => ?_) (fun cdv A outer s H vs Q E hr h => ?_)
  · obtain ⟨b, c, s, k, r, ps, rs, rfl, _⟩ := h
    rfl
  · obtain ⟨b, c, s, k, r, ps, rs, rfl, hR, hg, q⟩ := h
    refine ⟨_, PSs.nox (pss_cons (ps_set (i := 3) sc_value_at.nd rfl (by first | exact .inl rfl | exact .inr rfl) (pv 0))
      (pss_cons (ps_for PassesOwn.never rfl (pi_seq (pv 1)) (pg_or (pg_unl rfl (pgs_cons (pg_name (i := 4) sc_value_at.nd rfl (by first | exact .inl rfl | exact .inr rfl)) (pgs_cons (pg_name (i := 5) sc_value_at.nd rfl (by first | exact .inl rfl | exact .inr rfl)) pgs_nil))) (pg_tup rfl (pgs_cons (pg_name (i := 4) sc_value_at.nd rfl (by first | exact .inl rfl | exact .inr rfl)) (pgs_cons (pg_name (i := 5) sc_value_at.nd rfl (by first | exact .inl rfl | exact .inr rfl)) pgs_nil))))
        (pss_cons (ps_if (pt_cmpR op_le (pv 2) (pv 4) (nomark _)) (pss_one ps_break) pss_nil)
      (pss_cons (ps_set (i := 6) sc_value_at.nd rfl (by first | exact .inl rfl | exact .inr rfl) (pe_ifExp (PW.pt (pw_or (pt_cmpR op_isN (pv 5) pe_non (nomark _)) (pw_or1 (pt_cmpR op_lt (pv 2) (pv 5) (nomark _))))) (pv 2) (pv 5)))
      (pss_one (ps_set (i := 3) sc_value_at.nd rfl (by first | exact .inl rfl | exact .inr rfl) (pe_op op_sub (pe_op op_add (pv 3) (pv 6)) (pv 4)))))))
      (pss_one (ps_ret (pv 3))))), ?_⟩
    walk_at "go"
    refine for_pairs (j := 1) hR (Same.refl H) (by rfl) (fun i σ H1 => H1 = H ∧ ∃ (x : Int) (v4 v5 v6 : Option V), x = s + Fs (rs.take i) k ∧ σ = [some (.int s), some (.ref r), some (.int k), some (.int x), v4, v5, v6]) ⟨rfl, s, none, none, none, ?_, rfl⟩ ?_ ?_ ?_
    · rw [List.take_zero, Fs_nil, Int.add_zero]
    · rintro i σ H1 ⟨rfl, _⟩
      exact Same.refl _
    · rintro i l h σ H1 hi ⟨rfl, x, v4, v5, v6, ex, rfl⟩
      walk_at "go"
      refine ite2 (fun e => ?_) (fun e => ?_)
      · have hk : k ≤ l := of_decide_eq_true e
        refine ⟨_, rfl, ?_⟩
        rw [ex, ← Fs_stop hg hi hk]
        exact q
      · have hk : ¬ k ≤ l := fun z => e (decide_eq_true z)
        have et := Fs_take (k := k) hi
        cases h with
        | none =>
          rw [rise_none (by omega)] at et
          walk_at "go"
          refine ⟨_, _, _, _, ?_, rfl⟩
          omega
        | some y =>
          rw [rise_some (by omega)] at et
          walk_at "go"
          refine ite2 (fun e2 => ?_) (fun e2 => ?_)
          · have hx : k < y := of_decide_eq_true e2
            rw [if_pos hx] at et
            walk_at "go"
            refine ⟨_, _, _, _, ?_, rfl⟩
            omega
          · have hx : ¬ k < y := fun z => e2 (decide_eq_true z)
            rw [if_neg hx] at et
            walk_at "go"
            refine ⟨_, _, _, _, ?_, rfl⟩
            omega
    · rintro σ H1 ⟨rfl, x, v4, v5, v6, ex, rfl⟩
      rw [List.take_length] at ex
      walk_at "go"
      rw [ex]
      exact q
/-! ### greatest_value -/
def tops : Option Int → Rs → Option Int
  | none, _ => none
  | some s, rs => top s rs
def Fit : Option Int → Rs → Prop
  | none, rs => rs = []
  | some _, rs => Good (-1) rs
def spGreatest (K : PySem.W.Frag) : Sp := fun vs H Q _ => ∃ (b c : Bool) (st : Option Int) (r : Addr) (ps : List Addr) (rs : Rs), vs = [oV st, .ref r] ∧ Ris b c K H r ps rs ∧ Fit st rs ∧ Q (oV (tops st rs)) H
theorem ok_greatest_value (F : FnP K "greatest_value" s_greatest_value f fd) (m_len : mg "len" = none) : FnOk P w K mg base CX0 1 f fd P_greatest_value (spGreatest K) := by
  refine F.ok sc_greatest_value (fun vs H Q E h => ?_) (fun cdv A outer s H vs Q E hr h => ?_)
  · obtain ⟨b, c, st, r, ps, rs, rfl, _⟩ := h
    rfl
  · obtain ⟨b, c, st, r, ps, rs, rfl, hR, hg, q⟩ := h
    refine ⟨_, PSs.nox (pss_cons (ps_if (pt_cmpR op_isN (pv 0) pe_non (nomark _)) (pss_cons (ps_if (pt_cmpR op_gt (pe_callB call_len_seq (by rfl) m_len PySem.boot_len (pa_cons (pv 1) pa_nil)) pe_int (nomark _)) (pss_one ps_never) pss_nil)
      (pss_one (ps_ret pe_non))) pss_nil)
      (pss_cons (ps_par (i := 2) (j := 3) (by rfl) sc_greatest_value.nd rfl rfl (by decide) rfl rfl (pa_cons (pv 0) (pa_cons (pe_un un_neg pe_int) pa_nil)) (by rfl))
      (pss_cons (ps_for PassesOwn.never rfl (pi_seq (pv 1)) (pg_or (pg_unl rfl (pgs_cons (pg_name (i := 4) sc_greatest_value.nd rfl (by first | exact .inl rfl | exact .inr rfl)) (pgs_cons (pg_name (i := 5) sc_greatest_value.nd rfl (by first | exact .inl rfl | exact .inr rfl)) pgs_nil))) (pg_tup rfl (pgs_cons (pg_name (i := 4) sc_greatest_value.nd rfl (by first | exact .inl rfl | exact .inr rfl)) (pgs_cons (pg_name (i := 5) sc_greatest_value.nd rfl (by first | exact .inl rfl | exact .inr rfl)) pgs_nil))))
        (pss_cons (ps_if (PW.pt (pw_or (pt_cmpR op_isN (pv 3) pe_non (nomark _)) (pw_or (pt_cmpR op_le (pv 4) (pv 3) (nomark _)) (pw_or1 (PW.pt (pw_and (pt_cmpR op_notN (pv 5) pe_non (nomark _)) (pw_and1 (pt_cmpR op_le (pv 5) (pv 4) (nomark _))))))))) (pss_one ps_never) pss_nil)
      (pss_cons (ps_set (i := 2) sc_greatest_value.nd rfl (by first | exact .inl rfl | exact .inr rfl) (pe_ifExp (pt_cmpR op_isN (pv 5) pe_non (nomark _)) pe_non (pe_op op_sub (pe_op op_add (pv 2) (pv 5)) (pv 4))))
      (pss_one (ps_set (i := 3) sc_greatest_value.nd rfl (by first | exact .inl rfl | exact .inr rfl) (pv 5))))))
      (pss_one (ps_ret (pv 2)))))), ?_⟩
    cases st with
    | none =>
      have hg : rs = [] := hg
      subst hg
      walk_at "go"
      refine ⟨r, _, rfl, hR.1.or, ?_⟩
      walk_at "go"
      have e0 : ps = [] := List.length_eq_zero_iff.mp hR.2.1
      subst e0
      walk_at "go"
      refine ite2 (fun e => ?_) (fun e => ?_)
      · cases e
      walk_at "go"
      exact q
    | some s =>
      have hg : Good (-1) rs := hg
      walk_at "go"
      refine for_pairs (j := 1) hR (Same.refl H) (by rfl) (fun i σ H1 => H1 = H ∧ ∃ (t e : Option Int) (v4 v5 : Option V), σ = [some (.int s), some (.ref r), some (oV t), some (oV e), v4, v5] ∧ match t, e with
        | some t, some e => Good e (rs.drop i) ∧ top t (rs.drop i) = top s rs
        | t, none => rs.drop i = [] ∧ t = none ∧ top s rs = none
        | none, some e => False) ⟨rfl, some s, some (-1), none, none, rfl, hg, rfl⟩ ?_ ?_ ?_
      · rintro i σ H1 ⟨rfl, _⟩
        exact Same.refl _
      · rintro i l h σ H1 hi ⟨rfl, t, e, v4, v5, rfl, z⟩
        have hd : rs.drop i = (l, h) :: rs.drop (i + 1) := by
          rw [List.drop_eq_getElem?_toList_append, hi]
          rfl
        rw [hd] at z
        cases e with
        | none => cases t <;> cases z.1
        | some e =>
          cases t with
          | none => cases z
          | some t =>
            obtain ⟨z1, z2⟩ := z
            have z0 : e < l := by cases h <;> exact z1.1
            walk_at "go"
            refine ite2 (fun e => ?_) (fun e => ?_)
            · have := of_decide_eq_true e
              omega
            · cases h with
              | none =>
                walk_at "go"
                exact ⟨none, none, _, _, rfl, z1.2, rfl, z2.symm⟩
              | some y =>
                walk_at "go"
                refine ite2 (fun e => ?_) (fun e => ?_)
                · have := of_decide_eq_true e
                  have := z1.2.1
                  omega
                · walk_at "go"
                  exact ⟨some (t + y - l), some y, _, _, rfl, z1.2.2, z2⟩
      · rintro σ H1 ⟨rfl, t, e, v4, v5, rfl, z⟩
        rw [List.drop_length] at z
        walk_at "go"
        have et : t = top s rs := by
          cases e with
          | none => cases t <;> rw [z.2.2] <;> first | rfl | exact z.2.1
          | some e =>
            cases t with
            | none => cases z
            | some t => exact z.2
        rw [et]
        exact q
/-! ### flat_point -/
theorem fp_cons (l : Int) (h : Option Int) (r : Rs) (t e : Int) : fp ((l, h) :: r) t e = if t ≤ l - e then some (e + t) else match h with
    | none => none
    | some x => fp r (t - (l - e)) x := rfl
def spFlat (K : PySem.W.Frag) : Sp := fun vs H Q _ => ∃ (b c : Bool) (m : Int) (r : Addr) (ps : List Addr) (rs : Rs), vs = [.ref r, .int m] ∧ Ris b c K H r ps rs ∧ Q (oV (fp rs m 0)) H
theorem ok_flat_point (F : FnP K "flat_point" s_flat_point f fd) : FnOk P w K mg base CX0 1 f fd P_flat_point (spFlat K) := by
  refine F.ok sc_flat_point (fun vs H Q E h => ?_) (fun cdv A outer s H vs Q E hr h => ?_)
  · obtain ⟨b, c, m, r, ps, rs, rfl, _⟩ := h
    rfl
  · obtain ⟨b, c, m, r, ps, rs, rfl, hR, q⟩ := h
    refine ⟨_, PSs.nox (pss_cons (ps_par (i := 2) (j := 3) (by rfl) sc_flat_point.nd rfl rfl (by decide) rfl rfl (pa_cons (pv 1) (pa_cons pe_int pa_nil)) (by rfl))
      (pss_cons (ps_for PassesOwn.never rfl (pi_seq (pv 0)) (pg_or (pg_unl rfl (pgs_cons (pg_name (i := 4) sc_flat_point.nd rfl (by first | exact .inl rfl | exact .inr rfl)) (pgs_cons (pg_name (i := 5) sc_flat_point.nd rfl (by first | exact .inl rfl | exact .inr rfl)) pgs_nil))) (pg_tup rfl (pgs_cons (pg_name (i := 4) sc_flat_point.nd rfl (by first | exact .inl rfl | exact .inr rfl)) (pgs_cons (pg_name (i := 5) sc_flat_point.nd rfl (by first | exact .inl rfl | exact .inr rfl)) pgs_nil))))
        (pss_cons (ps_if (pt_cmpR op_ge (pe_op op_sub (pv 4) (pv 3)) (pv 2) (nomark _)) (pss_one (ps_ret (pe_op op_add (pv 3) (pv 2)))) pss_nil)
      (pss_cons (ps_if (pt_cmpR op_isN (pv 5) pe_non (nomark _)) (pss_one (ps_ret pe_non)) pss_nil)
      (pss_cons (ps_set (i := 2) sc_flat_point.nd rfl (by first | exact .inl rfl | exact .inr rfl) (pe_op op_sub (pv 2) (pe_op op_sub (pv 4) (pv 3))))
      (pss_one (ps_set (i := 3) sc_flat_point.nd rfl (by first | exact .inl rfl | exact .inr rfl) (pv 5)))))))
      (pss_one (ps_ret (pe_op op_add (pv 3) (pv 2)))))), ?_⟩
    walk_at "go"
    refine for_pairs (j := 0) hR (Same.refl H) (by rfl) (fun i σ H1 => H1 = H ∧ ∃ (t e : Int) (v4 v5 : Option V), σ = [some (.ref r), some (.int m), some (.int t), some (.int e), v4, v5] ∧ fp (rs.drop i) t e = fp rs m 0) ⟨rfl, _, _, none, none, rfl, rfl⟩ ?_ ?_ ?_
    · rintro i σ H1 ⟨rfl, _⟩
      exact Same.refl _
    · rintro i l h σ H1 hi ⟨rfl, t, e, v4, v5, rfl, z⟩
      have hd : rs.drop i = (l, h) :: rs.drop (i + 1) := by
        rw [List.drop_eq_getElem?_toList_append, hi]
        rfl
      rw [hd] at z
      rw [fp_cons] at z
      walk_at "go"
      refine ite2 (fun e1 => ?_) (fun e1 => ?_)
      · have := of_decide_eq_true e1
        rw [if_pos this] at z
        walk_at "go"
        rw [← z] at q
        exact q
      · have : ¬ t ≤ l - e := fun z => e1 (decide_eq_true z)
        rw [if_neg this] at z
        cases h with
        | none =>
          walk_at "go"
          refine ite2 (fun e2 => ?_) (fun e2 => absurd rfl e2)
          walk_at "go"
          rw [← z] at q
          exact q
        | some y =>
          walk_at "go"
          exact ⟨_, _, _, _, rfl, z⟩
    · rintro σ H1 ⟨rfl, t, e, v4, v5, rfl, z⟩
      rw [List.drop_length] at z
      walk_at "go"
      rw [← z] at q
      exact q
end
end Z
set_option Elab.async false
set_option linter.all false
set_option maxRecDepth 100000
set_option maxHeartbeats 4000000
namespace Z
open Nd
open PySem PySem.Spec PyProof.Rows L2
open C8 (pss_cut tCut)
local macro_rules | `(tactic| walk_at "num") => `(tactic| first | rfl | omega | decide | exact Nat.le_of_lt (small1000 (by simp)) | exact ⟨by omega, by omega⟩ | exact ⟨by omega, by omega, by omega⟩ | exact ⟨by decide, by decide, by decide⟩ | exact Or.inl ⟨by omega, by omega⟩ | exact Or.inr ⟨by omega, by omega⟩)
local macro_rules | `(tactic| walk_at "go") => `(tactic| repeat (first | refine ⟨_, rfl, ?_⟩ | refine ⟨_, _, rfl, rfl, ?_⟩ | refine ⟨_, _, rfl, ?_⟩ | refine ⟨_, _, rfl, rfl, (by walk_at "num"), ?_⟩ | refine Or.inl ⟨_, rfl, ?_⟩ | refine ⟨_, _, _, _, rfl, rfl, (by assumption), (by rfl), ?_⟩ | refine ⟨_, _, _, _, _, rfl, (by assumption), (by assumption), (by assumption), (by rfl), ?_⟩ | refine ⟨rfl, ?_⟩ | refine And.intro (by walk_at "num") ?_))
/-- the comprehension that copies the pairs -/
theorem lc_copy {b c : Bool} {K : PySem.W.Frag} {a D : Addr} {ps : List Addr} {rs : Rs} {H0 : Hp} {i j : Nat} {te : TE} {vs : List Nat} {σ : L2.St} {Qd : Hp → Prop} (hR : Ris b c K H0 a ps rs) (hb : rs.length ≤ 100000) (nD : H0 D = none)
    (hw : ∀ x y : V, wipe (((wipe σ vs).set i (some x)).set j (some y)) vs = wipe σ vs)
    (ht : ∀ x y H1 (Q : VK), Same H0 H1 → (∀ T, H1 T = none → Q (.ref T) (upd H1 T (.tup [.int x, oV y]))) → te (((wipe σ vs).set i (some (.int x))).set j (some (oV y))) H1 Q)
    (hd : ∀ H1 (qs : List Addr), Same H0 H1 → H1 D = some (.lst (qs.map V.ref)) → qs.length = rs.length → (∀ (k : Nat) (p : Addr) (q : Int × Option Int), qs[k]? = some p → rs[k]? = some q → H1 p = some (.tup [.int q.1, oV q.2])) → Qd H1) : lcW (ItS b K a) (gPair K i j) tYes te vs σ D Qd H0 := by
  refine lc_gen (n := rs.length) (fun k H1 => Same H0 H1 ∧ ∃ qs : List Addr, H1 D = some (.lst (qs.map V.ref)) ∧ qs.length = k ∧ ∀ (k : Nat) (p : Addr) (q : Int × Option Int), qs[k]? = some p → rs[k]? = some q → H1 p = some (.tup [.int q.1, oV q.2])) ⟨same_new nD, [], upd_same, rfl, fun k p q h => nomatch h⟩ ?_ ?_ ?_ ?_
  · rintro k H1 hk ⟨s, _⟩
    have hi2 : k < ps.length := by rw [hR.2.1]; exact hk
    exact its_go (x := .ref ps[k]) (Z.Same.sqK s hR.1) (by rw [List.getElem?_map, List.getElem?_eq_getElem hi2]; rfl)
  · rintro H1 ⟨s, _⟩
    exact its_stop (Z.Same.sqK s hR.1) (by rw [List.length_map, hR.2.1]; exact Nat.le_refl _)
  · rintro k H1 v H' hk ⟨s, qs, eD, el, eq⟩ y
    obtain ⟨rfl, ex⟩ := its_yld (Z.Same.sqK s hR.1) y
    obtain ⟨p, ep, rfl⟩ := of_map ex
    have er : rs[k]? = some (rs[k].1, rs[k].2) := List.getElem?_eq_getElem hk
    refine gpair_of (Z.Same.sqK s (hR.2.2 k p _ ep er)) ⟨hw _ _, ?_⟩
    refine ht _ _ _ _ s (fun T nT => ?_)
    have sT : Same H' (upd H' T (.tup [.int rs[k].1, oV rs[k].2])) := same_new nT
    refine ⟨_, sT _ _ eD, ?_, ?_, qs ++ [T], ?_, ?_, ?_⟩
    · rw [List.length_map, el]
      exact Nat.lt_of_lt_of_le hk (Nat.le_trans hb (by decide))
    · exact Z.Same.mut (s.trans sT) nD
    · rw [upd_same, List.map_append]
      rfl
    · rw [List.length_append, el]
      rfl
    · intro k2 p2 q2 h1 h2
      have tD : T ≠ D := (ne_of_none eD nT).symm
      by_cases hlt : k2 < qs.length
      · rw [List.getElem?_append_left hlt] at h1
        have z := eq k2 p2 q2 h1 h2
        have pD : p2 ≠ D := fun e => by
          rw [e, eD] at z
          cases z
        rw [upd_ne pD]
        exact sT _ _ z
      · rw [List.getElem?_append_right (by omega)] at h1
        have h3 : k2 - qs.length = 0 := by
          have := (List.getElem?_eq_some_iff.mp h1).1
          simp at this
          omega
        rw [h3] at h1
        obtain rfl : T = p2 := Option.some.inj h1
        have h4 : k2 = k := by omega
        subst h4
        rw [er] at h2
        obtain rfl := Option.some.inj h2
        rw [upd_ne tD, upd_same]
  · rintro H1 ⟨s, qs, eD, el, eq⟩
    exact hd H1 qs s eD el eq
theorem sq_ins {b : Bool} {K : PySem.W.Frag} {H H' : Hp} {n C dx a : Addr} {fs : List (Str × V)} {xs : List V} (s : SB n H H') (hn : H n = some (.ins C dx fs)) (h : SqK b K H a xs) : SqK b K H' a xs := by
  have ne : ∀ {o : HO}, H a = some o → (∀ C dx fs, o ≠ .ins C dx fs) → a ≠ n := fun e z w => by
    rw [w, hn] at e
    exact z _ _ _ (Option.some.inj e).symm
  cases b
  · rcases h with (h | ⟨o, h⟩) | h
    · exact .inl (.inl (s _ _ (ne h fun _ _ _ => nofun) h))
    · exact .inl (.inr ⟨o, s _ _ (ne h fun _ _ _ => nofun) h⟩)
    · exact .inr h
  · rcases h with (h | ⟨o, h⟩) | h
    · exact .inl (.inl (s _ _ (ne h fun _ _ _ => nofun) h))
    · exact .inl (.inr ⟨o, s _ _ (ne h fun _ _ _ => nofun) h⟩)
    · exact .inr h
theorem Ris.ins {b c : Bool} {K : PySem.W.Frag} {H H' : Hp} {n C dx a : Addr} {fs : List (Str × V)} {ps : List Addr} {rs : Rs} (s : SB n H H') (hn : H n = some (.ins C dx fs)) (r : Ris b c K H a ps rs) : Ris b c K H' a ps rs := ⟨sq_ins s hn r.1, r.2.1, fun i p q h1 h2 => sq_ins s hn (r.2.2 i p q h1 h2)⟩
section
variable {P : Program} {w : World} {K : PySem.W.Frag} {mg : Str → Option Value} {base : Heap} {f C : Addr} {fd : FuncData}
def Ok (st : Option Int) (rs : Rs) (nv : Option Int) : Prop := Fit st rs ∧ (∀ s, st = some s → 0 ≤ s) ∧ ∀ v, nv = some v → ∃ t, tops st rs = some t ∧ t ≤ v
/-! ### Need.__init__ -/
def spInit (C : Addr) (K : PySem.W.Frag) : Sp := fun vs H Q _ => ∃ (b c : Bool) (st nv : Option Int) (n dx r : Addr) (ps : List Addr) (rs : Rs), vs = [.ref n, oV st, .ref r, oV nv] ∧ H n = some (.ins C dx []) ∧ Ris b c K H r ps rs ∧ rs.length ≤ 100000 ∧ Ok st rs nv ∧
  ∀ H', SB n H H' → NeedAt C K H' n st rs nv → Q .non H'
theorem ok_init (F : FnM K "__init__" "Need.__init__" s_Need___init__ f fd) (cls : Cls K C) (n_start : NoAttr K C "start") (n_rises : NoAttr K C "rises") (n_never : NoAttr K C "never") (m_tuple : mg "tuple" = none) (c_greatest_value : Cal P w K mg base 1 "greatest_value" (spGreatest K)) : FnOk P w K mg base CX0 2 f fd P_Need___init__ (spInit C K) := by
  refine F.ok sc_Need___init__ (fun vs H Q E h => ?_) (fun cdv A outer s H vs Q E hr h => ?_)
  · obtain ⟨b, c, st, nv, n, dx, r, ps, rs, rfl, _⟩ := h
    rfl
  · obtain ⟨b, c, st, nv, n, dx, r, ps, rs, rfl, hn, hR, hb, ok, q⟩ := h
    refine ⟨_, PSs.nox (pss_cut (ps_if (PW.pt (pw_and (pt_cmpR op_notN (pv 1) pe_non (nomark _)) (pw_and1 (pt_cmpR op_lt (pv 1) pe_int (nomark _))))) (pss_one ps_never) pss_nil)
      (pss_cons (ps_set (i := 4) sc_Need___init__.nd rfl (by first | exact .inl rfl | exact .inr rfl) (pe_cl c_greatest_value hr (by decide) (by rfl) (pa_cons (pv 1) (pa_cons (pv 2) pa_nil))))
      (pss_cut (ps_if (PW.pt (pw_and (pt_cmpR op_notN (pv 3) pe_non (nomark _)) (pw_and1 (PW.pt (pw_or (pt_cmpR op_isN (pv 4) pe_non (nomark _)) (pw_or1 (pt_cmpR op_lt (pv 3) (pv 4) (nomark _)))))))) (pss_one ps_never) pss_nil)
      (pss_cons (ps_fld (pv 0) (pv 1) rfl)
      (pss_cons (ps_fld (pv 0) (pe_callTy call_tuple_of (by rfl) m_tuple (by decide +kernel) (pa_cons (pe_lc (own := [("low", 5), ("high", 6)]) (g := (gOr (gUnl K 2 (gCons (gName 5) (gCons (gName 6) gNil))) (gTup K 2 (gCons (gName 5) (gCons (gName 6) gNil))))) (tt := tYes) (by rfl) sc_Need___init__.nd (pi_seq (pv 2)) (blkOk_by (own := [("low", 5), ("high", 6)]) (N := N_Need___init__) (sc := defScope s_Need___init__) (by decide +kernel)) (fun _ _ _ _ _ => (pg_or (pg_unl rfl (pgs_cons (pg_name (i := 5) sc_Need___init__.nd rfl (by first | exact .inl rfl | exact .inr rfl)) (pgs_cons (pg_name (i := 6) sc_Need___init__.nd rfl (by first | exact .inl rfl | exact .inr rfl)) pgs_nil))) (pg_tup rfl (pgs_cons (pg_name (i := 5) sc_Need___init__.nd rfl (by first | exact .inl rfl | exact .inr rfl)) (pgs_cons (pg_name (i := 6) sc_Need___init__.nd rfl (by first | exact .inl rfl | exact .inr rfl)) pgs_nil))))) (fun _ _ _ _ _ => pts_nil) (fun _ _ _ _ _ => (pe_tup (pa_cons (pv 5) (pa_cons (pv 6) pa_nil))))) pa_nil)) rfl)
      (pss_one (ps_fld (pv 0) (pv 3) rfl))))))), ?_⟩
    refine cut_stay ?_ ?_
    · cases st with
      | none =>
        walk_at "go"
        rfl
      | some s =>
        walk_at "go"
        refine ite2 (fun e => ?_) (fun e => ?_)
        · have := of_decide_eq_true e
          have := ok.2.1 s rfl
          omega
        · exact ⟨rfl, rfl⟩
    walk_at "go"
    refine ⟨b, c, st, r, ps, rs, rfl, hR, ok.1, ?_⟩
    walk_at "go"
    refine cut_stay ?_ ?_
    · cases nv with
      | none =>
        walk_at "go"
        rfl
      | some v =>
        obtain ⟨t, e1, e2⟩ := ok.2.2 v rfl
        rw [e1]
        walk_at "go"
        refine ite2 (fun e => ?_) (fun e => ?_)
        · have := of_decide_eq_true e
          omega
        · walk_at "go"
          rfl
    walk_at "go"
    refine ⟨n, C, dx, _, rfl, hn, cls, n_start, by decide, ?_⟩
    walk_at "go"
    have s1 : SB n H (upd H n (.ins C dx [("start", oV st)])) := SB.upd (fun _ _ _ h => h)
    refine iSeq_of (b := b) (fun Q q => ⟨_, rfl, q⟩) (hR.ins s1 hn).1 ?_
    intro D nD
    refine lc_copy (hR.ins s1 hn) hb nD (fun _ _ => rfl) ?_ ?_
    · intro x y H1 Q1 s2 q1
      walk_at "go"
      exact q1
    · intro H1 qs s2 eD el eq
      walk_at "go"
      refine ⟨D, _, rfl, .inl ⟨.inl (.inl eD), fun t nt => ?_⟩⟩
      walk_at "go"
      have s3 : Same H1 (upd H1 t (.tup (qs.map V.ref))) := same_new nt
      have hn3 := s3 _ _ (s2 _ _ upd_same)
      have nt' : t ≠ n := (ne_of_none (s2 _ _ upd_same) nt).symm
      refine ⟨n, C, dx, _, rfl, hn3, cls, n_rises, (by show (1 : Nat) < 1000; decide), ?_⟩
      walk_at "go"
      refine ⟨n, C, dx, _, rfl, upd_same, cls, n_never, (by show (2 : Nat) < 1000; decide), ?_⟩
      walk_at "go"
      refine q _ ?_ ?_
      · exact SB.upd (SB.upd ((s1.trans (Z.Same.sb s2)).trans (Z.Same.sb s3)))
      · refine ⟨dx, t, qs, upd_same, ⟨?_, el, fun i p q h1 h2 => ?_⟩, ?_⟩
        · exact .inl (.inl (by rw [upd_ne nt', upd_ne nt', upd_same]))
        · have z := eq i p q h1 h2
          have pt : p ≠ t := ne_of_none z nt
          have pn : p ≠ n := fun e => by
            rw [e, s2 _ _ upd_same] at z
            cases z
          exact .inl (.inl (by rw [upd_ne pn, upd_ne pn, upd_ne pt, z]))
        · rw [upd_ne nt', upd_ne nt', upd_same]
/-! ### Need(..) -/
def spNeed (C : Addr) (K : PySem.W.Frag) : Sp := fun vs H Q _ => ∃ (b c : Bool) (st nv : Option Int) (r : Addr) (ps : List Addr) (rs : Rs), vs = [oV st, .ref r, oV nv] ∧ Ris b c K H r ps rs ∧ rs.length ≤ 100000 ∧ Ok st rs nv ∧
  ∀ n H', Same H H' → H n = none → NeedAt C K H' n st rs nv → Q (.ref n) H'
theorem mak_need {si : FnOk P w K mg base CX0 2 f fd P_Need___init__ (spInit C K)} (M : Mk K C f) (hm : mg "Need" = some (.ref C)) (hb : Binds K fd P_Need___init__ []) : Mak P w K mg base 2 "Need" (spNeed C K) := by
  refine ⟨C, f, fd, _, _, M, si, hm, hb, ?_⟩
  rintro vs H Q E ⟨b, c, st, nv, r, ps, rs, rfl, hR, hl, ok, q⟩ n dx n1 n2 n3
  have s1 : Same H (upd (upd H dx (.own n)) n (.ins C dx [])) := Z.Same.mut (same_new n2) n1
  exact ⟨b, c, st, nv, n, dx, r, ps, rs, rfl, upd_same, hR.mono s1, hl, ok, fun H' z1 z2 => ⟨rfl, q n H' (fun a o h => z1 a o (ne_of_none h n1) (s1 a o h)) n1 z2⟩⟩
/-! ### value_for, a call -/
def spCallN (C : Addr) (K : PySem.W.Frag) : Sp := fun vs H Q _ => ∃ (st nv k : Option Int) (n : Addr) (rs : Rs), vs = [.ref n, oV k] ∧ NeedAt C K H n st rs nv ∧ Ok st rs nv ∧ (∀ i, k = some i → 0 ≤ i) ∧ Q (oV (val st rs nv k)) H
theorem ok_value_for (F : FnM K "value_for" "Need.value_for" s_Need_value_for f fd) (cls : Cls K C) (n_start : NoAttr K C "start") (n_rises : NoAttr K C "rises") (n_never : NoAttr K C "never") (c_value_at : Cal P w K mg base 1 "value_at" (spValueAt K)) : FnOk P w K mg base CX0 2 f fd P_Need_value_for (spCallN C K) := by
  refine F.ok sc_Need_value_for (fun vs H Q E h => ?_) (fun cdv A outer s H vs Q E hr h => ?_)
  · obtain ⟨st, nv, k, n, rs, rfl, _⟩ := h
    rfl
  · obtain ⟨st, nv, k, n, rs, rfl, ⟨dx, r, ps, hn, hR, _⟩, ok, hk, q⟩ := h
    refine ⟨_, PSs.nox (pss_cons (ps_if (PW.pt (pw_or (pt_cmpR op_isN (pv 1) pe_non (nomark _)) (pw_or1 (pt_cmpR op_isN (pe_fld (pv 0) rfl) pe_non (nomark _))))) (pss_one (ps_ret (pe_fld (pv 0) rfl))) pss_nil)
      (pss_one (ps_ret (pe_cl c_value_at hr (by decide) (by rfl) (pa_cons (pe_fld (pv 0) rfl) (pa_cons (pe_fld (pv 0) rfl) (pa_cons (pv 1) pa_nil))))))), ?_⟩
    cases st with
    | none =>
      cases k with
      | none =>
        walk_at "go"
        exact q
      | some i =>
        walk_at "go"
        exact q
    | some s =>
      cases k with
      | none =>
        walk_at "go"
        exact q
      | some i =>
        walk_at "go"
        refine ⟨_, _, s, i, r, ps, rs, rfl, hR, ok.1, ?_⟩
        exact q
theorem ok_call (F : FnM K "__call__" "Need.__call__" s_Need___call__ f fd) (me_value_for : Met P w K mg base 2 C "value_for" (spCallN C K)) : FnOk P w K mg base CX0 3 f fd P_Need___call__ (spCallN C K) := by
  refine F.ok sc_Need___call__ (fun vs H Q E h => ?_) (fun cdv A outer s H vs Q E hr h => ?_)
  · obtain ⟨st, nv, k, n, rs, rfl, _⟩ := h
    rfl
  · obtain ⟨st, nv, k, n, rs, rfl, hN, ok, hk, q⟩ := h
    have hN2 := hN
    obtain ⟨dx, r, ps, hn, hR, _⟩ := hN2
    refine ⟨_, PSs.nox (pss_cut (ps_if (PW.pt (pw_and (pt_cmpR op_notN (pv 1) pe_non (nomark _)) (pw_and1 (pt_cmpR op_lt (pv 1) pe_int (nomark _))))) (pss_one ps_never) pss_nil)
      (pss_one (ps_ret (pe_me me_value_for (pv 0) hr (by decide) (pa_cons (pv 1) pa_nil))))), ?_⟩
    refine cut_stay ?_ ?_
    · cases k with
      | none =>
        walk_at "go"
        rfl
      | some i =>
        walk_at "go"
        refine ite2 (fun e => ?_) (fun e => ?_)
        · have := of_decide_eq_true e
          have := hk i rfl
          omega
        · exact ⟨rfl, rfl⟩
    walk_at "go"
    refine ⟨n, dx, _, rfl, hn, rfl, ?_⟩
    walk_at "go"
    exact ⟨st, nv, k, n, rs, rfl, hN, ok, hk, q⟩
end
end Z
set_option Elab.async false
set_option linter.all false
set_option maxRecDepth 100000
set_option maxHeartbeats 4000000
namespace Z
open Nd
open PySem PySem.Spec PyProof.Rows L2
open C8 (pss_cut tCut)
local macro_rules | `(tactic| walk_at "num") => `(tactic| first | rfl | omega | decide | exact Nat.le_of_lt (small1000 (by simp)) | exact ⟨by omega, by omega⟩ | exact ⟨by omega, by omega, by omega⟩ | exact ⟨by decide, by decide, by decide⟩ | exact Or.inl ⟨by omega, by omega⟩ | exact Or.inr ⟨by omega, by omega⟩)
local macro_rules | `(tactic| walk_at "go") => `(tactic| repeat (first | refine ⟨_, rfl, ?_⟩ | refine ⟨_, _, rfl, rfl, ?_⟩ | refine ⟨_, _, rfl, ?_⟩ | refine ⟨_, _, rfl, rfl, (by walk_at "num"), ?_⟩ | refine Or.inl ⟨_, rfl, ?_⟩ | refine ⟨_, _, _, _, rfl, rfl, (by assumption), (by rfl), ?_⟩ | refine ⟨_, _, _, _, _, rfl, (by assumption), (by assumption), (by assumption), (by rfl), ?_⟩ | refine ⟨rfl, ?_⟩ | refine And.intro (by walk_at "num") ?_))
theorem ris_nil {c : Bool} {K : PySem.W.Frag} {H : Hp} {a : Addr} (h : SqT K H a []) : Ris false c K H a [] [] := ⟨h, rfl, fun i p q h => nomatch h⟩
theorem ris_one {c : Bool} {K : PySem.W.Frag} {H : Hp} {a p : Addr} {x : Int} {y : Option Int} (h : SqT K H a [.ref p]) (h2 : SqK c K H p [.int x, oV y]) : Ris false c K H a [p] [(x, y)] := by
  refine ⟨h, rfl, fun i p2 q h3 h4 => ?_⟩
  cases i with
  | zero =>
    obtain rfl := Option.some.inj h3
    obtain rfl := Option.some.inj h4
    exact h2
  | succ i => cases h3
/-! ### mine, theirs, endless -/
abbrev Nn := Option Int × Rs × Option Int
def mineP (nv : Option Int) : Option Int → Nn
  | none => (some 0, [(0, none)], none)
  | some p => (some 0, if p > 1 then [(0, some (p - 1))] else [], nv.map fun _ => p - 1)
def theirsP : Option Int → Nn
  | none => (none, [], none)
  | some p => (some p, [(p, none)], none)
def endlessP (p : Option Int) : Nn := (p, [], p)
def pt (d : Int) (st : Option Int) (rs : Rs) : Option Int := match st with
  | none => none
  | some s => fp rs (s + d) 0
theorem fp_pos {rs : Rs} {A p : Int} (g : Good (-1) rs) (hA : 0 ≤ A) (h : fp rs A 0 = some p) : 0 ≤ p := by
  have z := fp_spec (rs := rs) (A := A) (E := 0) g hA
  rw [h] at z
  exact z.1
theorem pt_pos {d : Int} {st nv : Option Int} {rs : Rs} {p : Int} (ok : Ok st rs nv) (hd : 0 ≤ d) (h : pt d st rs = some p) : 0 ≤ p := by
  cases st with
  | none => cases h
  | some s =>
    have := ok.2.1 s rfl
    exact fp_pos ok.1 (by omega) h
theorem pt_pos1 {st nv : Option Int} {rs : Rs} {p : Int} (ok : Ok st rs nv) (h : pt 1 st rs = some p) : 1 ≤ p := by
  cases st with
  | none => cases h
  | some s =>
    have hs := ok.2.1 s rfl
    have z := grt_spec (s := s) (rs := rs) ok.1 hs
    have h : fp rs (s + 1) 0 = some p := h
    unfold grt at z
    rw [h] at z
    have z1 : 0 ≤ p - 1 := z.1
    omega
theorem pt0 (s : Int) (rs : Rs) : pt 0 (some s) rs = fp rs s 0 := congrArg (fun x => fp rs x 0) (Int.add_zero s)
theorem mine_ok {st nv : Option Int} {rs : Rs} (ok : Ok st rs nv) : Ok (mineP nv (pt 1 st rs)).1 (mineP nv (pt 1 st rs)).2.1 (mineP nv (pt 1 st rs)).2.2 := by
  cases e : pt 1 st rs with
  | none => exact ⟨⟨by omega, rfl⟩, fun s h => by cases h; omega, nofun⟩
  | some p =>
    have hp := pt_pos1 ok e
    show Ok (some 0) (if p > 1 then [(0, some (p - 1))] else []) (nv.map fun _ => p - 1)
    by_cases c : p > 1
    · rw [if_pos c]
      refine ⟨⟨by omega, by omega, trivial⟩, fun s h => by cases h; omega, fun v h => ?_⟩
      cases nv with
      | none => cases h
      | some w => cases h; exact ⟨0 + (p - 1) - 0, rfl, by show 0 + (p - 1) - 0 ≤ p - 1; omega⟩
    · rw [if_neg c]
      refine ⟨trivial, fun s h => by cases h; omega, fun v h => ?_⟩
      cases nv with
      | none => cases h
      | some w => cases h; exact ⟨0, rfl, by show 0 ≤ p - 1; omega⟩
theorem theirs_ok {st nv : Option Int} {rs : Rs} (ok : Ok st rs nv) : Ok (theirsP (pt 0 st rs)).1 (theirsP (pt 0 st rs)).2.1 (theirsP (pt 0 st rs)).2.2 := by
  cases e : pt 0 st rs with
  | none => exact ⟨rfl, nofun, nofun⟩
  | some p =>
    have hp := pt_pos ok (by omega) e
    exact ⟨⟨by omega, rfl⟩, fun s h => by cases h; omega, nofun⟩
theorem endless_ok {st nv : Option Int} {rs : Rs} (ok : Ok st rs nv) : Ok (endlessP (pt 0 st rs)).1 (endlessP (pt 0 st rs)).2.1 (endlessP (pt 0 st rs)).2.2 := by
  cases e : pt 0 st rs with
  | none => exact ⟨rfl, nofun, nofun⟩
  | some p =>
    have hp := pt_pos ok (by omega) e
    exact ⟨trivial, fun s h => by cases h; omega, fun v h => by cases h; exact ⟨p, rfl, by omega⟩⟩
section
variable {P : Program} {w : World} {K : PySem.W.Frag} {mg : Str → Option Value} {base : Heap} {f C : Addr} {fd : FuncData}
def spUn (R : Option Int → Rs → Option Int → Nn) (C : Addr) (K : PySem.W.Frag) : Sp := fun vs H Q _ => ∃ (st nv : Option Int) (n : Addr) (rs : Rs), vs = [.ref n] ∧ NeedAt C K H n st rs nv ∧ Ok st rs nv ∧
  ∀ n' H', Same H H' → NeedAt C K H' n' (R st rs nv).1 (R st rs nv).2.1 (R st rs nv).2.2 → Q (.ref n') H'
abbrev spMine := spUn fun st rs nv => mineP nv (pt 1 st rs)
abbrev spTheirs := spUn fun st rs _ => theirsP (pt 0 st rs)
abbrev spEndless := spUn fun st rs _ => endlessP (pt 0 st rs)
theorem ok_endless (F : FnM K "endless" "Need.endless" s_Need_endless f fd) (cls : Cls K C) (n_start : NoAttr K C "start") (n_rises : NoAttr K C "rises") (n_never : NoAttr K C "never") (c_flat_point : Cal P w K mg base 1 "flat_point" (spFlat K)) (k_Need : Mak P w K mg base 2 "Need" (spNeed C K)) : FnOk P w K mg base CX0 4 f fd P_Need_endless (spEndless C K) := by
  refine F.ok sc_Need_endless (fun vs H Q E h => ?_) (fun cdv A outer s H vs Q E hr h => ?_)
  · obtain ⟨st, nv, n, rs, rfl, _⟩ := h
    rfl
  · obtain ⟨st, nv, n, rs, rfl, ⟨dx, r, ps, hn, hR, _⟩, ok, q⟩ := h
    refine ⟨_, PSs.nox (pss_cut (ps_set (i := 1) sc_Need_endless.nd rfl (by first | exact .inl rfl | exact .inr rfl) (pe_ifExp (pt_cmpR op_isN (pe_fld (pv 0) rfl) pe_non (nomark _)) pe_non (pe_cl c_flat_point hr (by decide) (by rfl) (pa_cons (pe_fld (pv 0) rfl) (pa_cons (pe_fld (pv 0) rfl) pa_nil)))))
      (pss_one (ps_ret (pe_mk k_Need hr (by decide) (by rfl) (pa_cons (pv 1) (pa_cons (pe_tup pa_nil) (pa_cons (pv 1) pa_nil))))))), ?_⟩
    refine ⟨fun σ' H' => σ' = [some (.ref n), some (oV (pt 0 st rs))] ∧ H' = H, ?_, ?_⟩
    · cases st with
      | none =>
        walk_at "go"
        rfl
      | some s =>
        rw [pt0]
        walk_at "go"
        exact ⟨false, false, _, r, ps, rs, rfl, hR, rfl, rfl⟩
    · rintro σ' H' ⟨rfl, rfl⟩
      walk_at "go"
      intro p np
      walk_at "go"
      have s1 : Same H' (upd H' p (.tup [])) := same_new np
      refine ⟨false, false, pt 0 st rs, pt 0 st rs, p, [], [], rfl, ris_nil (.inl (.inl upd_same)), by decide, endless_ok ok, fun n' H2 s2 _ h2 => ?_⟩
      exact q n' H2 (s1.trans s2) h2
theorem ok_theirs (F : FnM K "theirs" "Need.theirs" s_Need_theirs f fd) (cls : Cls K C) (n_start : NoAttr K C "start") (n_rises : NoAttr K C "rises") (n_never : NoAttr K C "never") (c_flat_point : Cal P w K mg base 1 "flat_point" (spFlat K)) (k_Need : Mak P w K mg base 2 "Need" (spNeed C K)) : FnOk P w K mg base CX0 4 f fd P_Need_theirs (spTheirs C K) := by
  refine F.ok sc_Need_theirs (fun vs H Q E h => ?_) (fun cdv A outer s H vs Q E hr h => ?_)
  · obtain ⟨st, nv, n, rs, rfl, _⟩ := h
    rfl
  · obtain ⟨st, nv, n, rs, rfl, ⟨dx, r, ps, hn, hR, _⟩, ok, q⟩ := h
    refine ⟨_, PSs.nox (pss_cut (ps_set (i := 1) sc_Need_theirs.nd rfl (by first | exact .inl rfl | exact .inr rfl) (pe_ifExp (pt_cmpR op_isN (pe_fld (pv 0) rfl) pe_non (nomark _)) pe_non (pe_cl c_flat_point hr (by decide) (by rfl) (pa_cons (pe_fld (pv 0) rfl) (pa_cons (pe_fld (pv 0) rfl) pa_nil)))))
      (pss_cons (ps_if (pt_cmpR op_isN (pv 1) pe_non (nomark _)) (pss_one (ps_ret (pe_mk k_Need hr (by decide) (by rfl) (pa_cons pe_non (pa_cons (pe_tup pa_nil) (pa_cons pe_non pa_nil)))))) pss_nil)
      (pss_one (ps_ret (pe_mk k_Need hr (by decide) (by rfl) (pa_cons (pv 1) (pa_cons (pe_tup (pa_cons (pe_tup (pa_cons (pv 1) (pa_cons pe_non pa_nil))) pa_nil)) (pa_cons pe_non pa_nil)))))))), ?_⟩
    refine ⟨fun σ' H' => σ' = [some (.ref n), some (oV (pt 0 st rs))] ∧ H' = H, ?_, ?_⟩
    · cases st with
      | none =>
        walk_at "go"
        rfl
      | some s =>
        rw [pt0]
        walk_at "go"
        exact ⟨false, false, _, r, ps, rs, rfl, hR, rfl, rfl⟩
    · rintro σ' H' ⟨rfl, rfl⟩
      have ok2 := theirs_ok ok
      cases e : pt 0 st rs with
      | none =>
        dsimp only at q
        rw [e] at q ok2
        walk_at "go"
        intro p np
        walk_at "go"
        have s1 : Same H' (upd H' p (.tup [])) := same_new np
        refine ⟨false, false, none, none, p, [], [], rfl, ris_nil (.inl (.inl upd_same)), by decide, ok2, fun n' H2 s2 _ h2 => ?_⟩
        exact q n' H2 (s1.trans s2) h2
      | some z =>
        dsimp only at q
        rw [e] at q ok2
        walk_at "go"
        intro p np
        walk_at "go"
        intro p2 np2
        walk_at "go"
        have s1 : Same H' (upd H' p (.tup [.int z, .non])) := same_new np
        have s2 := same_new (o := .tup [.ref p]) np2
        refine ⟨false, false, some z, none, p2, [p], [(z, none)], rfl, ris_one (.inl (.inl upd_same)) (.inl (.inl (s2 _ _ upd_same))), (by show (1 : Nat) ≤ 100000; decide), ok2, fun n' H2 s3 _ h2 => ?_⟩
        exact q n' H2 ((s1.trans s2).trans s3) h2
theorem ok_mine (F : FnM K "mine" "Need.mine" s_Need_mine f fd) (cls : Cls K C) (n_start : NoAttr K C "start") (n_rises : NoAttr K C "rises") (n_never : NoAttr K C "never") (c_flat_point : Cal P w K mg base 1 "flat_point" (spFlat K)) (k_Need : Mak P w K mg base 2 "Need" (spNeed C K)) : FnOk P w K mg base CX0 4 f fd P_Need_mine (spMine C K) := by
  refine F.ok sc_Need_mine (fun vs H Q E h => ?_) (fun cdv A outer s H vs Q E hr h => ?_)
  · obtain ⟨st, nv, n, rs, rfl, _⟩ := h
    rfl
  · obtain ⟨st, nv, n, rs, rfl, ⟨dx, r, ps, hn, hR, _⟩, ok, q⟩ := h
    refine ⟨_, PSs.nox (pss_cut (ps_set (i := 1) sc_Need_mine.nd rfl (by first | exact .inl rfl | exact .inr rfl) (pe_ifExp (pt_cmpR op_isN (pe_fld (pv 0) rfl) pe_non (nomark _)) pe_non (pe_cl c_flat_point hr (by decide) (by rfl) (pa_cons (pe_fld (pv 0) rfl) (pa_cons (pe_op op_add (pe_fld (pv 0) rfl) pe_int) pa_nil)))))
      (pss_cons (ps_if (pt_cmpR op_isN (pv 1) pe_non (nomark _)) (pss_one (ps_ret (pe_mk k_Need hr (by decide) (by rfl) (pa_cons pe_int (pa_cons (pe_tup (pa_cons (pe_tup (pa_cons pe_int (pa_cons pe_non pa_nil))) pa_nil)) (pa_cons pe_non pa_nil)))))) pss_nil)
      (pss_cut (ps_set (i := 2) sc_Need_mine.nd rfl (by first | exact .inl rfl | exact .inr rfl) (pe_ifExp (pt_cmpR op_gt (pv 1) pe_int (nomark _)) (pe_tup (pa_cons (pe_tup (pa_cons pe_int (pa_cons (pe_op op_sub (pv 1) pe_int) pa_nil))) pa_nil)) (pe_tup pa_nil)))
      (pss_one (ps_ret (pe_mk k_Need hr (by decide) (by rfl) (pa_cons pe_int (pa_cons (pv 2) (pa_cons (pe_ifExp (pt_cmpR op_isN (pe_fld (pv 0) rfl) pe_non (nomark _)) pe_non (pe_op op_sub (pv 1) pe_int)) pa_nil))))))))), ?_⟩
    refine ⟨fun σ' H' => σ' = [some (.ref n), some (oV (pt 1 st rs)), none] ∧ H' = H, ?_, ?_⟩
    · cases st with
      | none =>
        walk_at "go"
        rfl
      | some s =>
        walk_at "go"
        exact ⟨false, false, _, r, ps, rs, rfl, hR, rfl, rfl⟩
    · rintro σ' H' ⟨rfl, rfl⟩
      have ok2 := mine_ok ok
      cases e : pt 1 st rs with
      | none =>
        dsimp only at q
        rw [e] at q ok2
        walk_at "go"
        intro p np
        walk_at "go"
        intro p2 np2
        walk_at "go"
        have s1 : Same H' (upd H' p (.tup [.int 0, .non])) := same_new np
        have s2 := same_new (o := .tup [.ref p]) np2
        refine ⟨false, false, some 0, none, p2, [p], [(0, none)], rfl, ris_one (.inl (.inl upd_same)) (.inl (.inl (s2 _ _ upd_same))), (by decide), ok2, fun n' H2 s3 _ h2 => ?_⟩
        exact q n' H2 ((s1.trans s2).trans s3) h2
      | some z =>
        dsimp only at q
        rw [e] at q ok2
        walk_at "go"
        refine ite2 (fun e => nomatch (of_decide_eq_true e)) (fun e => ?_)
        refine ⟨fun σ' H1 => ∃ (r2 : Addr) (ps2 : List Addr), σ' = [some (.ref n), some (.int z), some (.ref r2)] ∧ Same H' H1 ∧ Ris false false K H1 r2 ps2 (if z > 1 then [(0, some (z - 1))] else []), ?_, ?_⟩
        · walk_at "go"
          refine ite2 (fun e => ?_) (fun e => ?_)
          · have hz : z > 1 := of_decide_eq_true e
            rw [if_pos hz]
            walk_at "go"
            intro p np
            walk_at "go"
            intro p2 np2
            walk_at "go"
            have s1 : Same H' (upd H' p (.tup [.int 0, .int (z - 1)])) := same_new np
            have s2 := same_new (o := .tup [.ref p]) np2
            exact ⟨_, _, rfl, s1.trans s2, ris_one (.inl (.inl upd_same)) (.inl (.inl (s2 _ _ upd_same)))⟩
          · have hz : ¬ z > 1 := fun z => e (decide_eq_true z)
            rw [if_neg hz]
            walk_at "go"
            intro p np
            walk_at "go"
            exact ⟨_, _, rfl, same_new np, ris_nil (.inl (.inl upd_same))⟩
        · rintro σ' H1 ⟨r2, ps2, rfl, s1, hR2⟩
          have hn1 := s1 _ _ hn
          have hl : (if z > 1 then [((0 : Int), some (z - 1))] else []).length ≤ 100000 := by split <;> simp
          cases nv with
          | none =>
            walk_at "go"
            refine ⟨false, false, some 0, none, r2, ps2, _, rfl, hR2, hl, ok2, fun n' H2 s3 _ h2 => ?_⟩
            exact q n' H2 (s1.trans s3) h2
          | some v =>
            walk_at "go"
            refine ⟨false, false, some 0, some (z - 1), r2, ps2, _, rfl, hR2, hl, ok2, fun n' H2 s3 _ h2 => ?_⟩
            exact q n' H2 (s1.trans s3) h2
end
end Z
set_option Elab.async false
set_option linter.all false
set_option maxRecDepth 100000
set_option maxHeartbeats 4000000
namespace Z
open Nd
open PySem PySem.Spec PyProof.Rows L2
open C8 (pss_cut tCut)
local macro_rules | `(tactic| walk_at "num") => `(tactic| first | rfl | omega | decide | exact Nat.le_of_lt (small1000 (by simp)) | exact ⟨by omega, by omega⟩ | exact ⟨by omega, by omega, by omega⟩ | exact ⟨by decide, by decide, by decide⟩ | exact Or.inl ⟨by omega, by omega⟩ | exact Or.inr ⟨by omega, by omega⟩)
local macro_rules | `(tactic| walk_at "go") => `(tactic| repeat (first | refine ⟨_, rfl, ?_⟩ | refine ⟨_, _, rfl, rfl, ?_⟩ | refine ⟨_, _, rfl, ?_⟩ | refine ⟨_, _, rfl, rfl, (by walk_at "num"), ?_⟩ | refine Or.inl ⟨_, rfl, ?_⟩ | refine ⟨_, _, _, _, rfl, rfl, (by assumption), (by rfl), ?_⟩ | refine ⟨_, _, _, _, _, rfl, (by assumption), (by assumption), (by assumption), (by rfl), ?_⟩ | refine ⟨rfl, ?_⟩ | refine And.intro (by walk_at "num") ?_))
/-! ### == of pairs, of needs -/
def oD : Option Int → PyData
  | none => .none
  | some i => .int i
def pairD (c : Bool) (q : Int × Option Int) : PyData := match c with
  | true => .list [.int q.1, oD q.2]
  | false => .tuple [.int q.1, oD q.2]
def risD (b c : Bool) (rs : Rs) : PyData := match b with
  | true => .list (rs.map (pairD c))
  | false => .tuple (rs.map (pairD c))
theorem dp_o {K : PySem.W.Frag} {H : Hp} : ∀ o : Option Int, Dp K H (oV o) (oD o)
  | none => .non
  | some i => .int i
theorem dpa_pair {K : PySem.W.Frag} {H : Hp} (q : Int × Option Int) : DpAll K H [.int q.1, oV q.2] [.int q.1, oD q.2] := .cons (.int _) (.cons (dp_o _) .nil)
theorem dp_pair {c : Bool} {K : PySem.W.Frag} {H : Hp} {p : Addr} {q : Int × Option Int} (h : SqK c K H p [.int q.1, oV q.2]) : Dp K H (.ref p) (pairD c q) := by
  cases c
  · exact dp_sq (b := false) h (dpa_pair q)
  · exact dp_sq (b := true) h (dpa_pair q)
theorem dpa_ris {c : Bool} {K : PySem.W.Frag} {H : Hp} : ∀ (ps : List Addr) (rs : Rs), ps.length = rs.length → (∀ (i : Nat) (p : Addr) (q : Int × Option Int), ps[i]? = some p → rs[i]? = some q → SqK c K H p [.int q.1, oV q.2]) → DpAll K H (ps.map V.ref) (rs.map (pairD c))
  | [], [], _, _ => .nil
  | p :: ps, r :: rs, hl, h => .cons (dp_pair (h 0 p r rfl rfl)) (dpa_ris ps rs (by simpa using hl) fun i q s h1 h2 => h (i + 1) q s h1 h2)
theorem Ris.dp {b c : Bool} {K : PySem.W.Frag} {H : Hp} {a : Addr} {ps : List Addr} {rs : Rs} (m : Ris b c K H a ps rs) : Dp K H (.ref a) (risD b c rs) := by
  cases b
  · exact dp_sq (b := false) m.1 (dpa_ris ps rs m.2.1 m.2.2)
  · exact dp_sq (b := true) m.1 (dpa_ris ps rs m.2.1 m.2.2)
theorem shaped_pair (c : Bool) (q : Int × Option Int) : SeqAt.shaped (pairD c q) = true := by
  obtain ⟨l, h⟩ := q
  cases c <;> cases h <;> rfl
theorem dep_pair (c : Bool) (q : Int × Option Int) : (pairD c q).depth = 1 := by
  obtain ⟨l, h⟩ := q
  cases c <;> cases h <;> rfl
theorem lay_ris (c : Bool) : ∀ rs : Rs, PyData.canLayAll0 (rs.map (pairD c)) = true
  | [] => rfl
  | n :: r => by
    rw [List.map_cons, PyData.canLayAll0, lay_ris c r, SeqAt.canLay_of_shaped (shaped_pair c n)]
    rfl
theorem dep_ris (c : Bool) : ∀ rs : Rs, PyData.depthAll (rs.map (pairD c)) ≤ 1
  | [] => Nat.zero_le _
  | n :: r => by
    rw [List.map_cons, PyData.depthAll]
    have h := dep_ris c r
    have h2 := dep_pair c n
    omega
theorem shaped_ris (b c : Bool) (rs : Rs) : SeqAt.shaped (risD b c rs) = true := by
  have h := dep_ris c rs
  unfold SeqAt.shaped risD
  cases b
  · show (PyData.canLayAll0 (rs.map (pairD c)) && decide (PyData.depthAll (rs.map (pairD c)) + 1 ≤ 64)) = true
    rw [lay_ris, decide_eq_true (by omega)]
    rfl
  · show (PyData.canLayAll0 (rs.map (pairD c)) && decide (PyData.depthAll (rs.map (pairD c)) + 1 ≤ 64)) = true
    rw [lay_ris, decide_eq_true (by omega)]
    rfl
section
variable {P : Program} {w : World} {K : PySem.W.Frag} {mg : Str → Option Value} {base : Heap} {f C : Addr} {fd : FuncData}
def spEq (C : Addr) (K : PySem.W.Frag) : Sp := fun vs H Q _ => ∃ (st nv : Option Int) (n m : Addr) (rs : Rs), vs = [.ref n, .ref m] ∧ NeedAt C K H n st rs nv ∧ NeedAt C K H m st rs nv ∧ Q (.bl true) H
theorem ok_eq (F : FnM K "__eq__" "Need.__eq__" s_Need___eq__ f fd) (isC : C8.InsC K C) (m_isinstance : mg "isinstance" = none) (g_Need : mg "Need" = some (.ref C)) (cls : Cls K C) (n_start : NoAttr K C "start") (n_rises : NoAttr K C "rises") (n_never : NoAttr K C "never") : FnOk P w K mg base CX0 1 f fd P_Need___eq__ (spEq C K) := by
  refine F.ok sc_Need___eq__ (fun vs H Q E h => ?_) (fun cdv A outer s H vs Q E hr h => ?_)
  · obtain ⟨st, nv, n, m, rs, rfl, _⟩ := h
    rfl
  · obtain ⟨st, nv, n, m, rs, rfl, ⟨dx, r, ps, hn, hR, _⟩, ⟨dx', r', ps', hm, hR', _⟩, q⟩ := h
    refine ⟨_, PSs.nox (pss_one (ps_ret (pe_and (pe_callB (C8.call_isC isC) (by rfl) m_isinstance (by decide +kernel) (pa_cons (pv 1) (pa_cons (pe_glob (by rfl) g_Need relv_ref) pa_nil))) (pe_and (pe_cmpR op_eq (pe_fld (pv 0) rfl) (pe_fld (pv 1) rfl) (nomark _)) (pe_and (pe_cmpR (op_eqD hr.units) (pe_fld (pv 0) rfl) (pe_fld (pv 1) rfl) (nomark _)) (pe_one (pe_cmpR op_eq (pe_fld (pv 0) rfl) (pe_fld (pv 1) rfl) (nomark _)))))))), ?_⟩
    walk_at "go"
    refine ⟨m, dx', _, rfl, hm, ?_⟩
    walk_at "go"
    refine ⟨(by cases st <;> rfl), ?_⟩
    walk_at "go"
    refine ite2 (fun _ => ?_) (fun e => absurd (decide_eq_true rfl) e)
    walk_at "go"
    refine same2 (d := risD false false rs) hR.dp hR'.dp (shaped_ris _ _ _) ?_
    rw [eqv_same (shaped_ris _ _ _)]
    walk_at "go"
    refine ⟨(by cases nv <;> rfl), ?_⟩
    rw [decide_eq_true rfl]
    walk_at "go"
    exact q
end
end Z
set_option Elab.async false
set_option linter.all false
set_option maxRecDepth 100000
set_option maxHeartbeats 4000000
namespace Z
open Nd
open PySem PySem.Spec PyProof.Rows L2
open C8 (pss_cut tCut)
local macro_rules | `(tactic| walk_at "num") => `(tactic| first | rfl | omega | decide | exact Nat.le_of_lt (small1000 (by simp)) | exact ⟨by omega, by omega⟩ | exact ⟨by omega, by omega, by omega⟩ | exact ⟨by decide, by decide, by decide⟩ | exact Or.inl ⟨by omega, by omega⟩ | exact Or.inr ⟨by omega, by omega⟩)
local macro_rules | `(tactic| walk_at "go") => `(tactic| repeat (first | refine ⟨_, rfl, ?_⟩ | refine ⟨_, _, rfl, rfl, ?_⟩ | refine ⟨_, _, rfl, ?_⟩ | refine ⟨_, _, rfl, rfl, (by walk_at "num"), ?_⟩ | refine Or.inl ⟨_, rfl, ?_⟩ | refine ⟨_, _, _, _, rfl, rfl, (by assumption), (by rfl), ?_⟩ | refine ⟨_, _, _, _, _, rfl, (by assumption), (by assumption), (by assumption), (by rfl), ?_⟩ | refine ⟨rfl, ?_⟩ | refine And.intro (by walk_at "num") ?_))
abbrev s_value : Stmt := topS 24
abbrev N_value : List Str := ["_law_need_here", "_law_k", "_law_value_here", "_law_pair"]
abbrev P_value : List Str := ["_law_need_here", "_law_k"]
theorem sc_value : FnScope N_value P_value (defScope s_value) := ⟨rfl, rfl, rfl, by decide +kernel, rfl, by decide +kernel, by decide +kernel⟩
abbrev s_same : Stmt := topS 26
abbrev N_same : List Str := ["_law_told", "_law_due_here"]
abbrev P_same : List Str := ["_law_told", "_law_due_here"]
theorem sc_same : FnScope N_same P_same (defScope s_same) := ⟨rfl, rfl, rfl, by decide +kernel, rfl, by decide +kernel, by decide +kernel⟩
abbrev s_at_most : Stmt := topS 27
abbrev N_at_most : List Str := ["_law_a", "_law_b"]
abbrev P_at_most : List Str := ["_law_a", "_law_b"]
theorem sc_at_most : FnScope N_at_most P_at_most (defScope s_at_most) := ⟨rfl, rfl, rfl, by decide +kernel, rfl, by decide +kernel, by decide +kernel⟩
abbrev s_make : Stmt := topS 28
abbrev N_make : List Str := ["_law_need_here"]
abbrev P_make : List Str := ["_law_need_here"]
theorem sc_make : FnScope N_make P_make (defScope s_make) := ⟨rfl, rfl, rfl, by decide +kernel, rfl, by decide +kernel, by decide +kernel⟩
abbrev s_sound : Stmt := topS 29
abbrev N_sound : List Str := ["_law_told"]
abbrev P_sound : List Str := ["_law_told"]
theorem sc_sound : FnScope N_sound P_sound (defScope s_sound) := ⟨rfl, rfl, rfl, by decide +kernel, rfl, by decide +kernel, by decide +kernel⟩
abbrev s_bound : Stmt := topS 30
abbrev N_bound : List Str := ["_law_need_here", "_law_top", "_law_pair"]
abbrev P_bound : List Str := ["_law_need_here"]
theorem sc_bound : FnScope N_bound P_bound (defScope s_bound) := ⟨rfl, rfl, rfl, by decide +kernel, rfl, by decide +kernel, by decide +kernel⟩
section
variable {P : Program} {w : World} {K : PySem.W.Frag} {mg : Str → Option Value} {base : Heap} {f C : Addr} {fd : FuncData}
/-- the law's own need: a list [start, rises, never] -/
def NL (K : PySem.W.Frag) (H : Hp) (l : Addr) (st : Option Int) (rs : Rs) (nv : Option Int) : Prop := ∃ t ps, SqL K H l [oV st, .ref t, oV nv] ∧ Ris false false K H t ps rs
theorem NL.mono {K : PySem.W.Frag} {H H' : Hp} {l : Addr} {st nv : Option Int} {rs : Rs} (s : Same H H') (h : NL K H l st rs nv) : NL K H' l st rs nv := by
  obtain ⟨t, ps, e, h2⟩ := h
  exact ⟨t, ps, s.seq e, h2.mono s⟩
/-! ### _law_value -/
def spLV (K : PySem.W.Frag) : Sp := fun vs H Q _ => ∃ (st nv k : Option Int) (l : Addr) (rs : Rs), vs = [.ref l, oV k] ∧ NL K H l st rs nv ∧ Q (oV (val st rs nv k)) H
theorem ok_value (F : FnP K "_law_value" s_value f fd) : FnOk P w K mg base CX0 1 f fd P_value (spLV K) := by
  refine F.ok sc_value (fun vs H Q E h => ?_) (fun cdv A outer s H vs Q E hr h => ?_)
  · obtain ⟨st, nv, k, l, rs, rfl, _⟩ := h
    rfl
  · obtain ⟨st, nv, k, l, rs, rfl, ⟨t, ps, hl, hR⟩, q⟩ := h
    refine ⟨_, PSs.nox (pss_cons (ps_if (PW.pt (pw_or (pt_cmpR op_isN (pv 1) pe_non (nomark _)) (pw_or1 (pt_cmpR op_isN (pe_ix ix_list (pv 0) pe_int (fun _ _ => rfl)) pe_non (nomark _))))) (pss_one (ps_ret (pe_ix ix_list (pv 0) pe_int (fun _ _ => rfl)))) pss_nil)
      (pss_cons (ps_set (i := 2) sc_value.nd rfl (by first | exact .inl rfl | exact .inr rfl) (pe_ix ix_list (pv 0) pe_int (fun _ _ => rfl)))
      (pss_cons (ps_for PassesOwn.never rfl (pi_tup (pe_ix ix_list (pv 0) pe_int (fun _ _ => rfl))) (pg_name (i := 3) sc_value.nd rfl (by first | exact .inl rfl | exact .inr rfl))
        (pss_one (ps_if (PW.pt (pw_and (pt_cmpR op_gt (pv 1) (pe_ix ix_tup (pv 3) pe_int (fun _ _ => rfl)) (nomark _)) (pw_and1 (PW.pt (pw_or (pt_cmpR op_isN (pe_ix ix_tup (pv 3) pe_int (fun _ _ => rfl)) pe_non (nomark _)) (pw_or1 (pt_cmpR op_lt (pv 1) (pe_ix ix_tup (pv 3) pe_int (fun _ _ => rfl)) (nomark _)))))))) (pss_one (ps_set (i := 2) sc_value.nd rfl (by first | exact .inl rfl | exact .inr rfl) (pe_op op_sub (pe_op op_add (pv 2) (pv 1)) (pe_ix ix_tup (pv 3) pe_int (fun _ _ => rfl))))) (pss_one (ps_if (pt_cmpR op_gt (pv 1) (pe_ix ix_tup (pv 3) pe_int (fun _ _ => rfl)) (nomark _)) (pss_one (ps_set (i := 2) sc_value.nd rfl (by first | exact .inl rfl | exact .inr rfl) (pe_op op_sub (pe_op op_add (pv 2) (pe_ix ix_tup (pv 3) pe_int (fun _ _ => rfl))) (pe_ix ix_tup (pv 3) pe_int (fun _ _ => rfl))))) pss_nil)))))
      (pss_one (ps_ret (pv 2)))))), ?_⟩
    cases st with
    | none =>
      cases k with
      | none =>
        walk_at "go"
        exact q
      | some i =>
        walk_at "go"
        exact q
    | some s =>
      cases k with
      | none =>
        walk_at "go"
        exact q
      | some k =>
        walk_at "go"
        refine ⟨⟨_, hR.1⟩, ?_⟩
        refine for_prs hR (fun i σ H1 => H1 = H ∧ ∃ (x : Int) (v3 : Option V), x = s + Fs (rs.take i) k ∧ σ = [some (.ref l), some (.int k), some (.int x), v3]) ⟨rfl, s, none, ?_, rfl⟩ ?_ ?_ ?_
        · rw [List.take_zero, Fs_nil, Int.add_zero]
        · rintro i σ H1 ⟨rfl, _⟩
          exact Same.refl _
        · rintro i p lo h σ H1 hi hp ⟨rfl, x, v3, ex, rfl⟩
          have hp : SqT K H1 p [.int lo, oV h] := hp
          have et := Fs_take (k := k) hi
          walk_at "go"
          refine ite2 (fun e => ?_) (fun e => ?_)
          · have hk : lo < k := of_decide_eq_true e
            cases h with
            | none =>
              rw [rise_none (by omega)] at et
              walk_at "go"
              refine ⟨_, _, ?_, rfl⟩
              omega
            | some y =>
              rw [rise_some (by omega)] at et
              walk_at "go"
              refine ite2 (fun e2 => ?_) (fun e2 => ?_)
              · have hx : k < y := of_decide_eq_true e2
                rw [if_pos hx] at et
                walk_at "go"
                refine ⟨_, _, ?_, rfl⟩
                omega
              · have hx : ¬ k < y := fun z => e2 (decide_eq_true z)
                rw [if_neg hx] at et
                walk_at "go"
                refine ite2 (fun e3 => ?_) (fun e3 => absurd (decide_eq_true hk) e3)
                walk_at "go"
                refine ⟨_, _, ?_, rfl⟩
                omega
          · have hk : ¬ lo < k := fun z => e (decide_eq_true z)
            rw [rise_zero (show k ≤ (lo, h).1 by show k ≤ lo; omega)] at et
            walk_at "go"
            refine ite2 (fun e3 => absurd (of_decide_eq_true e3) hk) (fun e3 => ?_)
            refine ⟨rfl, _, _, ?_, rfl⟩
            omega
        · rintro σ H1 ⟨rfl, x, v3, ex, rfl⟩
          rw [List.take_length] at ex
          walk_at "go"
          rw [ex]
          exact q
/-! ### _law_same, _law_at_most -/
def spSame : Sp := fun vs H Q _ => ∃ a : Option Int, vs = [oV a, oV a] ∧ Q (.bl true) H
theorem ok_same (F : FnP K "_law_same" s_same f fd) (m_isinstance : mg "isinstance" = none) (m_int : mg "int" = none) (m_bool : mg "bool" = none) : FnOk P w K mg base CX0 1 f fd P_same spSame := by
  refine F.ok sc_same (fun vs H Q E h => ?_) (fun cdv A outer s H vs Q E hr h => ?_)
  · obtain ⟨a, rfl, _⟩ := h
    rfl
  · obtain ⟨a, rfl, q⟩ := h
    refine ⟨_, PSs.nox (pss_cons (ps_if (pt_cmpR op_isN (pv 1) pe_non (nomark _)) (pss_one (ps_ret (pe_cmpR op_isN (pv 0) pe_non (nomark _)))) pss_nil)
      (pss_one (ps_ret (pe_and (pe_callB call_isi (by rfl) m_isinstance (by decide +kernel) (pa_cons (pv 0) (pa_cons (pe_bltn (v := .ty "int") (by rfl) m_int (by decide +kernel) rfl) pa_nil))) (pe_and (pe_not (pe_callB call_isi (by rfl) m_isinstance (by decide +kernel) (pa_cons (pv 0) (pa_cons (pe_bltn (v := .ty "bool") (by rfl) m_bool (by decide +kernel) rfl) pa_nil)))) (pe_one (pe_cmpR op_eq (pv 0) (pv 1) (nomark _)))))))), ?_⟩
    cases a with
    | none =>
      walk_at "go"
      exact q
    | some i =>
      walk_at "go"
      refine isi (c := "int") (b := true) (.int i) (by decide +kernel) ?_
      walk_at "go"
      refine isi (c := "bool") (b := false) (.int i) (by decide +kernel) ?_
      walk_at "go"
      rw [decide_eq_true rfl]
      exact q
def am : Option Int → Option Int → Bool
  | _, none => true
  | none, some _ => false
  | some x, some y => decide (x ≤ y)
def spAm : Sp := fun vs H Q _ => ∃ a b : Option Int, vs = [oV a, oV b] ∧ Q (.bl (am a b)) H
theorem ok_at_most (F : FnP K "_law_at_most" s_at_most f fd) : FnOk P w K mg base CX0 1 f fd P_at_most spAm := by
  refine F.ok sc_at_most (fun vs H Q E h => ?_) (fun cdv A outer s H vs Q E hr h => ?_)
  · obtain ⟨a, b, rfl, _⟩ := h
    rfl
  · obtain ⟨a, b, rfl, q⟩ := h
    refine ⟨_, PSs.nox (pss_cons (ps_if (pt_cmpR op_isN (pv 1) pe_non (nomark _)) (pss_one (ps_ret pe_bl)) pss_nil)
      (pss_one (ps_ret (pe_and (pe_cmpR op_notN (pv 0) pe_non (nomark _)) (pe_one (pe_cmpR op_le (pv 0) (pv 1) (nomark _))))))), ?_⟩
    cases b with
    | none =>
      walk_at "go"
      cases a <;> exact q
    | some y =>
      cases a with
      | none =>
        walk_at "go"
        exact q
      | some x =>
        walk_at "go"
        exact q
/-! ### _law_make, _law_sound -/
def spMake (C : Addr) (K : PySem.W.Frag) : Sp := fun vs H Q _ => ∃ (st nv : Option Int) (l : Addr) (rs : Rs), vs = [.ref l] ∧ NL K H l st rs nv ∧ Ok st rs nv ∧ rs.length ≤ 100000 ∧ ∀ n H', Same H H' → NeedAt C K H' n st rs nv → Q (.ref n) H'
theorem ok_make (F : FnP K "_law_make" s_make f fd) (k_Need : Mak P w K mg base 2 "Need" (spNeed C K)) : FnOk P w K mg base CX0 4 f fd P_make (spMake C K) := by
  refine F.ok sc_make (fun vs H Q E h => ?_) (fun cdv A outer s H vs Q E hr h => ?_)
  · obtain ⟨st, nv, l, rs, rfl, _⟩ := h
    rfl
  · obtain ⟨st, nv, l, rs, rfl, ⟨t, ps, hl, hR⟩, ok, hb, q⟩ := h
    refine ⟨_, PSs.nox (pss_one (ps_ret (pe_mk k_Need hr (by decide) (by rfl) (pa_cons (pe_ix ix_list (pv 0) pe_int (fun _ _ => rfl)) (pa_cons (pe_ix ix_list (pv 0) pe_int (fun _ _ => rfl)) (pa_cons (pe_ix ix_list (pv 0) pe_int (fun _ _ => rfl)) pa_nil)))))), ?_⟩
    walk_at "go"
    exact ⟨false, false, st, nv, t, ps, rs, rfl, hR, hb, ok, fun n H' s1 _ h1 => q n H' s1 h1⟩
def spSound (C : Addr) (K : PySem.W.Frag) : Sp := fun vs H Q _ => ∃ (st nv : Option Int) (n : Addr) (rs : Rs), vs = [.ref n] ∧ NeedAt C K H n st rs nv ∧ Ok st rs nv ∧ rs.length ≤ 100000 ∧ ∀ H', Same H H' → Q (.bl true) H'
theorem ok_sound (F : FnP K "_law_sound" s_sound f fd) (isC : C8.InsC K C) (m_isinstance : mg "isinstance" = none) (m_tuple : mg "tuple" = none) (g_Need : mg "Need" = some (.ref C)) (cls : Cls K C) (n_start : NoAttr K C "start") (n_rises : NoAttr K C "rises") (n_never : NoAttr K C "never") (k_Need : Mak P w K mg base 2 "Need" (spNeed C K)) (e_Need : Eqo P w K mg base 1 C (spEq C K)) : FnOk P w K mg base CX0 4 f fd P_sound (spSound C K) := by
  refine F.ok sc_sound (fun vs H Q E h => ?_) (fun cdv A outer s H vs Q E hr h => ?_)
  · obtain ⟨st, nv, n, rs, rfl, _⟩ := h
    rfl
  · obtain ⟨st, nv, n, rs, rfl, hN, ok, hb, q⟩ := h
    have hN2 := hN
    obtain ⟨dx, r, ps, hn, hR, hr'⟩ := hN2
    refine ⟨_, PSs.nox (pss_cons (ps_if (PW.pt (pw_or (pt_not (pt_val (pe_callB (C8.call_isC isC) (by rfl) m_isinstance (by decide +kernel) (pa_cons (pv 0) (pa_cons (pe_glob (by rfl) g_Need relv_ref) pa_nil))))) (pw_or1 (pt_not (pt_val (pe_callB call_isi (by rfl) m_isinstance (by decide +kernel) (pa_cons (pe_fld (pv 0) rfl) (pa_cons (pe_bltn (v := .ty "tuple") (by rfl) m_tuple (by decide +kernel) rfl) pa_nil)))))))) (pss_one (ps_ret pe_bl)) pss_nil)
      (pss_one (ps_ret (pe_cmpR (op_own e_Need hr (by decide)) (pe_mk k_Need hr (by decide) (by rfl) (pa_cons (pe_fld (pv 0) rfl) (pa_cons (pe_fld (pv 0) rfl) (pa_cons (pe_fld (pv 0) rfl) pa_nil)))) (pv 0) (nomark _))))), ?_⟩
    walk_at "go"
    refine ⟨n, dx, _, rfl, hn, ?_⟩
    walk_at "go"
    refine isi (c := "tuple") (b := true) (.tup hr') (by decide +kernel) ?_
    walk_at "go"
    refine ⟨false, false, st, nv, r, ps, rs, rfl, hR, hb, ok, fun n2 H2 s2 _ h2 => ?_⟩
    walk_at "go"
    have h2' := h2
    have h1' := hN.mono s2
    obtain ⟨dx2, r2, ps2, hn2, _⟩ := h2'
    obtain ⟨dx1, r1, ps1, hn1, _⟩ := h1'
    refine ⟨n2, n, dx2, dx1, _, _, rfl, rfl, hn2, hn1, ?_⟩
    exact ⟨st, nv, n2, n, rs, rfl, h2, hN.mono s2, true, rfl, q H2 s2⟩
/-! ### _law_bound -/
def spBound (K : PySem.W.Frag) : Sp := fun vs H Q _ => ∃ (s : Int) (nv : Option Int) (l : Addr) (rs : Rs), vs = [.ref l] ∧ NL K H l (some s) rs nv ∧ Q (.int (bnd s rs)) H
theorem ok_bound (F : FnP K "_law_bound" s_bound f fd) (m_max : mg "max" = none) : FnOk P w K mg base CX0 1 f fd P_bound (spBound K) := by
  refine F.ok sc_bound (fun vs H Q E h => ?_) (fun cdv A outer s H vs Q E hr h => ?_)
  · obtain ⟨s, nv, l, rs, rfl, _⟩ := h
    rfl
  · obtain ⟨s, nv, l, rs, rfl, ⟨t, ps, hl, hR⟩, q⟩ := h
    refine ⟨_, PSs.nox (pss_cons (ps_set (i := 1) sc_bound.nd rfl (by first | exact .inl rfl | exact .inr rfl) (pe_ix ix_list (pv 0) pe_int (fun _ _ => rfl)))
      (pss_cons (ps_for PassesOwn.never rfl (pi_tup (pe_ix ix_list (pv 0) pe_int (fun _ _ => rfl))) (pg_name (i := 2) sc_bound.nd rfl (by first | exact .inl rfl | exact .inr rfl))
        (pss_cons (ps_if (pt_cmpR op_isN (pe_ix ix_tup (pv 2) pe_int (fun _ _ => rfl)) pe_non (nomark _)) (pss_one (ps_ret (pe_callB (call_max2 rfl) (by rfl) m_max (by decide +kernel) (pa_cons (pv 1) (pa_cons (pe_ix ix_tup (pv 2) pe_int (fun _ _ => rfl)) pa_nil))))) pss_nil)
      (pss_one (ps_set (i := 1) sc_bound.nd rfl (by first | exact .inl rfl | exact .inr rfl) (pe_op op_sub (pe_op op_add (pv 1) (pe_ix ix_tup (pv 2) pe_int (fun _ _ => rfl))) (pe_ix ix_tup (pv 2) pe_int (fun _ _ => rfl)))))))
      (pss_one (ps_ret (pv 1))))), ?_⟩
    walk_at "go"
    refine ⟨⟨_, hR.1⟩, ?_⟩
    refine for_prs hR (fun i σ H1 => H1 = H ∧ ∃ (x : Int) (v3 : Option V), bnd x (rs.drop i) = bnd s rs ∧ σ = [some (.ref l), some (.int x), v3]) ⟨rfl, s, none, rfl, rfl⟩ ?_ ?_ ?_
    · rintro i σ H1 ⟨rfl, _⟩
      exact Same.refl _
    · rintro i p lo h σ H1 hi hp ⟨rfl, x, v3, ex, rfl⟩
      have hp : SqT K H1 p [.int lo, oV h] := hp
      have hd : rs.drop i = (lo, h) :: rs.drop (i + 1) := by
        rw [List.drop_eq_getElem?_toList_append, hi]
        rfl
      rw [hd] at ex
      cases h with
      | none =>
        walk_at "go"
        rw [← ex] at q
        exact q
      | some y =>
        walk_at "go"
        exact ⟨_, _, ex, rfl⟩
    · rintro σ H1 ⟨rfl, x, v3, ex, rfl⟩
      rw [List.drop_length] at ex
      walk_at "go"
      rw [← ex] at q
      exact q
end
end Z
set_option Elab.async false
set_option linter.all false
set_option maxRecDepth 100000
set_option maxHeartbeats 4000000
namespace Z
open Nd
open PySem PySem.Spec PyProof.Rows L2
open C8 (pss_cut tCut)
local macro_rules | `(tactic| walk_at "num") => `(tactic| first | rfl | omega | decide | exact Nat.le_of_lt (small1000 (by simp)) | exact ⟨by omega, by omega⟩ | exact ⟨by omega, by omega, by omega⟩ | exact ⟨by decide, by decide, by decide⟩ | exact Or.inl ⟨by omega, by omega⟩ | exact Or.inr ⟨by omega, by omega⟩)
local macro_rules | `(tactic| walk_at "go") => `(tactic| repeat (first | refine ⟨_, rfl, ?_⟩ | refine ⟨_, _, rfl, rfl, ?_⟩ | refine ⟨_, _, rfl, ?_⟩ | refine ⟨_, _, rfl, rfl, (by walk_at "num"), ?_⟩ | refine Or.inl ⟨_, rfl, ?_⟩ | refine ⟨_, _, _, _, rfl, rfl, (by assumption), (by rfl), ?_⟩ | refine ⟨_, _, _, _, _, rfl, (by assumption), (by assumption), (by assumption), (by rfl), ?_⟩ | refine ⟨rfl, ?_⟩ | refine And.intro (by walk_at "num") ?_))
abbrev s_greatest : Stmt := topS 31
abbrev N_greatest : List Str := ["_law_need_here", "_law_rises", "_law_low", "_law_high", "_law_turn", "_law_middle"]
abbrev P_greatest : List Str := ["_law_need_here"]
theorem sc_greatest : FnScope N_greatest P_greatest (defScope s_greatest) := ⟨rfl, rfl, rfl, by decide +kernel, rfl, by decide +kernel, by decide +kernel⟩
abbrev s_least : Stmt := topS 32
abbrev N_least : List Str := ["_law_need_here", "_law_rises", "_law_low", "_law_high", "_law_turn", "_law_middle"]
abbrev P_least : List Str := ["_law_need_here"]
theorem sc_least : FnScope N_least P_least (defScope s_least) := ⟨rfl, rfl, rfl, by decide +kernel, rfl, by decide +kernel, by decide +kernel⟩
set_option exponentiation.threshold 300
theorem two_step {i : Nat} (h : i < 260) : (2 : Int) ^ (260 - i) = 2 * 2 ^ (260 - (i + 1)) := by
  rw [show 260 - i = (260 - (i + 1)) + 1 by omega, Int.pow_succ]
  omega
theorem two_pos (n : Nat) : (1 : Int) ≤ 2 ^ n := by
  induction n with
  | zero => decide
  | succ n ih => rw [Int.pow_succ]; omega
theorem opn_snoc (r : Rs) (l : Int) (h : Option Int) : opn (r ++ [(l, h)]) = match h with
    | none => some l
    | some _ => none := by
  induction r with
  | nil => cases h <;> rfl
  | cons p r ih =>
    obtain ⟨a, b⟩ := p
    cases r with
    | nil => cases b <;> cases h <;> rfl
    | cons q r => cases b <;> exact ih
/-- the last pair, and where it lies -/
theorem ris_last {b c : Bool} {K : PySem.W.Frag} {H : Hp} {a : Addr} {ps : List Addr} {r : Rs} {l : Int} {h : Option Int} (hR : Ris b c K H a ps (r ++ [(l, h)])) : ∃ p, atI (ps.map V.ref) (-1) = some (.ref p) ∧ SqK c K H p [.int l, oV h] := by
  obtain ⟨h1, h2, h3⟩ := hR
  rw [List.length_append] at h2
  have hn : ps ≠ [] := fun e => by
    rw [e] at h2
    simp at h2
  obtain ⟨ps', p, rfl⟩ : ∃ qs q, ps = qs ++ [q] := by
    rcases List.eq_nil_or_concat ps with e | ⟨qs, q, e⟩
    · exact absurd e hn
    · exact ⟨qs, q, by rw [e, List.concat_eq_append]⟩
  have e : ps'.length = r.length := by
    rw [List.length_append] at h2
    simpa using h2
  refine ⟨p, ?_, h3 r.length p (l, h) ?_ ?_⟩
  · rw [List.map_append]
    exact atI_last _ _
  · rw [List.getElem?_append_right (by omega), e, Nat.sub_self]
    rfl
  · rw [List.getElem?_append_right (by omega), Nat.sub_self]
    rfl
section
variable {P : Program} {w : World} {K : PySem.W.Frag} {mg : Str → Option Value} {base : Heap} {f C : Addr} {fd : FuncData}
def spX (R : Int → Rs → Option Int) (K : PySem.W.Frag) : Sp := fun vs H Q _ => ∃ (s : Int) (nv : Option Int) (l : Addr) (rs : Rs), vs = [.ref l] ∧ NL K H l (some s) rs nv ∧ Good (-1) rs ∧ 0 ≤ s ∧ bnd s rs ≤ 10 ^ 40 ∧ Q (oV (R s rs)) H
theorem ok_greatest (F : FnP K "_law_greatest" s_greatest f fd) (m_len : mg "len" = none) (m_range : mg "range" = none) (c_value : Cal P w K mg base 1 "_law_value" (spLV K)) (c_bound : Cal P w K mg base 1 "_law_bound" (spBound K)) : FnOk P w K mg base CX0 2 f fd P_greatest (spX grt K) := by
  refine F.ok sc_greatest (fun vs H Q E h => ?_) (fun cdv A outer s H vs Q E hr h => ?_)
  · obtain ⟨s, nv, l, rs, rfl, _⟩ := h
    rfl
  · obtain ⟨s, nv, l, rs, rfl, hN, hg, hs, hb, q⟩ := h
    have hN2 := hN
    obtain ⟨t, ps, hl, hR⟩ := hN2
    refine ⟨_, PSs.nox (pss_cons (ps_set (i := 1) sc_greatest.nd rfl (by first | exact .inl rfl | exact .inr rfl) (pe_ix ix_list (pv 0) pe_int (fun _ _ => rfl)))
      (pss_cut (ps_if (PW.pt (pw_and (pt_cmpR op_gt (pe_callB call_len_seq (by rfl) m_len PySem.boot_len (pa_cons (pv 1) pa_nil)) pe_int (nomark _)) (pw_and (pt_cmpR op_isN (pe_ix ix_tup (pe_ix ix_tup (pv 1) (pe_un un_neg pe_int) (fun _ _ => rfl)) pe_int (fun _ _ => rfl)) pe_non (nomark _)) (pw_and1 (pt_cmpR op_ge (pe_cl c_value hr (by decide) (by rfl) (pa_cons (pv 0) (pa_cons (pe_ix ix_tup (pe_ix ix_tup (pv 1) (pe_un un_neg pe_int) (fun _ _ => rfl)) pe_int (fun _ _ => rfl)) pa_nil))) (pe_ix ix_tup (pe_ix ix_tup (pv 1) (pe_un un_neg pe_int) (fun _ _ => rfl)) pe_int (fun _ _ => rfl)) (nomark _)))))) (pss_one (ps_ret pe_non)) pss_nil)
      (pss_cons (ps_set (i := 2) sc_greatest.nd rfl (by first | exact .inl rfl | exact .inr rfl) pe_int)
      (pss_cons (ps_set (i := 3) sc_greatest.nd rfl (by first | exact .inl rfl | exact .inr rfl) (pe_op op_add (pe_cl c_bound hr (by decide) (by rfl) (pa_cons (pv 0) pa_nil)) pe_int))
      (pss_cons (ps_for PassesOwn.never rfl (pi_range1 (by rfl) m_range (pa_cons pe_int pa_nil)) (pg_name (i := 4) sc_greatest.nd rfl (by first | exact .inl rfl | exact .inr rfl))
        (pss_cons (ps_set (i := 5) sc_greatest.nd rfl (by first | exact .inl rfl | exact .inr rfl) (pe_op op_fdiv (pe_op op_add (pv 2) (pv 3)) pe_int))
      (pss_one (ps_if (PW.pt (pw_and (pt_cmpR op_gt (pe_op op_sub (pv 3) (pv 2)) pe_int (nomark _)) (pw_and1 (pt_cmpR op_ge (pe_cl c_value hr (by decide) (by rfl) (pa_cons (pv 0) (pa_cons (pv 5) pa_nil))) (pv 5) (nomark _))))) (pss_one (ps_set (i := 2) sc_greatest.nd rfl (by first | exact .inl rfl | exact .inr rfl) (pv 5))) (pss_one (ps_if (pt_cmpR op_gt (pe_op op_sub (pv 3) (pv 2)) pe_int (nomark _)) (pss_one (ps_set (i := 3) sc_greatest.nd rfl (by first | exact .inl rfl | exact .inr rfl) (pv 5))) pss_nil))))))
      (pss_one (ps_ret (pv 2)))))))), ?_⟩
    walk_at "go"
    refine ⟨fun σ' H' => σ' = [some (.ref l), some (.ref t), none, none, none, none] ∧ H' = H ∧ ∀ x, opn rs = some x → ¬ x ≤ s + Fs rs x, ?_, ?_⟩
    · walk_at "go"
      refine ⟨t, _, rfl, .inr hR.1, ?_⟩
      rw [List.length_map, hR.2.1]
      walk_at "go"
      rcases List.eq_nil_or_concat rs with rfl | ⟨r, ⟨x, h⟩, rfl⟩
      · refine ite2 (fun e => ?_) (fun e => ?_)
        · cases e
        · walk_at "go"
          exact nofun
      · rw [List.concat_eq_append] at *
        have eo := opn_snoc r x h
        obtain ⟨p, ep, hp⟩ := ris_last hR
        have hp : SqT K H p [.int x, oV h] := hp
        refine ite2 (fun e => ?_) (fun e => ?_)
        · walk_at "go"
          refine ⟨t, _, _, _, rfl, rfl, hR.1, ep, ?_⟩
          walk_at "go"
          cases h with
          | none =>
            walk_at "go"
            refine ⟨t, _, _, _, rfl, rfl, hR.1, ep, ?_⟩
            walk_at "go"
            refine ⟨some s, nv, some x, l, _, rfl, hN, ?_⟩
            walk_at "go"
            refine ⟨t, _, _, _, rfl, rfl, hR.1, ep, ?_⟩
            walk_at "go"
            refine ite2 (fun e2 => ?_) (fun e2 => ?_)
            · have h3 := of_decide_eq_true e2
              walk_at "go"
              rw [grt_none hg hs eo h3] at q
              exact q
            · refine ⟨rfl, rfl, fun z ez h3 => e2 (decide_eq_true ?_)⟩
              rw [eo] at ez
              cases ez
              exact h3
          | some y =>
            walk_at "go"
            intro z ez
            rw [eo] at ez
            cases ez
        · exfalso
          refine e (decide_eq_true ?_)
          rw [List.length_append]
          show (0 : Int) < ((r.length + 1 : Nat) : Int)
          omega
    · rintro σ' H' ⟨rfl, rfl, hn⟩
      have tp := grt_top hg hs hn
      have z0 := (Fs_slope (x := 0) (y := 0) (by omega) hg).1
      walk_at "go"
      refine ⟨s, nv, l, rs, rfl, hN, ?_⟩
      walk_at "go"
      refine for_gen (n := 260) (fun i σ H1 => H1 = H' ∧ ∃ (lo hi : Int) (v4 v5 : Option V), σ = [some (.ref l), some (.ref t), some (.int lo), some (.int hi), v4, v5] ∧ 0 ≤ lo ∧ lo < hi ∧ lo ≤ s + Fs rs lo ∧ s + Fs rs hi < hi ∧ hi - lo ≤ 2 ^ (260 - i)) ⟨rfl, 0, _, none, none, rfl, by omega, by omega, by omega, tp.1, ?_⟩ (fun i σ H1 hi _ => hi) (fun σ H1 _ => Nat.le_refl _) ?_ ?_
      · have : (10 : Int) ^ 40 + 1 ≤ 2 ^ (260 - 0) := by decide
        omega
      · rintro i σ H1 x H2 hi ⟨rfl, lo, hj, v4, v5, rfl, a1, a2, a3, a4, a5⟩ ⟨rfl, rfl⟩
        rw [two_step hi] at a5
        have a6 := two_pos (260 - (i + 1))
        walk_at "go"
        refine ite2 (fun e => ?_) (fun e => ?_)
        · have h1 : 1 < hj - lo := of_decide_eq_true e
          walk_at "go"
          refine ⟨some s, nv, some _, l, rs, rfl, hN, ?_⟩
          walk_at "go"
          refine ite2 (fun e2 => ?_) (fun e2 => ?_)
          · have h2 := of_decide_eq_true e2
            walk_at "go"
            refine ⟨_, _, _, _, rfl, ?_, ?_, h2, a4, ?_⟩ <;> omega
          · have h2 : ¬ ((lo + hj) / 2 ≤ s + Fs rs ((lo + hj) / 2)) := fun z => e2 (decide_eq_true z)
            walk_at "go"
            refine ite2 (fun e3 => ?_) (fun e3 => absurd e e3)
            walk_at "go"
            refine ⟨_, _, _, _, rfl, a1, ?_, a3, ?_, ?_⟩ <;> omega
        · have h1 : ¬ (1 < hj - lo) := fun z => e (decide_eq_true z)
          walk_at "go"
          refine ite2 (fun e3 => absurd e3 e) (fun e3 => ?_)
          refine ⟨rfl, _, _, _, _, rfl, a1, a2, a3, a4, ?_⟩
          omega
      · rintro σ H1 ⟨rfl, lo, hj, v4, v5, rfl, a1, a2, a3, a4, a5⟩
        have a6 : hj - lo ≤ 1 := a5
        obtain rfl : hj = lo + 1 := by omega
        walk_at "go"
        rw [grt_is hg hs a1 a3 a4] at q
        exact q
theorem ok_least (F : FnP K "_law_least" s_least f fd) (m_len : mg "len" = none) (m_range : mg "range" = none) (c_value : Cal P w K mg base 1 "_law_value" (spLV K)) (c_bound : Cal P w K mg base 1 "_law_bound" (spBound K)) : FnOk P w K mg base CX0 2 f fd P_least (spX lst K) := by
  refine F.ok sc_least (fun vs H Q E h => ?_) (fun cdv A outer s H vs Q E hr h => ?_)
  · obtain ⟨s, nv, l, rs, rfl, _⟩ := h
    rfl
  · obtain ⟨s, nv, l, rs, rfl, hN, hg, hs, hb, q⟩ := h
    have hN2 := hN
    obtain ⟨t, ps, hl, hR⟩ := hN2
    refine ⟨_, PSs.nox (pss_cons (ps_set (i := 1) sc_least.nd rfl (by first | exact .inl rfl | exact .inr rfl) (pe_ix ix_list (pv 0) pe_int (fun _ _ => rfl)))
      (pss_cut (ps_if (PW.pt (pw_and (pt_cmpR op_gt (pe_callB call_len_seq (by rfl) m_len PySem.boot_len (pa_cons (pv 1) pa_nil)) pe_int (nomark _)) (pw_and (pt_cmpR op_isN (pe_ix ix_tup (pe_ix ix_tup (pv 1) (pe_un un_neg pe_int) (fun _ _ => rfl)) pe_int (fun _ _ => rfl)) pe_non (nomark _)) (pw_and1 (pt_cmpR op_gt (pe_cl c_value hr (by decide) (by rfl) (pa_cons (pv 0) (pa_cons (pe_ix ix_tup (pe_ix ix_tup (pv 1) (pe_un un_neg pe_int) (fun _ _ => rfl)) pe_int (fun _ _ => rfl)) pa_nil))) (pe_ix ix_tup (pe_ix ix_tup (pv 1) (pe_un un_neg pe_int) (fun _ _ => rfl)) pe_int (fun _ _ => rfl)) (nomark _)))))) (pss_one (ps_ret pe_non)) pss_nil)
      (pss_cons (ps_set (i := 2) sc_least.nd rfl (by first | exact .inl rfl | exact .inr rfl) (pe_un un_neg pe_int))
      (pss_cons (ps_set (i := 3) sc_least.nd rfl (by first | exact .inl rfl | exact .inr rfl) (pe_cl c_bound hr (by decide) (by rfl) (pa_cons (pv 0) pa_nil)))
      (pss_cons (ps_for PassesOwn.never rfl (pi_range1 (by rfl) m_range (pa_cons pe_int pa_nil)) (pg_name (i := 4) sc_least.nd rfl (by first | exact .inl rfl | exact .inr rfl))
        (pss_cons (ps_set (i := 5) sc_least.nd rfl (by first | exact .inl rfl | exact .inr rfl) (pe_op op_fdiv (pe_op op_add (pv 2) (pv 3)) pe_int))
      (pss_one (ps_if (PW.pt (pw_and (pt_cmpR op_gt (pe_op op_sub (pv 3) (pv 2)) pe_int (nomark _)) (pw_and1 (pt_cmpR op_le (pe_cl c_value hr (by decide) (by rfl) (pa_cons (pv 0) (pa_cons (pv 5) pa_nil))) (pv 5) (nomark _))))) (pss_one (ps_set (i := 3) sc_least.nd rfl (by first | exact .inl rfl | exact .inr rfl) (pv 5))) (pss_one (ps_if (pt_cmpR op_gt (pe_op op_sub (pv 3) (pv 2)) pe_int (nomark _)) (pss_one (ps_set (i := 2) sc_least.nd rfl (by first | exact .inl rfl | exact .inr rfl) (pv 5))) pss_nil))))))
      (pss_one (ps_ret (pv 3)))))))), ?_⟩
    walk_at "go"
    refine ⟨fun σ' H' => σ' = [some (.ref l), some (.ref t), none, none, none, none] ∧ H' = H ∧ ∀ x, opn rs = some x → ¬ x < s + Fs rs x, ?_, ?_⟩
    · walk_at "go"
      refine ⟨t, _, rfl, .inr hR.1, ?_⟩
      rw [List.length_map, hR.2.1]
      walk_at "go"
      rcases List.eq_nil_or_concat rs with rfl | ⟨r, ⟨x, h⟩, rfl⟩
      · refine ite2 (fun e => ?_) (fun e => ?_)
        · cases e
        · walk_at "go"
          exact nofun
      · rw [List.concat_eq_append] at *
        have eo := opn_snoc r x h
        obtain ⟨p, ep, hp⟩ := ris_last hR
        have hp : SqT K H p [.int x, oV h] := hp
        refine ite2 (fun e => ?_) (fun e => ?_)
        · walk_at "go"
          refine ⟨t, _, _, _, rfl, rfl, hR.1, ep, ?_⟩
          walk_at "go"
          cases h with
          | none =>
            walk_at "go"
            refine ⟨t, _, _, _, rfl, rfl, hR.1, ep, ?_⟩
            walk_at "go"
            refine ⟨some s, nv, some x, l, _, rfl, hN, ?_⟩
            walk_at "go"
            refine ⟨t, _, _, _, rfl, rfl, hR.1, ep, ?_⟩
            walk_at "go"
            refine ite2 (fun e2 => ?_) (fun e2 => ?_)
            · have h3 := of_decide_eq_true e2
              walk_at "go"
              rw [lst_none hg hs eo h3] at q
              exact q
            · refine ⟨rfl, rfl, fun z ez h3 => e2 (decide_eq_true ?_)⟩
              rw [eo] at ez
              cases ez
              exact h3
          | some y =>
            walk_at "go"
            intro z ez
            rw [eo] at ez
            cases ez
        · exfalso
          refine e (decide_eq_true ?_)
          rw [List.length_append]
          show (0 : Int) < ((r.length + 1 : Nat) : Int)
          omega
    · rintro σ' H' ⟨rfl, rfl, hn⟩
      have tp := lst_top hg hs hn
      have z0 := (Fs_slope (x := 0) (y := 0) (by omega) hg).1
      walk_at "go"
      refine ⟨s, nv, l, rs, rfl, hN, ?_⟩
      walk_at "go"
      refine for_gen (n := 260) (fun i σ H1 => H1 = H' ∧ ∃ (lo hi : Int) (v4 v5 : Option V), σ = [some (.ref l), some (.ref t), some (.int lo), some (.int hi), v4, v5] ∧ -1 ≤ lo ∧ lo < hi ∧ (lo = -1 ∨ lo < s + Fs rs lo) ∧ s + Fs rs hi ≤ hi ∧ hi - lo ≤ 2 ^ (260 - i)) ⟨rfl, -1, _, none, none, rfl, by omega, by omega, .inl rfl, tp.1, ?_⟩ (fun i σ H1 hi _ => hi) (fun σ H1 _ => Nat.le_refl _) ?_ ?_
      · have : (10 : Int) ^ 40 + 1 ≤ 2 ^ (260 - 0) := by decide
        omega
      · rintro i σ H1 x H2 hi ⟨rfl, lo, hj, v4, v5, rfl, a1, a2, a3, a4, a5⟩ ⟨rfl, rfl⟩
        rw [two_step hi] at a5
        have a6 := two_pos (260 - (i + 1))
        walk_at "go"
        refine ite2 (fun e => ?_) (fun e => ?_)
        · have h1 : 1 < hj - lo := of_decide_eq_true e
          walk_at "go"
          refine ⟨some s, nv, some _, l, rs, rfl, hN, ?_⟩
          walk_at "go"
          refine ite2 (fun e2 => ?_) (fun e2 => ?_)
          · have h2 := of_decide_eq_true e2
            walk_at "go"
            refine ⟨_, _, _, _, rfl, a1, ?_, a3, h2, ?_⟩ <;> omega
          · have h2 : ¬ (s + Fs rs ((lo + hj) / 2) ≤ (lo + hj) / 2) := fun z => e2 (decide_eq_true z)
            walk_at "go"
            refine ite2 (fun e3 => ?_) (fun e3 => absurd e e3)
            walk_at "go"
            refine ⟨_, _, _, _, rfl, ?_, ?_, .inr ?_, a4, ?_⟩ <;> omega
        · have h1 : ¬ (1 < hj - lo) := fun z => e (decide_eq_true z)
          walk_at "go"
          refine ite2 (fun e3 => absurd e3 e) (fun e3 => ?_)
          refine ⟨rfl, _, _, _, _, rfl, a1, a2, a3, a4, ?_⟩
          omega
      · rintro σ H1 ⟨rfl, lo, hj, v4, v5, rfl, a1, a2, a3, a4, a5⟩
        have a6 : hj - lo ≤ 1 := a5
        obtain rfl : lo = hj - 1 := by omega
        walk_at "go"
        rw [lst_is hg hs (show 0 ≤ hj by omega) a4 (by omega)] at q
        exact q
end
end Z
set_option Elab.async false
set_option linter.all false
set_option maxRecDepth 100000
set_option maxHeartbeats 4000000
namespace Z
open Nd
open PySem PySem.Spec PyProof.Rows L2
open C8 (pss_cut tCut)
local macro_rules | `(tactic| walk_at "num") => `(tactic| first | rfl | omega | decide | exact Nat.le_of_lt (small1000 (by simp)) | exact ⟨by omega, by omega⟩ | exact ⟨by omega, by omega, by omega⟩ | exact ⟨by decide, by decide, by decide⟩ | exact Or.inl ⟨by omega, by omega⟩ | exact Or.inr ⟨by omega, by omega⟩)
local macro_rules | `(tactic| walk_at "go") => `(tactic| repeat (first | refine ⟨_, rfl, ?_⟩ | refine ⟨_, _, rfl, rfl, ?_⟩ | refine ⟨_, _, rfl, ?_⟩ | refine ⟨_, _, rfl, rfl, (by walk_at "num"), ?_⟩ | refine Or.inl ⟨_, rfl, ?_⟩ | refine ⟨_, _, _, _, rfl, rfl, (by assumption), (by rfl), ?_⟩ | refine ⟨_, _, _, _, _, rfl, (by assumption), (by assumption), (by assumption), (by rfl), ?_⟩ | refine ⟨rfl, ?_⟩ | refine And.intro (by walk_at "num") ?_))
abbrev s_points : Stmt := topS 25
abbrev N_points : List Str := ["_law_need_here", "_law_points_here", "_law_pair"]
abbrev P_points : List Str := ["_law_need_here"]
theorem sc_points : FnScope N_points P_points (defScope s_points) := ⟨rfl, rfl, rfl, by decide +kernel, rfl, by decide +kernel, by decide +kernel⟩
abbrev s_due : Stmt := topS 33
abbrev N_due : List Str := ["_law_need_here", "_law_k", "_law_greatest_here", "_law_least_here", "_law_mine", "_law_theirs"]
abbrev P_due : List Str := ["_law_need_here", "_law_k"]
theorem sc_due : FnScope N_due P_due (defScope s_due) := ⟨rfl, rfl, rfl, by decide +kernel, rfl, by decide +kernel, by decide +kernel⟩
abbrev s_between : Stmt := topS 34
abbrev N_between : List Str := ["_law_need_here", "_law_k", "_law_mine", "_law_theirs", "_law_value_here", "_law_turn"]
abbrev P_between : List Str := ["_law_need_here", "_law_k", "_law_mine", "_law_theirs"]
theorem sc_between : FnScope N_between P_between (defScope s_between) := ⟨rfl, rfl, rfl, by decide +kernel, rfl, by decide +kernel, by decide +kernel⟩
def LOk (st : Option Int) (rs : Rs) (nv : Option Int) : Prop := Ok st rs nv ∧ rs.length ≤ 10 ∧ ∀ s, st = some s → bnd s rs ≤ 10 ^ 40
theorem LOk.good {st nv : Option Int} {rs : Rs} (h : LOk st rs nv) : Good (-1) rs := by
  cases st with
  | none =>
    have : rs = [] := h.1.1
    rw [this]
    trivial
  | some s => exact h.1.1
theorem LOk.nv {rs : Rs} {nv : Option Int} (h : LOk none rs nv) : nv = none := by
  cases nv with
  | none => rfl
  | some v =>
    obtain ⟨t, e, _⟩ := h.1.2.2 v rfl
    cases e
theorem good_at : ∀ {rs : Rs} {e : Int} {i : Nat} {l : Int} {h : Option Int}, Good e rs → rs[i]? = some (l, h) → e < l ∧ ∀ y, h = some y → l < y
  | [], _, i, _, _, _, z => by cases i <;> cases z
  | (l, none) :: r, e, 0, _, _, g, z => by
    cases z
    exact ⟨g.1, nofun⟩
  | (l, some x) :: r, e, 0, _, _, g, z => by
    cases z
    exact ⟨g.1, fun y hy => by cases hy; exact g.2.1⟩
  | (l, none) :: r, e, i + 1, _, _, g, z => by
    have : r = [] := g.2
    subst this
    cases i <;> cases z
  | (l, some x) :: r, e, i + 1, _, _, g, z => by
    have g1 := g.1
    have g2 := g.2.1
    have ih := good_at (i := i) g.2.2 z
    exact ⟨by omega, ih.2⟩
def Pos (pts : List (Option Int)) : Prop := ∀ k ∈ pts, ∀ i, k = some i → 0 ≤ i
theorem Pos.append {a b : List (Option Int)} (ha : Pos a) (hb : Pos b) : Pos (a ++ b) := fun k hk => by
  rcases List.mem_append.mp hk with h | h
  · exact ha k h
  · exact hb k h
theorem pos3 {x y z : Int} (h1 : 0 ≤ x) (h2 : 0 ≤ y) (h3 : 0 ≤ z) : Pos [some x, some y, some z] := fun k hk i e => by
  rcases List.mem_cons.mp hk with h | hk
  · rw [h] at e; cases e; exact h1
  rcases List.mem_cons.mp hk with h | hk
  · rw [h] at e; cases e; exact h2
  rcases List.mem_cons.mp hk with h | hk
  · rw [h] at e; cases e; exact h3
  · cases hk
section
variable {P : Program} {w : World} {K : PySem.W.Frag} {mg : Str → Option Value} {base : Heap} {f C : Addr} {fd : FuncData}
/-! ### _law_points -/
def spPoints (K : PySem.W.Frag) : Sp := fun vs H Q _ => ∃ (st nv : Option Int) (l : Addr) (rs : Rs), vs = [.ref l] ∧ NL K H l st rs nv ∧ LOk st rs nv ∧ ∀ q H' pts, Same H H' → H' q = some (.lst (pts.map oV)) → Pos pts → pts.length ≤ 65 → Q (.ref q) H'
theorem ok_points (F : FnP K "_law_points" s_points f fd) (m_max : mg "max" = none) : FnOk P w K mg base CX0 1 f fd P_points (spPoints K) := by
  refine F.ok sc_points (fun vs H Q E h => ?_) (fun cdv A outer s H vs Q E hr h => ?_)
  · obtain ⟨st, nv, l, rs, rfl, _⟩ := h
    rfl
  · obtain ⟨st, nv, l, rs, rfl, ⟨t, ps, hl, hR⟩, ok, q⟩ := h
    refine ⟨_, PSs.nox (pss_cons (ps_set (i := 1) sc_points.nd rfl (by first | exact .inl rfl | exact .inr rfl) (pe_lst (pa_cons pe_int (pa_cons pe_int (pa_cons pe_int (pa_cons (pe_op op_pow pe_int pe_int) (pa_cons pe_non pa_nil)))))))
      (pss_cons (ps_for PassesOwn.never rfl (pi_tup (pe_ix ix_list (pv 0) pe_int (fun _ _ => rfl))) (pg_name (i := 2) sc_points.nd rfl (by first | exact .inl rfl | exact .inr rfl))
        (pss_cons (ps_set (i := 1) sc_points.nd rfl (by first | exact .inl rfl | exact .inr rfl) (pe_op op_cat (pv 1) (pe_lst (pa_cons (pe_callB (call_max2 rfl) (by rfl) m_max (by decide +kernel) (pa_cons pe_int (pa_cons (pe_op op_sub (pe_ix ix_tup (pv 2) pe_int (fun _ _ => rfl)) pe_int) pa_nil))) (pa_cons (pe_ix ix_tup (pv 2) pe_int (fun _ _ => rfl)) (pa_cons (pe_op op_add (pe_ix ix_tup (pv 2) pe_int (fun _ _ => rfl)) pe_int) pa_nil))))))
      (pss_one (ps_if (pt_cmpR op_notN (pe_ix ix_tup (pv 2) pe_int (fun _ _ => rfl)) pe_non (nomark _)) (pss_one (ps_set (i := 1) sc_points.nd rfl (by first | exact .inl rfl | exact .inr rfl) (pe_op op_cat (pv 1) (pe_lst (pa_cons (pe_op op_sub (pe_ix ix_tup (pv 2) pe_int (fun _ _ => rfl)) pe_int) (pa_cons (pe_ix ix_tup (pv 2) pe_int (fun _ _ => rfl)) (pa_cons (pe_op op_add (pe_ix ix_tup (pv 2) pe_int (fun _ _ => rfl)) pe_int) pa_nil))))))) pss_nil))))
      (pss_one (ps_ret (pv 1))))), ?_⟩
    walk_at "go"
    intro q0 nq
    have s0 : Same H (upd H q0 (.lst [.int 0, .int 1, .int 2, .int (10 ^ 60), .non])) := same_new nq
    have hl0 := s0.seq hl
    walk_at "go"
    refine ⟨⟨_, (hR.mono s0).1⟩, ?_⟩
    refine for_prs (hR.mono s0) (fun i σ H1 => Same (upd H q0 (.lst [.int 0, .int 1, .int 2, .int (10 ^ 60), .non])) H1 ∧ ∃ (q1 : Addr) (pts : List (Option Int)) (v2 : Option V), σ = [some (.ref l), some (.ref q1), v2] ∧ H1 q1 = some (.lst (pts.map oV)) ∧ Pos pts ∧ pts.length ≤ 5 + 6 * i) ⟨Same.refl _, q0, [some 0, some 1, some 2, some (10 ^ 60), none], none, rfl, upd_same, ?_, by decide⟩ ?_ ?_ ?_
    · intro k hk i e
      rcases List.mem_cons.mp hk with h | hk
      · rw [h] at e; cases e; decide
      rcases List.mem_cons.mp hk with h | hk
      · rw [h] at e; cases e; decide
      rcases List.mem_cons.mp hk with h | hk
      · rw [h] at e; cases e; decide
      rcases List.mem_cons.mp hk with h | hk
      · rw [h] at e; cases e; decide
      rcases List.mem_cons.mp hk with h | hk
      · rw [h] at e; cases e
      · cases hk
    · rintro i σ H1 ⟨s1, _⟩
      exact s1
    · rintro i p lo h σ H1 hi hp ⟨s1, q1, pts, v2, rfl, e1, hp1, hl1⟩
      have hp : SqT K H1 p [.int lo, oV h] := hp
      obtain ⟨g1, g2⟩ := good_at ok.good hi
      have hq1 : SqL K H1 q1 (pts.map oV) := SqL.of e1
      have hi3 : i < rs.length := (List.getElem?_eq_some_iff.mp hi).1
      have hr3 := ok.2.1
      walk_at "go"
      intro b1 nb1
      walk_at "go"
      have s2 : Same H1 (upd H1 b1 (.lst [.int (if lo - 1 > 0 then lo - 1 else 0), .int lo, .int (lo + 1)])) := same_new nb1
      refine ⟨q1, b1, _, _, rfl, rfl, s2 _ _ e1, upd_same, ?_, ?_⟩
      · rw [List.length_map]
        exact Nat.le_trans (show pts.length + 3 ≤ 1000 by omega) (by decide)
      intro q2 nq2
      have s3 := same_new (o := .lst (pts.map oV ++ [.int (if lo - 1 > 0 then lo - 1 else 0), .int lo, .int (lo + 1)])) nq2
      have hp3 : SqT K _ p [.int lo, oV h] := Z.Same.sqT (s2.trans s3) hp
      have hpos : Pos (pts ++ [some (if lo - 1 > 0 then lo - 1 else 0), some lo, some (lo + 1)]) := hp1.append (pos3 (by split <;> omega) (by omega) (by omega))
      have e2 : upd (upd H1 b1 (.lst [.int (if lo - 1 > 0 then lo - 1 else 0), .int lo, .int (lo + 1)])) q2 (.lst (pts.map oV ++ [.int (if lo - 1 > 0 then lo - 1 else 0), .int lo, .int (lo + 1)])) q2 = some (.lst ((pts ++ [some (if lo - 1 > 0 then lo - 1 else 0), some lo, some (lo + 1)]).map oV)) := by
        rw [upd_same, List.map_append]
        rfl
      have len2 : (pts ++ [some (if lo - 1 > 0 then lo - 1 else 0), some lo, some (lo + 1)]).length ≤ 5 + 6 * i + 3 := by
        rw [List.length_append]
        show pts.length + 3 ≤ _
        omega
      have s4 := s2.trans s3
      cases h with
      | none =>
        walk_at "go"
        exact ⟨s1.trans s4, q2, _, _, rfl, e2, hpos, by omega⟩
      | some y =>
        have g3 := g2 y rfl
        walk_at "go"
        intro b2 nb2
        have s5 := same_new (o := .lst [.int (y - 1), .int y, .int (y + 1)]) nb2
        refine ⟨q2, b2, _, _, rfl, rfl, s5 _ _ e2, upd_same, ?_, ?_⟩
        · rw [List.length_map]
          exact Nat.le_trans (show _ + 3 ≤ 1000 by omega) (by decide)
        intro q3 nq3
        have s6 := same_new (o := .lst ((pts ++ [some (if lo - 1 > 0 then lo - 1 else 0), some lo, some (lo + 1)]).map oV ++ [.int (y - 1), .int y, .int (y + 1)])) nq3
        refine ⟨s1.trans (s4.trans (s5.trans s6)), q3, (pts ++ [some (if lo - 1 > 0 then lo - 1 else 0), some lo, some (lo + 1)]) ++ [some (y - 1), some y, some (y + 1)], _, rfl, ?_, hpos.append (pos3 (by omega) (by omega) (by omega)), ?_⟩
        · rw [upd_same]
          simp only [List.map_append]
          rfl
        · rw [List.length_append]
          show _ + 3 ≤ _
          omega
    · rintro σ H1 ⟨s1, q1, pts, v2, rfl, e1, hp1, hl1⟩
      have := ok.2.1
      walk_at "go"
      exact q q1 H1 pts (s0.trans s1) e1 hp1 (by omega)
/-! ### _law_due -/
def dM (g nv k : Option Int) : Option Int := match k with
  | none => match nv with
    | none => none
    | some _ => g
  | some i => match g with
    | none => some i
    | some G => if G < i then some G else some i
def dM0 (g nv k : Option Int) : Option Int := match k with
  | none => match nv with
    | none => none
    | some _ => g
  | some i => some i
def dT (L k : Option Int) : Option Int := match k, L with
  | some i, some y => some (if y > i then y else i)
  | _, _ => none
def due (st : Option Int) (rs : Rs) (nv k : Option Int) : Option Int × Option Int × Option Int := match st with
  | none => (k, none, none)
  | some s => (dM (grt s rs) nv k, dT (lst s rs) k, lst s rs)
def spDue (K : PySem.W.Frag) : Sp := fun vs H Q _ => ∃ (st nv k : Option Int) (l : Addr) (rs : Rs), vs = [.ref l, oV k] ∧ NL K H l st rs nv ∧ LOk st rs nv ∧ ∀ q H', Same H H' → SqL K H' q [oV (due st rs nv k).1, oV (due st rs nv k).2.1, oV (due st rs nv k).2.2] → Q (.ref q) H'
theorem ok_due (F : FnP K "_law_due" s_due f fd) (m_max : mg "max" = none) (c_greatest : Cal P w K mg base 2 "_law_greatest" (spX grt K)) (c_least : Cal P w K mg base 2 "_law_least" (spX lst K)) : FnOk P w K mg base CX0 3 f fd P_due (spDue K) := by
  refine F.ok sc_due (fun vs H Q E h => ?_) (fun cdv A outer s H vs Q E hr h => ?_)
  · obtain ⟨st, nv, k, l, rs, rfl, _⟩ := h
    rfl
  · obtain ⟨st, nv, k, l, rs, rfl, hN, ok, q⟩ := h
    have hN2 := hN
    obtain ⟨t, ps, hl, hR⟩ := hN2
    refine ⟨_, PSs.nox (pss_cons (ps_if (pt_cmpR op_isN (pe_ix ix_list (pv 0) pe_int (fun _ _ => rfl)) pe_non (nomark _)) (pss_one (ps_ret (pe_lst (pa_cons (pv 1) (pa_cons pe_non (pa_cons pe_non pa_nil)))))) pss_nil)
      (pss_cons (ps_set (i := 2) sc_due.nd rfl (by first | exact .inl rfl | exact .inr rfl) (pe_cl c_greatest hr (by decide) (by rfl) (pa_cons (pv 0) pa_nil)))
      (pss_cons (ps_set (i := 3) sc_due.nd rfl (by first | exact .inl rfl | exact .inr rfl) (pe_cl c_least hr (by decide) (by rfl) (pa_cons (pv 0) pa_nil)))
      (pss_cons (ps_set (i := 4) sc_due.nd rfl (by first | exact .inl rfl | exact .inr rfl) (pv 1))
      (pss_cut (ps_if (PW.pt (pw_and (pt_cmpR op_isN (pv 1) pe_non (nomark _)) (pw_and1 (pt_cmpR op_notN (pe_ix ix_list (pv 0) pe_int (fun _ _ => rfl)) pe_non (nomark _))))) (pss_one (ps_set (i := 4) sc_due.nd rfl (by first | exact .inl rfl | exact .inr rfl) (pv 2))) pss_nil)
      (pss_cut (ps_if (PW.pt (pw_and (pt_cmpR op_notN (pv 1) pe_non (nomark _)) (pw_and (pt_cmpR op_notN (pv 2) pe_non (nomark _)) (pw_and1 (pt_cmpR op_lt (pv 2) (pv 1) (nomark _)))))) (pss_one (ps_set (i := 4) sc_due.nd rfl (by first | exact .inl rfl | exact .inr rfl) (pv 2))) pss_nil)
      (pss_cons (ps_set (i := 5) sc_due.nd rfl (by first | exact .inl rfl | exact .inr rfl) pe_non)
      (pss_cut (ps_if (PW.pt (pw_and (pt_cmpR op_notN (pv 1) pe_non (nomark _)) (pw_and1 (pt_cmpR op_notN (pv 3) pe_non (nomark _))))) (pss_one (ps_set (i := 5) sc_due.nd rfl (by first | exact .inl rfl | exact .inr rfl) (pe_callB (call_max2 rfl) (by rfl) m_max (by decide +kernel) (pa_cons (pv 1) (pa_cons (pv 3) pa_nil))))) pss_nil)
      (pss_one (ps_ret (pe_lst (pa_cons (pv 4) (pa_cons (pv 5) (pa_cons (pv 3) pa_nil)))))))))))))), ?_⟩
    cases st with
    | none =>
      walk_at "go"
      intro q0 nq
      exact q q0 _ (same_new nq) (SqL.of upd_same)
    | some s =>
      have hg := ok.good
      have hs := ok.1.2.1 s rfl
      have hb := ok.2.2 s rfl
      walk_at "go"
      refine ⟨s, nv, l, rs, rfl, hN, hg, hs, hb, ?_⟩
      walk_at "go"
      refine ⟨s, nv, l, rs, rfl, hN, hg, hs, hb, ?_⟩
      walk_at "go"
      have dd : due (some s) rs nv k = (dM (grt s rs) nv k, dT (lst s rs) k, lst s rs) := rfl
      rw [dd] at q
      generalize grt s rs = g at q ⊢
      generalize lst s rs = L at q ⊢
      refine ⟨fun σ' H' => H' = H ∧ σ' = [some (.ref l), some (oV k), some (oV g), some (oV L), some (oV (dM0 g nv k)), none], ?_, ?_⟩
      · cases k with
        | none =>
          cases nv with
          | none =>
            walk_at "go"
            rfl
          | some v =>
            walk_at "go"
            rfl
        | some i =>
          walk_at "go"
          rfl
      · rintro σ' H' ⟨rfl, rfl⟩
        refine ⟨fun σ' H1 => H1 = H' ∧ σ' = [some (.ref l), some (oV k), some (oV g), some (oV L), some (oV (dM g nv k)), none], ?_, ?_⟩
        · cases k with
          | none =>
            walk_at "go"
            cases nv <;> rfl
          | some i =>
            cases g with
            | none =>
              walk_at "go"
              rfl
            | some G =>
              walk_at "go"
              refine ite2 (fun e => ?_) (fun e => ?_)
              · have h1 : G < i := of_decide_eq_true e
                walk_at "go"
                rw [show dM (some G) nv (some i) = some G from if_pos h1]
                rfl
              · have h1 : ¬ G < i := fun z => e (decide_eq_true z)
                refine ⟨rfl, ?_⟩
                rw [show dM (some G) nv (some i) = some i from if_neg h1]
                rfl
        · rintro σ' H1 ⟨rfl, rfl⟩
          walk_at "go"
          refine ⟨fun σ' H2 => H2 = H1 ∧ σ' = [some (.ref l), some (oV k), some (oV g), some (oV L), some (oV (dM g nv k)), some (oV (dT L k))], ?_, ?_⟩
          · cases k with
            | none =>
              walk_at "go"
              rfl
            | some i =>
              cases L with
              | none =>
                walk_at "go"
                rfl
              | some y =>
                walk_at "go"
                rfl
          · rintro σ' H2 ⟨rfl, rfl⟩
            walk_at "go"
            intro q0 nq
            exact q q0 _ (same_new nq) (SqL.of upd_same)
/-! ### _law_between -/
def Inv (st : Option Int) (rs : Rs) (nv k v : Option Int) : Prop := am (due st rs nv k).1 v = true ∧ am v (due st rs nv k).2.1 = true ∧ match st with
  | none => v = k ∨ v = none
  | some _ => ∃ j, v = some j ∧ 0 ≤ j
theorem inv0 {st nv : Option Int} {rs : Rs} {i : Int} (ok : LOk st rs nv) (hi : 0 ≤ i) : Inv st rs nv (some i) (some i) := by
  cases st with
  | none => exact ⟨decide_eq_true (Int.le_refl i), rfl, .inl rfl⟩
  | some s =>
    refine ⟨?_, ?_, i, rfl, hi⟩
    · show am (dM (grt s rs) nv (some i)) (some i) = true
      unfold dM
      cases grt s rs with
      | none => exact decide_eq_true (Int.le_refl i)
      | some G =>
        dsimp only
        split
        · exact decide_eq_true (by omega)
        · exact decide_eq_true (Int.le_refl i)
    · show am (some i) (dT (lst s rs) (some i)) = true
      unfold dT
      cases lst s rs with
      | none => rfl
      | some y =>
        dsimp only
        refine decide_eq_true ?_
        split <;> omega
theorem inv_step {st nv : Option Int} {rs : Rs} {i : Int} {v : Option Int} (ok : LOk st rs nv) (hi : 0 ≤ i) (h : Inv st rs nv (some i) v) : Inv st rs nv (some i) (val st rs nv v) := by
  cases st with
  | none =>
    have e : val none rs nv v = none := ok.nv
    rw [e]
    exact ⟨rfl, rfl, .inr rfl⟩
  | some s =>
    obtain ⟨h1, h2, j, rfl, hj⟩ := h
    have hg := ok.good
    have hs := ok.1.2.1 s rfl
    have z0 := (Fs_slope (x := j) (y := j) (by omega) hg).1
    refine ⟨?_, ?_, _, rfl, by omega⟩
    · have h1 : am (dM (grt s rs) nv (some i)) (some j) = true := h1
      show am (dM (grt s rs) nv (some i)) (some (s + Fs rs j)) = true
      have sp := grt_spec hg hs
      unfold dM at h1 ⊢
      cases e : grt s rs with
      | none =>
        rw [e] at h1 sp
        have a : i ≤ j := of_decide_eq_true h1
        have b := sp i hi
        have c := (Fs_slope (x := i) (y := j) a hg).2.1
        exact decide_eq_true (by omega)
      | some G =>
        rw [e] at h1 sp
        dsimp only at h1 ⊢
        split at h1
        · next hlt =>
          rw [if_pos hlt]
          have a : G ≤ j := of_decide_eq_true h1
          have b := (sp.2 G sp.1).mpr (Int.le_refl _)
          have c := (Fs_slope (x := G) (y := j) a hg).2.1
          exact decide_eq_true (by omega)
        · next hlt =>
          rw [if_neg hlt]
          have a : i ≤ j := of_decide_eq_true h1
          have b := (sp.2 i hi).mpr (by omega)
          have c := (Fs_slope (x := i) (y := j) a hg).2.1
          exact decide_eq_true (by omega)
    · have h2 : am (some j) (dT (lst s rs) (some i)) = true := h2
      show am (some (s + Fs rs j)) (dT (lst s rs) (some i)) = true
      have sp := lst_spec hg hs
      unfold dT at h2 ⊢
      cases e : lst s rs with
      | none => rfl
      | some y =>
        rw [e] at h2 sp
        dsimp only at h2 ⊢
        have a : j ≤ (if y > i then y else i) := of_decide_eq_true h2
        refine decide_eq_true ?_
        have b : y ≤ (if y > i then y else i) := by split <;> omega
        have b0 : 0 ≤ (if y > i then y else i) := by split <;> omega
        generalize (if y > i then y else i) = M at a b b0 ⊢
        have d := (sp.2 M b0).mpr b
        have c := (Fs_slope (x := j) (y := M) a hg).2.1
        omega
def spBetween (K : PySem.W.Frag) : Sp := fun vs H Q _ => ∃ (st nv : Option Int) (i : Int) (l : Addr) (rs : Rs), vs = [.ref l, .int i, oV (due st rs nv (some i)).1, oV (due st rs nv (some i)).2.1] ∧ NL K H l st rs nv ∧ LOk st rs nv ∧ 0 ≤ i ∧ Q (.bl true) H
theorem ok_between (F : FnP K "_law_between" s_between f fd) (m_range : mg "range" = none) (c_at_most : Cal P w K mg base 1 "_law_at_most" spAm) (c_value : Cal P w K mg base 1 "_law_value" (spLV K)) : FnOk P w K mg base CX0 2 f fd P_between (spBetween K) := by
  refine F.ok sc_between (fun vs H Q E h => ?_) (fun cdv A outer s H vs Q E hr h => ?_)
  · obtain ⟨st, nv, i, l, rs, rfl, _⟩ := h
    rfl
  · obtain ⟨st, nv, i, l, rs, rfl, hN, ok, hi, q⟩ := h
    refine ⟨_, PSs.nox (pss_cons (ps_set (i := 4) sc_between.nd rfl (by first | exact .inl rfl | exact .inr rfl) (pv 1))
      (pss_cons (ps_for PassesOwn.never rfl (pi_range1 (by rfl) m_range (pa_cons pe_int pa_nil)) (pg_name (i := 5) sc_between.nd rfl (by first | exact .inl rfl | exact .inr rfl))
        (pss_cons (ps_if (PW.pt (pw_or (pt_not (pt_val (pe_cl c_at_most hr (by decide) (by rfl) (pa_cons (pv 2) (pa_cons (pv 4) pa_nil))))) (pw_or1 (pt_not (pt_val (pe_cl c_at_most hr (by decide) (by rfl) (pa_cons (pv 4) (pa_cons (pv 3) pa_nil)))))))) (pss_one (ps_ret pe_bl)) pss_nil)
      (pss_one (ps_set (i := 4) sc_between.nd rfl (by first | exact .inl rfl | exact .inr rfl) (pe_cl c_value hr (by decide) (by rfl) (pa_cons (pv 0) (pa_cons (pv 4) pa_nil)))))))
      (pss_one (ps_ret pe_bl)))), ?_⟩
    walk_at "go"
    refine for_gen (n := 30) (fun j σ H1 => H1 = H ∧ ∃ (v : Option Int) (v5 : Option V), σ = [some (.ref l), some (.int i), some (oV (due st rs nv (some i)).1), some (oV (due st rs nv (some i)).2.1), some (oV v), v5] ∧ Inv st rs nv (some i) v) ⟨rfl, some i, none, rfl, inv0 ok hi⟩ (fun i σ H1 hi _ => hi) (fun σ H1 _ => Nat.le_refl _) ?_ ?_
    · rintro j σ H1 x H2 hj ⟨rfl, v, v5, rfl, iv⟩ ⟨rfl, rfl⟩
      walk_at "go"
      rw [iv.1]
      walk_at "go"
      rw [iv.2.1]
      walk_at "go"
      refine ⟨st, nv, v, l, rs, rfl, hN, ?_⟩
      walk_at "go"
      exact inv_step ok hi iv
    · rintro σ H1 ⟨rfl, v, v5, rfl, iv⟩
      walk_at "go"
      exact q
end
end Z
set_option Elab.async false
set_option linter.all false
set_option maxRecDepth 100000
set_option maxHeartbeats 4000000
namespace Z
open Nd
open PySem PySem.Spec PyProof.Rows L2
open C8 (pss_cut tCut)
local macro_rules | `(tactic| walk_at "num") => `(tactic| first | rfl | omega | decide | exact Nat.le_of_lt (small1000 (by simp)) | exact ⟨by omega, by omega⟩ | exact ⟨by omega, by omega, by omega⟩ | exact ⟨by decide, by decide, by decide⟩ | exact Or.inl ⟨by omega, by omega⟩ | exact Or.inr ⟨by omega, by omega⟩)
local macro_rules | `(tactic| walk_at "go") => `(tactic| repeat (first | refine ⟨_, rfl, ?_⟩ | refine ⟨_, _, rfl, rfl, ?_⟩ | refine ⟨_, _, rfl, ?_⟩ | refine ⟨_, _, rfl, rfl, (by walk_at "num"), ?_⟩ | refine Or.inl ⟨_, rfl, ?_⟩ | refine ⟨_, _, _, _, rfl, rfl, (by assumption), (by rfl), ?_⟩ | refine ⟨_, _, _, _, _, rfl, (by assumption), (by assumption), (by assumption), (by rfl), ?_⟩ | refine ⟨rfl, ?_⟩ | refine And.intro (by walk_at "num") ?_))
abbrev s_need : Stmt := topS 23
abbrev N_need : List Str := ["_law_draws_here", "_law_place", "_law_kind", "_law_start", "_law_rises", "_law_top", "_law_edge", "_law_k", "_law_width", "_law_never"]
abbrev P_need : List Str := ["_law_draws_here", "_law_place"]
theorem sc_need : FnScope N_need P_need (defScope s_need) := ⟨rfl, rfl, rfl, by decide +kernel, rfl, by decide +kernel, by decide +kernel⟩
/-! ### closed pairs, ending before z -/
def Gd : Int → Rs → Int → Prop
  | e, [], z => e < z
  | e, (l, some h) :: r, z => e < l ∧ l < h ∧ Gd h r z
  | _, (_, none) :: _, _ => False
theorem Gd.good : ∀ {rs : Rs} {e z : Int}, Gd e rs z → Good e rs
  | [], _, _, _ => trivial
  | (_, some _) :: _, _, _, g => ⟨g.1, g.2.1, g.2.2.good⟩
  | (_, none) :: _, _, _, g => by cases g
theorem Gd.snoc : ∀ {rs : Rs} {e z h z' : Int}, Gd e rs z → z < h → h < z' → Gd e (rs ++ [(z, some h)]) z'
  | [], _, _, _, _, g, a, b => ⟨g, a, b⟩
  | (_, some _) :: _, _, _, _, _, g, a, b => ⟨g.1, g.2.1, g.2.2.snoc a b⟩
  | (_, none) :: _, _, _, _, _, g, _, _ => by cases g
theorem Gd.opened : ∀ {rs : Rs} {e z l : Int} {h : Option Int}, Gd e (rs ++ [(l, h)]) z → Good e (rs ++ [(l, none)])
  | [], _, _, _, some _, g => ⟨g.1, rfl⟩
  | [], _, _, _, none, g => by cases g
  | (_, some _) :: _, _, _, _, _, g => ⟨g.1, g.2.1, g.2.2.opened⟩
  | (_, none) :: _, _, _, _, _, g => by cases g
theorem top_snoc : ∀ {rs : Rs} {e z t T h : Int}, Gd e rs z → top t rs = some T → top t (rs ++ [(z, some h)]) = some (T + h - z)
  | [], _, z, t, T, h, _, e => by
    cases e
    rfl
  | (_, some _) :: r, _, _, _, _, _, g, e => top_snoc (rs := r) g.2.2 e
  | (_, none) :: _, _, _, _, _, _, g, _ => by cases g
theorem bnd_closed : ∀ {rs : Rs} {e z t T : Int}, Gd e rs z → top t rs = some T → bnd t rs = T
  | [], _, _, _, _, _, e => Option.some.inj e
  | (_, some _) :: r, _, _, _, _, g, e => bnd_closed (rs := r) g.2.2 e
  | (_, none) :: _, _, _, _, _, g, _ => by cases g
theorem bnd_open : ∀ {rs : Rs} {e z t T l : Int} {h : Option Int}, Gd e (rs ++ [(l, h)]) z → top t (rs ++ [(l, h)]) = some T → bnd t (rs ++ [(l, none)]) ≤ max T l ∧ l < z
  | [], e, z, t, T, l, some h, g, k => by
    have k : t + h - l = T := Option.some.inj k
    have g1 := g.2.1
    have g2 : h < z := g.2.2
    show (if l > t then l else t) ≤ _ ∧ _
    split <;> omega
  | [], _, _, _, _, _, none, g, _ => by cases g
  | (_, some _) :: r, _, _, _, _, _, _, g, k => bnd_open (rs := r) g.2.2 k
  | (_, none) :: _, _, _, _, _, _, _, g, _ => by cases g
/-! ### the draws -/
structure Tk (K : PySem.W.Frag) (a p : Addr) (ds : List Int) (n : Nat) (H0 H1 : Hp) : Prop where
  hA : H1 a = some (.lst (ds.map V.int))
  hd : Dr n ds
  ne : a ≠ p
  sb : SB p H0 H1
  pl : ∃ m : Nat, H1 p = some (.lst [.int (m : Int)])
theorem Tk.more {K : PySem.W.Frag} {a p : Addr} {ds : List Int} {n : Nat} {H0 H1 H2 : Hp} (t : Tk K a p ds n H0 H1) (s : Same H1 H2) : Tk K a p ds n H0 H2 := by
  obtain ⟨m, e⟩ := t.pl
  exact ⟨s _ _ t.hA, t.hd, t.ne, t.sb.trans (Z.Same.sb s), m, s _ _ e⟩
theorem Tk.mut {K : PySem.W.Frag} {a p q : Addr} {ds : List Int} {n : Nat} {H0 H1 : Hp} {o : HO} (t : Tk K a p ds n H0 H1) (h : H0 q = none) (h2 : SB q H1 (upd H1 q o)) (nq : q ≠ p) (na : upd H1 q o a = some (.lst (ds.map V.int))) : Tk K a p ds n H0 (upd H1 q o) := by
  obtain ⟨m, e⟩ := t.pl
  refine ⟨na, t.hd, t.ne, fun b u n1 n2 => ?_, m, h2 _ _ nq.symm e⟩
  exact h2 _ _ (ne_of_none n2 h) (t.sb b u n1 n2)
theorem Tk.next {K : PySem.W.Frag} {a p : Addr} {ds : List Int} {n m : Nat} {H0 H1 : Hp} (t : Tk K a p ds n H0 H1) (e : H1 p = some (.lst [.int (m : Int)])) : Tk K a p ds n H0 (upd H1 p (.lst [.int ((m + 1 : Nat) : Int)])) ∧ SB p H1 (upd H1 p (.lst [.int ((m + 1 : Nat) : Int)])) := by
  have sb : SB p H1 (upd H1 p (.lst [.int ((m + 1 : Nat) : Int)])) := SB.upd (Z.Same.sb (Same.refl H1))
  exact ⟨⟨sb _ _ t.ne t.hA, t.hd, t.ne, t.sb.trans sb, m + 1, upd_same⟩, sb⟩
/-! ### the list of pairs while it grows -/
def RisH (H : Hp) (a : Addr) (ps : List Addr) (rs : Rs) : Prop := H a = some (.lst (ps.map V.ref)) ∧ ps.length = rs.length ∧ ∀ (i : Nat) (p : Addr) (q : Int × Option Int), ps[i]? = some p → rs[i]? = some q → H p = some (.tup [.int q.1, oV q.2])
theorem RisH.sb {H H' : Hp} {a p : Addr} {ps : List Addr} {rs : Rs} {xs : List V} (s : SB p H H') (ne : a ≠ p) (hp : H p = some (.lst xs)) (r : RisH H a ps rs) : RisH H' a ps rs := ⟨s _ _ ne r.1, r.2.1, fun i q z h1 h2 => by
  have e := r.2.2 i q z h1 h2
  refine s _ _ (fun w => ?_) e
  rw [w, hp] at e
  cases e⟩
theorem RisH.more {H H' : Hp} {a : Addr} {ps : List Addr} {rs : Rs} (s : Same H H') (r : RisH H a ps rs) : RisH H' a ps rs := ⟨s _ _ r.1, r.2.1, fun i q z h1 h2 => s _ _ (r.2.2 i q z h1 h2)⟩
theorem RisH.ris {K : PySem.W.Frag} {H : Hp} {a : Addr} {ps : List Addr} {rs : Rs} (r : RisH H a ps rs) : Ris true false K H a ps rs := ⟨SqL.of r.1, r.2.1, fun i q z h1 h2 => .inl (.inl (r.2.2 i q z h1 h2))⟩
theorem RisH.snoc {H : Hp} {a T : Addr} {ps : List Addr} {rs : Rs} {x : Int} {y : Option Int} (r : RisH H a ps rs) (hT : H T = some (.tup [.int x, oV y])) : RisH (upd H a (.lst (ps.map V.ref ++ [.ref T]))) a (ps ++ [T]) (rs ++ [(x, y)]) := by
  have ne : ∀ {q : Addr} {xs : List V}, H q = some (.tup xs) → q ≠ a := fun e w => by
    rw [w, r.1] at e
    cases e
  refine ⟨by rw [upd_same, List.map_append]; rfl, by rw [List.length_append, List.length_append, r.2.1]; rfl, fun i q z h1 h2 => ?_⟩
  by_cases hlt : i < ps.length
  · rw [List.getElem?_append_left hlt] at h1
    rw [List.getElem?_append_left (by rw [← r.2.1]; exact hlt)] at h2
    have e := r.2.2 i q z h1 h2
    rw [upd_ne (ne e)]
    exact e
  · rw [List.getElem?_append_right (by omega)] at h1
    rw [List.getElem?_append_right (by rw [← r.2.1]; omega)] at h2
    have h3 : i - ps.length = 0 := by
      have := (List.getElem?_eq_some_iff.mp h1).1
      simp at this
      omega
    rw [h3] at h1
    rw [← r.2.1, h3] at h2
    obtain rfl : T = q := Option.some.inj h1
    obtain rfl := Option.some.inj h2
    rw [upd_ne (ne hT)]
    exact hT
theorem cut_last (xs : List V) (v : V) : cutV (xs ++ [v]) none (some (-1)) = xs := by
  unfold cutV
  have h0 : HT.sIx (xs ++ [v]).length 0 none = 0 := rfl
  have h1 : HT.sIx (xs ++ [v]).length (xs ++ [v]).length (some (-1)) = xs.length := by
    rw [List.length_append]
    show HT.sIx (xs.length + 1) (xs.length + 1) (some (-1)) = xs.length
    unfold HT.sIx
    simp
    omega
  rw [h0, h1]
  simp
section
variable {P : Program} {w : World} {K : PySem.W.Frag} {mg : Str → Option Value} {base : Heap} {f C : Addr} {fd : FuncData}
def spLN (K : PySem.W.Frag) : Sp := fun vs H Q _ => ∃ (a p : Addr) (n : Nat) (ds : List Int), vs = [.ref a, .ref p] ∧ Tk K a p ds n H H ∧ ∀ l H' st rs nv, SB p H H' → NL K H' l st rs nv → LOk st rs nv → Q (.ref l) H'
theorem ok_need (F : FnP K "_law_need" s_need f fd) (m_int : mg "int" = none) (m_range : mg "range" = none) (m_len : mg "len" = none) (m_tuple : mg "tuple" = none) (c_take : Cal P w K mg base 1 "_law_take" (spTake K)) : FnOk P w K mg base CX0 2 f fd P_need (spLN K) := by
  refine F.ok sc_need (fun vs H Q E h => ?_) (fun cdv A outer s H vs Q E hr h => ?_)
  · obtain ⟨a, p, n, ds, rfl, _⟩ := h
    rfl
  · obtain ⟨a, p, n, ds, rfl, hT, q⟩ := h
    have hS := hT.hA
    refine ⟨_, PSs.nox (pss_cons (ps_set (i := 2) sc_need.nd rfl (by first | exact .inl rfl | exact .inr rfl) (pe_cl c_take hr (by decide) (by rfl) (pa_cons (pv 0) (pa_cons (pv 1) pa_nil))))
      (pss_cons (ps_if (pt_cmpR op_eq (pe_op op_mod (pe_callTy call_int1 (by rfl) m_int (by decide +kernel) (pa_cons (pv 2) pa_nil)) pe_int) pe_int (nomark _)) (pss_one (ps_ret (pe_lst (pa_cons pe_non (pa_cons (pe_tup pa_nil) (pa_cons pe_non pa_nil)))))) pss_nil)
      (pss_cons (ps_set (i := 3) sc_need.nd rfl (by first | exact .inl rfl | exact .inr rfl) (pe_op op_mod (pe_callTy call_int1 (by rfl) m_int (by decide +kernel) (pa_cons (pe_cl c_take hr (by decide) (by rfl) (pa_cons (pv 0) (pa_cons (pv 1) pa_nil))) pa_nil)) pe_int))
      (pss_cut (ps_if (pt_cmpR op_eq (pe_op op_mod (pe_callTy call_int1 (by rfl) m_int (by decide +kernel) (pa_cons (pe_op op_fdiv (pv 2) pe_int) pa_nil)) pe_int) pe_int (nomark _)) (pss_one (ps_set (i := 3) sc_need.nd rfl (by first | exact .inl rfl | exact .inr rfl) (pe_op op_add (pv 3) (pe_op op_pow pe_int pe_int)))) pss_nil)
      (pss_cons (ps_set (i := 4) sc_need.nd rfl (by first | exact .inl rfl | exact .inr rfl) (pe_lst pa_nil))
      (pss_cons (ps_set (i := 5) sc_need.nd rfl (by first | exact .inl rfl | exact .inr rfl) (pv 3))
      (pss_cons (ps_set (i := 6) sc_need.nd rfl (by first | exact .inl rfl | exact .inr rfl) (pe_op op_mod (pe_callTy call_int1 (by rfl) m_int (by decide +kernel) (pa_cons (pe_cl c_take hr (by decide) (by rfl) (pa_cons (pv 0) (pa_cons (pv 1) pa_nil))) pa_nil)) pe_int))
      (pss_cons (ps_for PassesOwn.never rfl (pi_range1 (by rfl) m_range (pa_cons (pe_op op_mod (pe_callTy call_int1 (by rfl) m_int (by decide +kernel) (pa_cons (pe_cl c_take hr (by decide) (by rfl) (pa_cons (pv 0) (pa_cons (pv 1) pa_nil))) pa_nil)) pe_int) pa_nil)) (pg_name (i := 7) sc_need.nd rfl (by first | exact .inl rfl | exact .inr rfl))
        (pss_cons (ps_set (i := 8) sc_need.nd rfl (by first | exact .inl rfl | exact .inr rfl) (pe_op op_add pe_int (pe_op op_mod (pe_callTy call_int1 (by rfl) m_int (by decide +kernel) (pa_cons (pe_cl c_take hr (by decide) (by rfl) (pa_cons (pv 0) (pa_cons (pv 1) pa_nil))) pa_nil)) pe_int)))
      (pss_cut (ps_if (pt_cmpR op_eq (pe_op op_mod (pe_callTy call_int1 (by rfl) m_int (by decide +kernel) (pa_cons (pe_op op_fdiv (pv 2) pe_int) pa_nil)) pe_int) pe_int (nomark _)) (pss_one (ps_set (i := 8) sc_need.nd rfl (by first | exact .inl rfl | exact .inr rfl) (pe_op op_mul (pv 8) (pe_op op_pow pe_int pe_int)))) pss_nil)
      (pss_cons (ps_expr (pe_bm PySem.F.plainAttrs_list PySem.F.slot_list_append PySem.F.type_list_append mt_append (pv 4) (pa_cons (pe_tup (pa_cons (pv 6) (pa_cons (pe_op op_add (pv 6) (pv 8)) pa_nil))) pa_nil)))
      (pss_cons (ps_set (i := 5) sc_need.nd rfl (by first | exact .inl rfl | exact .inr rfl) (pe_op op_add (pv 5) (pv 8)))
      (pss_one (ps_set (i := 6) sc_need.nd rfl (by first | exact .inl rfl | exact .inr rfl) (pe_op op_add (pe_op op_add (pe_op op_add (pv 6) (pv 8)) pe_int) (pe_op op_mod (pe_callTy call_int1 (by rfl) m_int (by decide +kernel) (pa_cons (pe_cl c_take hr (by decide) (by rfl) (pa_cons (pv 0) (pa_cons (pv 1) pa_nil))) pa_nil)) pe_int)))))))))
      (pss_cut (ps_if (PW.pt (pw_and (pt_cmpR op_gt (pe_callB call_len_seq (by rfl) m_len PySem.boot_len (pa_cons (pv 4) pa_nil)) pe_int (nomark _)) (pw_and1 (pt_cmpR op_eq (pe_op op_mod (pe_callTy call_int1 (by rfl) m_int (by decide +kernel) (pa_cons (pe_op op_fdiv (pv 2) pe_int) pa_nil)) pe_int) pe_int (nomark _))))) (pss_one (ps_ret (pe_lst (pa_cons (pv 3) (pa_cons (pe_callTy call_tuple_of (by rfl) m_tuple (by decide +kernel) (pa_cons (pe_op op_cat (pe_slice sl_list (pv 4) po_none (po_some (pe_un un_neg pe_int))) (pe_lst (pa_cons (pe_tup (pa_cons (pe_ix ix_tup (pe_ix ix_list (pv 4) (pe_un un_neg pe_int) (fun _ _ => rfl)) pe_int (fun _ _ => rfl)) (pa_cons pe_non pa_nil))) pa_nil))) pa_nil)) (pa_cons pe_non pa_nil)))))) pss_nil)
      (pss_cons (ps_set (i := 9) sc_need.nd rfl (by first | exact .inl rfl | exact .inr rfl) pe_non)
      (pss_cut (ps_if (pt_cmpR op_eq (pe_op op_mod (pe_callTy call_int1 (by rfl) m_int (by decide +kernel) (pa_cons (pe_op op_fdiv (pv 2) pe_int) pa_nil)) pe_int) pe_int (nomark _)) (pss_one (ps_set (i := 9) sc_need.nd rfl (by first | exact .inl rfl | exact .inr rfl) (pe_op op_add (pv 5) (pe_op op_mod (pe_callTy call_int1 (by rfl) m_int (by decide +kernel) (pa_cons (pe_cl c_take hr (by decide) (by rfl) (pa_cons (pv 0) (pa_cons (pv 1) pa_nil))) pa_nil)) pe_int)))) pss_nil)
      (pss_one (ps_ret (pe_lst (pa_cons (pv 3) (pa_cons (pe_callTy call_tuple_of (by rfl) m_tuple (by decide +kernel) (pa_cons (pv 4) pa_nil)) (pa_cons (pv 9) pa_nil))))))))))))))))), ?_⟩
    walk_at "go"
    obtain ⟨m, em⟩ := hT.pl
    refine ⟨a, p, n, m, ds, rfl, SqL.of hT.hA, hT.hd, em, hT.ne, fun kd kd1 kd2 => ?_⟩
    obtain ⟨hT', sbkd⟩ := hT.next em
    generalize eH : upd H p (.lst [.int ((m + 1 : Nat) : Int)]) = H1 at hT' sbkd ⊢
    have hT0 := hT
    clear hT
    have hT := hT'
    clear hT'
    walk_at "go"
    refine ite2 (fun e => ?_) (fun e => ?_)
    · walk_at "go"
      intro t nt
      walk_at "go"
      intro l nl
      have s1 := same_new (o := .tup []) nt
      have s2 := same_new (o := .lst [.non, .ref t, .non]) nl
      refine q l _ none [] none ((hT.more s1).more s2).sb ⟨t, [], SqL.of upd_same, ris_nil (.inl (.inl (s2 _ _ upd_same)))⟩ ⟨⟨rfl, nofun, nofun⟩, by decide, nofun⟩
    · walk_at "go"
      obtain ⟨m, em⟩ := hT.pl
      refine ⟨a, p, n, m, ds, rfl, SqL.of hT.hA, hT.hd, em, hT.ne, fun ra ra1 ra2 => ?_⟩
      obtain ⟨hT', sbra⟩ := hT.next em
      generalize eH : upd H1 p (.lst [.int ((m + 1 : Nat) : Int)]) = H2 at hT' sbra ⊢
      have hT0 := hT
      clear hT
      have hT := hT'
      clear hT'
      walk_at "go"
      refine ⟨fun σ' H' => H' = H2 ∧ ∃ st : Int, 0 ≤ st ∧ st ≤ 2 * 10 ^ 30 ∧ σ' = [some (.ref a), some (.ref p), some (.int kd), some (.int st), none, none, none, none, none, none], ?_, ?_⟩
      · walk_at "go"
        refine ite2 (fun e => ?_) (fun e => ?_)
        · walk_at "go"
          have e30 : (10 : Int) ^ Int.toNat 30 = 1000000000000000000000000000000 := by decide
          exact ⟨_, by omega, by omega, rfl⟩
        · exact ⟨rfl, _, by omega, by omega, rfl⟩
      · rintro σ' H' ⟨rfl, st, b1, b2, rfl⟩
        walk_at "go"
        intro R nR
        have Rp : R ≠ p := by
          obtain ⟨m, em⟩ := hT.pl
          exact (ne_of_none em nR).symm
        have nR0 : H R = none := by
          cases e : H R with
          | none => rfl
          | some o =>
            have := hT.sb _ _ Rp e
            rw [this] at nR
            cases nR
        have aR : a ≠ R := ne_of_none hT.hA nR
        have hT0 := hT
        clear hT
        have hT := hT0.more (same_new (o := .lst []) nR)
        have hRR : RisH (upd H' R (.lst [])) R [] [] := ⟨upd_same, rfl, fun i p q h => nomatch h⟩
        generalize eR : upd H' R (.lst []) = H3 at hT hRR ⊢
        walk_at "go"
        obtain ⟨m, em⟩ := hT.pl
        refine ⟨a, p, n, m, ds, rfl, SqL.of hT.hA, hT.hd, em, hT.ne, fun rb rb1 rb2 => ?_⟩
        obtain ⟨hT', sbrb⟩ := hT.next em
        generalize eH : upd H3 p (.lst [.int ((m + 1 : Nat) : Int)]) = H4 at hT' sbrb ⊢
        have hT0 := hT
        clear hT
        have hT := hT'
        clear hT'
        walk_at "go"
        have hR4 := hRR.sb sbrb Rp em
        obtain ⟨m, em⟩ := hT.pl
        refine ⟨a, p, n, m, ds, rfl, SqL.of hT.hA, hT.hd, em, hT.ne, fun rc rc1 rc2 => ?_⟩
        obtain ⟨hT', sbrc⟩ := hT.next em
        generalize eH : upd H4 p (.lst [.int ((m + 1 : Nat) : Int)]) = H5 at hT' sbrc ⊢
        have hT0 := hT
        clear hT
        have hT := hT'
        clear hT'
        have hR5 := hR4.sb sbrc Rp em
        walk_at "go"
        refine for_gen (n := (rc % 6).toNat) (fun i σ H6 => ∃ (ps : List Addr) (rs : Rs) (T ed : Int) (v7 v8 : Option V), Tk K a p ds n H H6 ∧ RisH H6 R ps rs ∧ rs.length = i ∧ Gd (-1) rs ed ∧ top st rs = some T ∧ 0 ≤ T ∧ T ≤ 2 * 10 ^ 30 + i * 10 ^ 21 ∧ 0 ≤ ed ∧ ed ≤ 10 + i * 10 ^ 21 ∧ σ = [some (.ref a), some (.ref p), some (.int kd), some (.int st), some (.ref R), some (.int T), some (.int ed), v7, v8, none]) ⟨[], [], st, _, none, none, hT, hR5, rfl, ?_, rfl, b1, by omega, ?_, ?_, rfl⟩ (fun i σ H6 hi _ => hi) (fun σ H6 _ => Nat.le_refl _) ?_ ?_
        · show -1 < rb % 6
          omega
        · omega
        · omega
        · rintro i σ H6 x H7 hi ⟨ps, rs, T, ed, v7, v8, hT, hRi, hlen, hgd, htop, t1, t2, d1, d2, rfl⟩ ⟨rfl, rfl⟩
          walk_at "go"
          obtain ⟨m, em⟩ := hT.pl
          refine ⟨a, p, n, m, ds, rfl, SqL.of hT.hA, hT.hd, em, hT.ne, fun wa wa1 wa2 => ?_⟩
          obtain ⟨hT', sbwa⟩ := hT.next em
          generalize eH : upd H7 p (.lst [.int ((m + 1 : Nat) : Int)]) = H8 at hT' sbwa ⊢
          have hT0 := hT
          clear hT
          have hT := hT'
          clear hT'
          have hR8 := hRi.sb sbwa Rp em
          walk_at "go"
          refine ⟨fun σ' H9 => H9 = H8 ∧ ∃ wd : Int, 1 ≤ wd ∧ wd ≤ 6 * 10 ^ 20 ∧ σ' = [some (.ref a), some (.ref p), some (.int kd), some (.int st), some (.ref R), some (.int T), some (.int ed), some (.int (0 + (i : Int))), some (.int wd), none], ?_, ?_⟩
          · walk_at "go"
            refine ite2 (fun e => ?_) (fun e => ?_)
            · walk_at "go"
              have e20 : (10 : Int) ^ Int.toNat 20 = 100000000000000000000 := by decide
              refine ⟨_, ?_, ?_, rfl⟩ <;> rw [e20] <;> omega
            · exact ⟨rfl, _, by omega, by omega, rfl⟩
          · rintro σ' H9 ⟨rfl, wd, w1, w2, rfl⟩
            walk_at "go"
            refine ⟨.inl ⟨rfl, _, .inl (.inl hR8.1)⟩, ?_⟩
            walk_at "go"
            intro T0 nT0
            walk_at "go"
            have s9 : Same H9 (upd H9 T0 (.tup [.int ed, .int (ed + wd)])) := same_new nT0
            have hR9 := hR8.more s9
            have i5 : i < 6 := by omega
            refine ⟨_, _, _, rfl, rfl, hR9.1, ?_, ?_⟩
            · rw [List.length_map, hR9.2.1, hlen]
              exact Nat.lt_of_lt_of_le i5 (by decide)
            have hR10 := hR9.snoc (y := some (ed + wd)) upd_same
            have hT10 : Tk K a p ds n H (upd (upd H9 T0 (.tup [.int ed, .int (ed + wd)])) R (.lst (ps.map V.ref ++ [.ref T0]))) := by
              have h1 := hT.more s9
              have h2 : SB R (upd H9 T0 (.tup [.int ed, .int (ed + wd)])) (upd (upd H9 T0 (.tup [.int ed, .int (ed + wd)])) R (.lst (ps.map V.ref ++ [.ref T0]))) := SB.upd (Z.Same.sb (Same.refl _))
              exact h1.mut nR0 h2 Rp (h2 _ _ aR h1.hA)
            have hT0 := hT
            clear hT
            have hT := hT10
            generalize eX : upd (upd H9 T0 (.tup [.int ed, .int (ed + wd)])) R (.lst (ps.map V.ref ++ [.ref T0])) = H10 at hT hR10 ⊢
            walk_at "go"
            obtain ⟨m, em⟩ := hT.pl
            refine ⟨a, p, n, m, ds, rfl, SqL.of hT.hA, hT.hd, em, hT.ne, fun wb wb1 wb2 => ?_⟩
            obtain ⟨hT', sbwb⟩ := hT.next em
            generalize eH : upd H10 p (.lst [.int ((m + 1 : Nat) : Int)]) = H11 at hT' sbwb ⊢
            have hT0 := hT
            clear hT
            have hT := hT'
            clear hT'
            have hR11 := hR10.sb sbwb Rp em
            walk_at "go"
            refine ⟨_, _, _, _, _, _, hT, hR11, ?_, hgd.snoc (h := ed + wd) (by omega) (z' := ed + wd + 1 + wb % 6) (by omega), (top_snoc hgd htop).trans ?_, ?_, ?_, ?_, ?_, rfl⟩
            · rw [List.length_append, hlen]
              rfl
            · rw [show T + (ed + wd) - ed = T + wd by omega]
            · omega
            · omega
            · omega
            · omega
        · rintro σ H6 ⟨ps, rs, T, ed, v7, v8, hT, hRi, hlen, hgd, htop, t1, t2, d1, d2, rfl⟩
          have i5 : (rc % 6).toNat < 6 := by omega
          have e30 : (10 : Int) ^ 30 = 1000000000000000000000000000000 := by decide
          have e21 : (10 : Int) ^ 21 = 1000000000000000000000 := by decide
          have t3 : T ≤ 10 ^ 39 := by
            rw [e30, e21] at t2
            have e39 : (10 : Int) ^ 39 = 1000000000000000000000000000000000000000 := by decide
            omega
          have d3 : ed ≤ 10 ^ 39 := by
            rw [e21] at d2
            have e39 : (10 : Int) ^ 39 = 1000000000000000000000000000000000000000 := by decide
            omega
          refine cut_stay ?_ ?_
          · walk_at "go"
            refine ⟨R, _, rfl, .inl (SqL.of hRi.1), ?_⟩
            rw [List.length_map, hRi.2.1]
            walk_at "go"
            refine ite2 (fun e => ?_) (fun e => ?_)
            · have hl : 0 < rs.length := by
                have := of_decide_eq_true e
                omega
              walk_at "go"
              refine ite2 (fun e2 => ?_) (fun e2 => ?_)
              · rcases List.eq_nil_or_concat rs with rfl | ⟨r, ⟨x, h⟩, e3⟩
                · cases hl
                rw [List.concat_eq_append] at e3
                subst e3
                obtain ⟨ps', pl, rfl⟩ : ∃ qs q, ps = qs ++ [q] := by
                  rcases List.eq_nil_or_concat ps with e | ⟨qs, q, e⟩
                  · have := hRi.2.1
                    rw [e, List.length_append] at this
                    simp at this
                  · exact ⟨qs, q, by rw [e, List.concat_eq_append]⟩
                have el : ps'.length = r.length := by
                  have := hRi.2.1
                  rw [List.length_append, List.length_append] at this
                  simpa using this
                have epl : H6 pl = some (.tup [.int x, oV h]) := hRi.2.2 r.length pl (x, h) (by rw [List.getElem?_append_right (by omega), el, Nat.sub_self]; rfl) (by rw [List.getElem?_append_right (by omega), Nat.sub_self]; rfl)
                walk_at "go"
                refine ⟨R, _, rfl, SqL.of hRi.1, fun c1 nc1 => ?_⟩
                have ec : cutV ((ps' ++ [pl]).map V.ref) none (some (-1)) = ps'.map V.ref := by
                  rw [List.map_append]
                  exact cut_last _ _
                rw [ec]
                have s1 := same_new (o := .lst (ps'.map V.ref)) nc1
                have hpl : SqT K _ pl [.int x, oV h] := .inl (.inl (s1 _ _ epl))
                walk_at "go"
                refine ⟨R, _, _, _, rfl, rfl, SqL.of (s1 _ _ hRi.1), (by rw [List.map_append]; exact atI_last _ _), ?_⟩
                walk_at "go"
                intro c2 nc2
                have s2 := same_new (o := .tup [.int x, .non]) nc2
                walk_at "go"
                intro c3 nc3
                have s3 := same_new (o := .lst [.ref c2]) nc3
                walk_at "go"
                refine ⟨c1, c3, _, _, rfl, rfl, s3 _ _ (s2 _ _ upd_same), upd_same, ?_, fun c4 nc4 => ?_⟩
                · rw [List.length_map, el]
                  rw [List.length_append] at hlen
                  exact Nat.le_trans (show r.length + 1 ≤ 1000 by omega) (by decide)
                have s4 := same_new (o := .lst (ps'.map V.ref ++ [.ref c2])) nc4
                walk_at "go"
                refine ⟨c4, _, rfl, .inl ⟨.inl (.inl upd_same), fun t nt => ?_⟩⟩
                have s5 := same_new (o := .tup (ps'.map V.ref ++ [.ref c2])) nt
                walk_at "go"
                intro l nl
                have s6 := same_new (o := .lst [.int st, .ref t, .non]) nl
                have s16 := s1.trans (s2.trans (s3.trans (s4.trans (s5.trans s6))))
                obtain ⟨g1, g2⟩ := bnd_open hgd htop
                refine q l _ (some st) (r ++ [(x, none)]) none (hT.more s16).sb ⟨t, ps' ++ [c2], SqL.of upd_same, .inl (.inl ?_), ?_, ?_⟩ ⟨⟨hgd.opened, fun s hs => by cases hs; exact b1, nofun⟩, ?_, fun s hs => ?_⟩
                · rw [List.map_append]
                  exact s6 _ _ upd_same
                · rw [List.length_append, List.length_append, el]
                  rfl
                · intro i p1 q1 h1 h2
                  by_cases hlt : i < ps'.length
                  · rw [List.getElem?_append_left hlt] at h1
                    rw [List.getElem?_append_left (by rw [← el]; exact hlt)] at h2
                    exact .inl (.inl (s16 _ _ (hRi.2.2 i p1 q1 (by rw [List.getElem?_append_left hlt]; exact h1) (by rw [List.getElem?_append_left (by rw [← el]; exact hlt)]; exact h2))))
                  · rw [List.getElem?_append_right (by omega)] at h1
                    rw [List.getElem?_append_right (by omega)] at h2
                    have h3 : i - ps'.length = 0 := by
                      have := (List.getElem?_eq_some_iff.mp h1).1
                      simp at this
                      omega
                    rw [h3] at h1
                    rw [← el, h3] at h2
                    obtain rfl : c2 = p1 := Option.some.inj h1
                    obtain rfl := Option.some.inj h2
                    exact .inl (.inl (s6 _ _ (s5 _ _ (s4 _ _ (s3 _ _ upd_same)))))
                · rw [List.length_append] at hlen ⊢
                  have : ([(x, (none : Option Int))]).length = 1 := rfl
                  have : ([(x, h)]).length = 1 := rfl
                  omega
                · cases hs
                  have e39 : (10 : Int) ^ 39 = 1000000000000000000000000000000000000000 := by decide
                  have e40 : (10 : Int) ^ 40 = 10000000000000000000000000000000000000000 := by decide
                  rw [e40]
                  rw [e39] at t3 d3
                  omega
              · exact ⟨rfl, rfl⟩
            · walk_at "go"
              rfl
          · walk_at "go"
            refine ⟨fun σ' H7 => ∃ nv : Option Int, Tk K a p ds n H H7 ∧ RisH H7 R ps rs ∧ (∀ v, nv = some v → T ≤ v) ∧ σ' = [some (.ref a), some (.ref p), some (.int kd), some (.int st), some (.ref R), some (.int T), some (.int ed), v7, v8, some (oV nv)], ?_, ?_⟩
            · walk_at "go"
              refine ite2 (fun e => ?_) (fun e => ?_)
              · walk_at "go"
                obtain ⟨m, em⟩ := hT.pl
                refine ⟨a, p, n, m, ds, rfl, SqL.of hT.hA, hT.hd, em, hT.ne, fun na na1 na2 => ?_⟩
                obtain ⟨hT', sbna⟩ := hT.next em
                generalize eH : upd H6 p (.lst [.int ((m + 1 : Nat) : Int)]) = H7 at hT' sbna ⊢
                have hT0 := hT
                clear hT
                have hT := hT'
                clear hT'
                have hR7 := hRi.sb sbna Rp em
                walk_at "go"
                exact ⟨some (T + na % 5), hT, hR7, fun v hv => by cases hv; omega, rfl⟩
              · exact ⟨none, hT, hRi, nofun, rfl⟩
            · rintro σ' H7 ⟨nv, hT, hR7, hnv, rfl⟩
              walk_at "go"
              refine ⟨R, _, rfl, .inl ⟨.inl (.inl hR7.1), fun t nt => ?_⟩⟩
              walk_at "go"
              intro l nl
              have s1 : Same H7 (upd H7 t (.tup (ps.map V.ref))) := same_new nt
              have s2 := same_new (o := .lst [.int st, .ref t, oV nv]) nl
              have r1 : Ris true false K H7 R ps rs := hR7.ris
              have r2 : Ris false false K (upd H7 t (.tup (ps.map V.ref))) t ps rs := ⟨.inl (.inl upd_same), hR7.2.1, fun i p q h1 h2 => Z.Same.sqK s1 (r1.2.2 i p q h1 h2)⟩
              refine q l _ (some st) rs nv ((hT.more s1).more s2).sb ⟨t, ps, SqL.of upd_same, r2.mono s2⟩ ⟨⟨hgd.good, fun s hs => by cases hs; exact b1, fun v hv => ⟨T, htop, hnv v hv⟩⟩, by omega, fun s hs => ?_⟩
              cases hs
              rw [bnd_closed hgd htop]
              exact Int.le_trans t3 (by decide)
end
end Z
set_option Elab.async false
set_option linter.all false
set_option maxRecDepth 100000
set_option maxHeartbeats 4000000
namespace Z
open Nd
open PySem PySem.Spec PyProof.Rows L2
open C8 (pss_cut tCut)
local macro_rules | `(tactic| walk_at "num") => `(tactic| first | rfl | omega | decide | exact Nat.le_of_lt (small1000 (by simp)) | exact ⟨by omega, by omega⟩ | exact ⟨by omega, by omega, by omega⟩ | exact ⟨by decide, by decide, by decide⟩ | exact Or.inl ⟨by omega, by omega⟩ | exact Or.inr ⟨by omega, by omega⟩)
local macro_rules | `(tactic| walk_at "go") => `(tactic| repeat (first | refine ⟨_, rfl, ?_⟩ | refine ⟨_, _, rfl, rfl, ?_⟩ | refine ⟨_, _, rfl, ?_⟩ | refine ⟨_, _, rfl, rfl, (by walk_at "num"), ?_⟩ | refine Or.inl ⟨_, rfl, ?_⟩ | refine ⟨_, _, _, _, rfl, rfl, (by assumption), (by rfl), ?_⟩ | refine ⟨_, _, _, _, _, rfl, (by assumption), (by assumption), (by assumption), (by rfl), ?_⟩ | refine ⟨rfl, ?_⟩ | refine And.intro (by walk_at "num") ?_))
abbrev s_law : Stmt := topS 35
abbrev N_law : List Str := ["_law_script", "_law_draws_here", "_law_need_here", "_law_f", "_law_found", "_law_one", "_law_points_here", "_law_x", "_law_k", "_law_due_here", "_law_at"]
abbrev P_law : List Str := ["_law_script"]
theorem sc_law : FnScope N_law P_law (defScope s_law) := ⟨rfl, rfl, rfl, by decide +kernel, rfl, by decide +kernel, by decide +kernel⟩
/-! ### what mine, theirs and endless give -/
theorem fs_nil_open {k : Int} (hk : 0 ≤ k) : Fs [(0, none)] k = k := by
  rw [Fs_cons, Fs_nil]
  by_cases h : k ≤ 0
  · rw [rise_zero (show k ≤ ((0 : Int), (none : Option Int)).1 from h)]
    omega
  · rw [rise_none (by omega)]
    omega
theorem val_mine {st nv k : Option Int} {rs : Rs} (ok : Ok st rs nv) (hk : ∀ i, k = some i → 0 ≤ i) : val (mineP nv (pt 1 st rs)).1 (mineP nv (pt 1 st rs)).2.1 (mineP nv (pt 1 st rs)).2.2 k = (due st rs nv k).1 := by
  cases st with
  | none =>
    show val (some 0) [(0, none)] none k = k
    cases k with
    | none => rfl
    | some i =>
      show some (0 + Fs [(0, none)] i) = some i
      rw [fs_nil_open (hk i rfl), Int.zero_add]
  | some s =>
    show _ = dM (grt s rs) nv k
    unfold grt
    show val (mineP nv (fp rs (s + 1) 0)).1 (mineP nv (fp rs (s + 1) 0)).2.1 (mineP nv (fp rs (s + 1) 0)).2.2 k = _
    cases e : fp rs (s + 1) 0 with
    | none =>
      cases k with
      | none => cases nv <;> rfl
      | some i =>
        show some (0 + Fs [(0, none)] i) = some i
        rw [fs_nil_open (hk i rfl), Int.zero_add]
    | some p =>
      have hp : 1 ≤ p := pt_pos1 ok (show pt 1 (some s) rs = some p from e)
      cases k with
      | none => cases nv <;> rfl
      | some i =>
        have hi := hk i rfl
        show some (0 + Fs (if p > 1 then [(0, some (p - 1))] else []) i) = if p - 1 < i then some (p - 1) else some i
        by_cases c : p > 1
        · rw [if_pos c, Fs_cons, Fs_nil]
          by_cases h : i ≤ 0
          · rw [rise_zero (show i ≤ ((0 : Int), some (p - 1)).1 from h), if_neg (by omega)]
            congr 1
            omega
          · rw [rise_some (by omega)]
            by_cases d : p - 1 < i
            · rw [if_pos d, if_neg (by omega)]
              congr 1
              omega
            · rw [if_neg d]
              by_cases d2 : i < p - 1
              · rw [if_pos d2]
                congr 1
                omega
              · rw [if_neg d2]
                congr 1
                omega
        · rw [if_neg c, Fs_nil]
          by_cases d : p - 1 < i
          · rw [if_pos d]
            congr 1
            omega
          · rw [if_neg d]
            congr 1
            omega
theorem val_theirs {st nv k : Option Int} {rs : Rs} : val (theirsP (pt 0 st rs)).1 (theirsP (pt 0 st rs)).2.1 (theirsP (pt 0 st rs)).2.2 k = (due st rs nv k).2.1 := by
  cases st with
  | none => cases k <;> rfl
  | some s =>
    rw [pt0]
    show _ = dT (lst s rs) k
    unfold lst
    cases e : fp rs s 0 with
    | none => cases k <;> rfl
    | some p =>
      cases k with
      | none => rfl
      | some i =>
        show some (p + Fs [(p, none)] i) = some (if p > i then p else i)
        rw [Fs_cons, Fs_nil]
        congr 1
        by_cases h : i ≤ p
        · rw [rise_zero (show i ≤ ((p : Int), (none : Option Int)).1 from h)]
          split <;> omega
        · rw [rise_none (by omega)]
          split <;> omega
theorem val_endless {st nv k : Option Int} {rs : Rs} : val (endlessP (pt 0 st rs)).1 (endlessP (pt 0 st rs)).2.1 (endlessP (pt 0 st rs)).2.2 k = (due st rs nv k).2.2 := by
  cases st with
  | none => cases k <;> rfl
  | some s =>
    rw [pt0]
    show _ = lst s rs
    unfold lst
    cases e : fp rs s 0 with
    | none => cases k <;> rfl
    | some p =>
      cases k with
      | none => rfl
      | some i =>
        show some (p + Fs [] i) = some p
        rw [Fs_nil, Int.add_zero]
def dj : Nat → Option Int × Option Int × Option Int → Option Int
  | 0, d => d.1
  | 1, d => d.2.1
  | _, d => d.2.2
def Fdd (C : Addr) (K : PySem.W.Frag) (H : Hp) (st : Option Int) (rs : Rs) (nv : Option Int) (x : V) (j : Nat) : Prop := ∃ (m : Addr) (st' : Option Int) (rs' : Rs) (nv' : Option Int), x = V.ref m ∧ NeedAt C K H m st' rs' nv' ∧ Ok st' rs' nv' ∧ rs'.length ≤ 100000 ∧ ∀ k, (∀ i, k = some i → 0 ≤ i) → val st' rs' nv' k = dj j (due st rs nv k)
theorem at_dj {d : Option Int × Option Int × Option Int} : ∀ {j : Nat}, j < 3 → [oV d.1, oV d.2.1, oV d.2.2][j]? = some (oV (dj j d))
  | 0, _ => rfl
  | 1, _ => rfl
  | 2, _ => rfl
theorem mine_len {nv p : Option Int} : (mineP nv p).2.1.length ≤ 100000 := by
  cases p with
  | none => show (1 : Nat) ≤ 100000; omega
  | some p =>
    show (if p > 1 then [((0 : Int), some (p - 1))] else []).length ≤ 100000
    split <;> simp
theorem theirs_len {p : Option Int} : (theirsP p).2.1.length ≤ 100000 := by
  cases p with
  | none => show (0 : Nat) ≤ 100000; omega
  | some p => show (1 : Nat) ≤ 100000; omega
section
variable {P : Program} {w : World} {K : PySem.W.Frag} {mg : Str → Option Value} {base : Heap} {f C : Addr} {fd : FuncData}
def spLaw (K : PySem.W.Frag) : Sp := fun vs H Q _ => ∃ (a : Addr) (ns : List Int), vs = [.ref a] ∧ SqL K H a (ns.map V.int) ∧ ∀ H', Q (.bl true) H'
theorem ok_law (F : FnP K "law" s_law f fd) (m_int : mg "int" = none) (m_range : mg "range" = none) (m_len : mg "len" = none) (m_abs : mg "abs" = none) (m_max : mg "max" = none) (cls : Cls K C) (n_start : NoAttr K C "start") (n_rises : NoAttr K C "rises") (n_never : NoAttr K C "never")
    (c_draws : Cal P w K mg base 1 "_law_draws" spDraws) (c_cell : Cal P w K mg base 1 "_law_cell" (spCell K)) (c_need : Cal P w K mg base 2 "_law_need" (spLN K)) (c_make : Cal P w K mg base 4 "_law_make" (spMake C K)) (c_sound : Cal P w K mg base 4 "_law_sound" (spSound C K)) (c_points : Cal P w K mg base 1 "_law_points" (spPoints K)) (c_greatest : Cal P w K mg base 2 "_law_greatest" (spX grt K)) (c_least : Cal P w K mg base 2 "_law_least" (spX lst K)) (c_due : Cal P w K mg base 3 "_law_due" (spDue K)) (c_same : Cal P w K mg base 1 "_law_same" spSame) (c_between : Cal P w K mg base 2 "_law_between" (spBetween K))
    (me_mine : Met P w K mg base 4 C "mine" (spMine C K)) (me_theirs : Met P w K mg base 4 C "theirs" (spTheirs C K)) (me_endless : Met P w K mg base 4 C "endless" (spEndless C K)) (co_call : Cob P w K mg base 3 C (spCallN C K)) (e_Need : Eqo P w K mg base 1 C (spEq C K)) : FnOk P w K mg base CX0 6 f fd P_law (spLaw K) := by
  refine F.ok sc_law (fun vs H Q E h => ?_) (fun cdv A outer s H vs Q E hr h => ?_)
  · obtain ⟨a, ns, rfl, _⟩ := h
    rfl
  · obtain ⟨a, ns, rfl, hS, q⟩ := h
    refine ⟨_, PSs.nox (pss_cons (ps_set (i := 1) sc_law.nd rfl (by first | exact .inl rfl | exact .inr rfl) (pe_cl c_draws hr (by decide) (by rfl) (pa_cons (pe_cl c_cell hr (by decide) (by rfl) (pa_cons (pv 0) (pa_cons pe_int pa_nil))) (pa_cons pe_int pa_nil))))
      (pss_cons (ps_set (i := 2) sc_law.nd rfl (by first | exact .inl rfl | exact .inr rfl) (pe_cl c_need hr (by decide) (by rfl) (pa_cons (pv 1) (pa_cons (pe_lst (pa_cons pe_int pa_nil)) pa_nil))))
      (pss_cons (ps_set (i := 3) sc_law.nd rfl (by first | exact .inl rfl | exact .inr rfl) (pe_cl c_make hr (by decide) (by rfl) (pa_cons (pv 2) pa_nil)))
      (pss_cons (ps_set (i := 4) sc_law.nd rfl (by first | exact .inl rfl | exact .inr rfl) (pe_lst (pa_cons (pe_me0 me_mine (pv 3) hr (by decide)) (pa_cons (pe_me0 me_theirs (pv 3) hr (by decide)) (pa_cons (pe_me0 me_endless (pv 3) hr (by decide)) pa_nil)))))
      (pss_cons (ps_if (pt_cmpR op_gt (pe_callB call_len_seq (by rfl) m_len PySem.boot_len (pa_cons (pe_lc (own := [("_law_one", 5)]) (g := (gName 5)) (by rfl) sc_law.nd (pi_list (pv 4)) (blkOk_by (own := [("_law_one", 5)]) (N := N_law) (sc := defScope s_law) (by decide +kernel)) (fun _ _ _ _ _ => (pg_name (i := 5) sc_law.nd rfl (by first | exact .inl rfl | exact .inr rfl))) (fun _ _ _ _ _ => (pts_one (pt_not (pt_val (pe_cl c_sound hr (by decide) (by rfl) (pa_cons (pv 5) pa_nil)))))) (fun _ _ _ _ _ => (pv 5))) pa_nil)) pe_int (nomark _)) (pss_one (ps_ret pe_bl)) pss_nil)
      (pss_cons (ps_set (i := 6) sc_law.nd rfl (by first | exact .inl rfl | exact .inr rfl) (pe_op op_cat (pe_cl c_points hr (by decide) (by rfl) (pa_cons (pv 2) pa_nil)) (pe_lst (pa_cons (pe_op op_mod (pe_callTy call_int1 (by rfl) m_int (by decide +kernel) (pa_cons (pe_callB call_abs (by rfl) m_abs (by decide +kernel) (pa_cons (pe_cl c_cell hr (by decide) (by rfl) (pa_cons (pv 0) (pa_cons pe_int pa_nil))) pa_nil)) pa_nil)) (pe_op op_pow pe_int pe_int)) (pa_cons (pe_op op_mod (pe_callTy call_int1 (by rfl) m_int (by decide +kernel) (pa_cons (pe_ix ix_list (pv 1) pe_int (fun _ _ => rfl)) pa_nil)) pe_int) pa_nil)))))
      (pss_cut (ps_if (pt_cmpR op_notN (pe_ix ix_list (pv 2) pe_int (fun _ _ => rfl)) pe_non (nomark _)) (pss_one (ps_for PassesOwn.never rfl (pi_list (pe_lst (pa_cons (pe_cl c_greatest hr (by decide) (by rfl) (pa_cons (pv 2) pa_nil)) (pa_cons (pe_cl c_least hr (by decide) (by rfl) (pa_cons (pv 2) pa_nil)) pa_nil)))) (pg_name (i := 7) sc_law.nd rfl (by first | exact .inl rfl | exact .inr rfl))
        (pss_one (ps_if (pt_cmpR op_notN (pv 7) pe_non (nomark _)) (pss_one (ps_set (i := 6) sc_law.nd rfl (by first | exact .inl rfl | exact .inr rfl) (pe_op op_cat (pv 6) (pe_lst (pa_cons (pe_callB (call_max2 rfl) (by rfl) m_max (by decide +kernel) (pa_cons pe_int (pa_cons (pe_op op_sub (pv 7) pe_int) pa_nil))) (pa_cons (pv 7) (pa_cons (pe_op op_add (pv 7) pe_int) pa_nil))))))) pss_nil)))) pss_nil)
      (pss_cons (ps_for PassesOwn.never rfl (pi_list (pv 6)) (pg_name (i := 8) sc_law.nd rfl (by first | exact .inl rfl | exact .inr rfl))
        (pss_cons (ps_set (i := 9) sc_law.nd rfl (by first | exact .inl rfl | exact .inr rfl) (pe_cl c_due hr (by decide) (by rfl) (pa_cons (pv 2) (pa_cons (pv 8) pa_nil))))
      (pss_cons (ps_for PassesOwn.never rfl (pi_range1 (by rfl) m_range (pa_cons pe_int pa_nil)) (pg_name (i := 10) sc_law.nd rfl (by first | exact .inl rfl | exact .inr rfl))
        (pss_one (ps_if (pt_not (pt_val (pe_cl c_same hr (by decide) (by rfl) (pa_cons (pe_co co_call (pe_ix ix_list (pv 4) (pv 10) (fun _ _ => rfl)) hr (by decide) (pa_cons (pv 8) pa_nil)) (pa_cons (pe_ix ix_list (pv 9) (pv 10) (fun _ _ => rfl)) pa_nil))))) (pss_one (ps_ret pe_bl)) pss_nil)))
      (pss_one (ps_if (PW.pt (pw_and (pt_cmpR op_notN (pv 8) pe_non (nomark _)) (pw_and1 (pt_not (pt_val (pe_cl c_between hr (by decide) (by rfl) (pa_cons (pv 2) (pa_cons (pv 8) (pa_cons (pe_ix ix_list (pv 9) pe_int (fun _ _ => rfl)) (pa_cons (pe_ix ix_list (pv 9) pe_int (fun _ _ => rfl)) pa_nil)))))))))) (pss_one (ps_ret pe_bl)) pss_nil)))))
      (pss_one (ps_ret (pe_and (pe_cmpR op_eq (pe_fld (pv 3) rfl) (pe_ix ix_list (pv 2) pe_int (fun _ _ => rfl)) (nomark _)) (pe_and (pe_cmpR (op_eqD hr.units) (pe_fld (pv 3) rfl) (pe_ix ix_list (pv 2) pe_int (fun _ _ => rfl)) (nomark _)) (pe_and (pe_cmpR op_eq (pe_fld (pv 3) rfl) (pe_ix ix_list (pv 2) pe_int (fun _ _ => rfl)) (nomark _)) (pe_one (pe_cmpR (op_own e_Need hr (by decide)) (pe_me0 me_mine (pv 3) hr (by decide)) (pe_ix ix_list (pv 4) pe_int (fun _ _ => rfl)) (nomark _)))))))))))))))), ?_⟩
    walk_at "go"
    refine ⟨a, ns, 0, rfl, hS, ?_⟩
    walk_at "go"
    intro D ds nD hd
    walk_at "go"
    intro p np
    have sD : Same H (upd H D (.lst (ds.map V.int))) := same_new nD
    have sp : Same (upd H D (.lst (ds.map V.int))) (upd (upd H D (.lst (ds.map V.int))) p (.lst [.int 0])) := same_new np
    have Dp : D ≠ p := ne_of_none upd_same np
    have nHp : H p = none := by
      cases e : H p with
      | none => rfl
      | some o =>
        rw [sD _ _ e] at np
        cases np
    have hD := sp _ _ (upd_same (H := H) (a := D) (o := .lst (ds.map V.int)))
    have hpp := upd_same (H := upd H D (.lst (ds.map V.int))) (a := p) (o := .lst [.int 0])
    have sHX := sD.trans sp
    generalize eX : upd (upd H D (.lst (ds.map V.int))) p (.lst [.int 0]) = HX at hD hpp sHX ⊢
    walk_at "go"
    refine ⟨D, p, 30, ds, rfl, ⟨hD, hd, Dp, Z.Same.sb (Same.refl _), 0, hpp⟩, fun l H2 st rs nv sb hN ok => ?_⟩
    have s2 : Same H H2 := fun b o h => sb b o (ne_of_none h nHp) (sHX b o h)
    have hD2 := sb _ _ Dp hD
    walk_at "go"
    refine ⟨st, nv, l, rs, rfl, hN, ok.1, by have := ok.2.1; omega, fun n H3 s3 hF => ?_⟩
    have hF' := hF
    obtain ⟨dx, r, ps, hn, hR, hr'⟩ := hF'
    walk_at "go"
    refine ⟨n, dx, _, rfl, hn, rfl, ?_⟩
    walk_at "go"
    refine ⟨st, nv, n, rs, rfl, hF, ok.1, fun m1 H4 s4 f1 => ?_⟩
    walk_at "go"
    refine ⟨n, dx, _, rfl, s4 _ _ hn, rfl, ?_⟩
    walk_at "go"
    refine ⟨st, nv, n, rs, rfl, hF.mono s4, ok.1, fun m2 H5 s5 f2 => ?_⟩
    walk_at "go"
    refine ⟨n, dx, _, rfl, s5 _ _ (s4 _ _ hn), rfl, ?_⟩
    walk_at "go"
    refine ⟨st, nv, n, rs, rfl, (hF.mono s4).mono s5, ok.1, fun m3 H6 s6 f3 => ?_⟩
    walk_at "go"
    intro fl nfl
    have s7 : Same H6 (upd H6 fl (.lst [.ref m1, .ref m2, .ref m3])) := same_new nfl
    have fd0 : ∀ (j : Nat) (x : V), [V.ref m1, .ref m2, .ref m3][j]? = some x → Fdd C K (upd H6 fl (.lst [.ref m1, .ref m2, .ref m3])) st rs nv x j := by
      intro j x hx
      match j, hx with
      | 0, hx => cases hx; exact ⟨m1, _, _, _, rfl, ((f1.mono s5).mono s6).mono s7, mine_ok ok.1, mine_len, fun k hk => val_mine ok.1 hk⟩
      | 1, hx => cases hx; exact ⟨m2, _, _, _, rfl, (f2.mono s6).mono s7, theirs_ok ok.1, theirs_len, fun k hk => val_theirs⟩
      | 2, hx => cases hx; exact ⟨m3, _, _, _, rfl, f3.mono s7, endless_ok ok.1, by show (0 : Nat) ≤ 100000; omega, fun k hk => val_endless⟩
    have s37 : Same H3 (upd H6 fl (.lst [.ref m1, .ref m2, .ref m3])) := s4.trans (s5.trans (s6.trans s7))
    have f17 := ((f1.mono s5).mono s6).mono s7
    have hfl := upd_same (H := H6) (a := fl) (o := .lst [.ref m1, .ref m2, .ref m3])
    generalize eX2 : upd H6 fl (.lst [.ref m1, .ref m2, .ref m3]) = H7 at s37 hfl fd0 f17 ⊢
    have sL : Same H H7 := s2.trans (s3.trans s37)
    have hN7 := hN.mono (s3.trans s37)
    have hF7 := hF.mono s37
    have hD7 := s37 _ _ (s3 _ _ hD2)
    clear s7 f1 f2 f3
    walk_at "go"
    refine ⟨⟨_, SqL.of hfl⟩, ?_⟩
    intro L nL
    refine lc_gen (n := 3) (fun i H1 => Same H7 H1 ∧ H1 L = some (.lst [])) ⟨same_new nL, upd_same⟩ ?_ ?_ ?_ ?_
    · rintro i H1 hi ⟨s1, _⟩
      refine ⟨_, [V.ref m1, .ref m2, .ref m3][i]'hi, SqL.of (s1 _ _ hfl), ?_⟩
      exact List.getElem?_eq_getElem hi
    · rintro H1 ⟨s1, _⟩
      exact ⟨_, SqL.of (s1 _ _ hfl), Nat.le_refl _⟩
    · rintro i H1 x H' hi ⟨s1, e1⟩ ⟨rfl, fx⟩
      obtain ⟨m, st', rs', nv', rfl, h1, h2, h3, h4⟩ := fd0 i x (fx _ (SqL.of (s1 _ _ hfl)))
      refine ⟨rfl, ?_⟩
      walk_at "go"
      refine ⟨st', nv', m, rs', rfl, h1.mono s1, h2, h3, fun H9 s9 => ?_⟩
      walk_at "go"
      exact ⟨s1.trans s9, s9 _ _ e1⟩
    · rintro H8 ⟨s8, e8⟩
      walk_at "go"
      refine ⟨L, _, rfl, .inl (SqL.of e8), ?_⟩
      walk_at "go"
      refine ⟨st, nv, l, rs, rfl, hN7.mono s8, ok, fun q1 H9 pts s9 e9 hp9 hl9 => ?_⟩
      walk_at "go"
      refine ⟨a, ns, 1, rfl, (sL.trans (s8.trans s9)).seq hS, ?_⟩
      walk_at "go"
      have hds : SqL K H9 D (ds.map V.int) := SqL.of (s9 _ _ (s8 _ _ hD7))
      have h29 : 29 < ds.length := by rw [hd.1]; decide
      refine ⟨(by show (0 : Int) < 10 ^ Int.toNat 60; decide), ?_⟩
      walk_at "go"
      refine ⟨D, _, _, _, rfl, rfl, hds, at_map (i := 29) (List.getElem?_eq_getElem h29), ?_⟩
      have hd29 := hd.2 _ (List.getElem_mem h29)
      walk_at "go"
      intro b1 nb1
      have s10 := same_new (o := .lst [.int ((if ns.getD 1 0 < 0 then -ns.getD 1 0 else ns.getD 1 0) % 10 ^ Int.toNat 60), .int (ds[29] % 40)]) nb1
      refine ⟨q1, b1, _, _, rfl, rfl, s10 _ _ e9, upd_same, ?_, fun q2 nq2 => ?_⟩
      · rw [List.length_map]
        exact Nat.le_trans (show pts.length + 2 ≤ 1000 by omega) (by decide)
      have s11 := same_new (o := .lst (pts.map oV ++ [.int ((if ns.getD 1 0 < 0 then -ns.getD 1 0 else ns.getD 1 0) % 10 ^ Int.toNat 60), .int (ds[29] % 40)])) nq2
      have e11 : ∃ pts2 : List (Option Int), upd (upd H9 b1 (.lst [.int ((if ns.getD 1 0 < 0 then -ns.getD 1 0 else ns.getD 1 0) % 10 ^ Int.toNat 60), .int (ds[29] % 40)])) q2 (.lst (pts.map oV ++ [.int ((if ns.getD 1 0 < 0 then -ns.getD 1 0 else ns.getD 1 0) % 10 ^ Int.toNat 60), .int (ds[29] % 40)])) q2 = some (.lst (pts2.map oV)) ∧ Pos pts2 ∧ pts2.length ≤ 67 := by
        refine ⟨pts ++ [some ((if ns.getD 1 0 < 0 then -ns.getD 1 0 else ns.getD 1 0) % 10 ^ Int.toNat 60), some (ds[29] % 40)], ?_, hp9.append ?_, ?_⟩
        · rw [upd_same, List.map_append]
          rfl
        · intro k hk i e
          rcases List.mem_cons.mp hk with h | hk
          · rw [h] at e
            cases e
            exact Int.emod_nonneg _ (by decide)
          rcases List.mem_cons.mp hk with h | hk
          · rw [h] at e
            cases e
            omega
          · cases hk
        · rw [List.length_append]
          show pts.length + 2 ≤ 67
          omega
      have s9b := s10.trans s11
      generalize eX3 : upd (upd H9 b1 (.lst [.int ((if ns.getD 1 0 < 0 then -ns.getD 1 0 else ns.getD 1 0) % 10 ^ Int.toNat 60), .int (ds[29] % 40)])) q2 (.lst (pts.map oV ++ [.int ((if ns.getD 1 0 < 0 then -ns.getD 1 0 else ns.getD 1 0) % 10 ^ Int.toNat 60), .int (ds[29] % 40)])) = H11 at e11 s9b ⊢
      obtain ⟨pts2, e11, hp11, hl11⟩ := e11
      have s7b : Same H7 H11 := s8.trans (s9.trans s9b)
      have hN11 := hN7.mono s7b
      clear s10 s11
      walk_at "go"
      refine ⟨fun σ' H' => Same H7 H' ∧ ∃ (q3 : Addr) (pts3 : List (Option Int)) (v7 : Option V), H' q3 = some (.lst (pts3.map oV)) ∧ Pos pts3 ∧ σ' = [some (.ref a), some (.ref D), some (.ref l), some (.ref n), some (.ref fl), none, some (.ref q3), v7, none, none, none], ?_, ?_⟩
      · have hN12 := hN11
        obtain ⟨t, ps', hl, hR'⟩ := hN12
        cases st with
        | none =>
          walk_at "go"
          exact ⟨q2, pts2, none, e11, hp11, rfl⟩
        | some z =>
          have gz := ok.good
          have hz := ok.1.2.1 z rfl
          walk_at "go"
          refine ⟨z, nv, l, rs, rfl, hN11, gz, hz, ok.2.2 z rfl, ?_⟩
          walk_at "go"
          refine ⟨z, nv, l, rs, rfl, hN11, gz, hz, ok.2.2 z rfl, ?_⟩
          walk_at "go"
          intro xl nxl
          have sx : Same H11 (upd H11 xl (.lst [oV (grt z rs), oV (lst z rs)])) := same_new nxl
          walk_at "go"
          refine ⟨⟨_, SqL.of upd_same⟩, ?_⟩
          have exl := upd_same (H := H11) (a := xl) (o := .lst [oV (grt z rs), oV (lst z rs)])
          generalize eX4 : upd H11 xl (.lst [oV (grt z rs), oV (lst z rs)]) = Hx at sx exl ⊢
          have hog : ∀ (i : Nat) (x : V), [oV (grt z rs), oV (lst z rs)][i]? = some x → ∃ o : Option Int, x = oV o ∧ ∀ y, o = some y → 0 ≤ y := by
            intro i x hx
            match i, hx with
            | 0, hx =>
              cases hx
              refine ⟨_, rfl, fun y hy => ?_⟩
              have := grt_spec gz hz
              rw [hy] at this
              exact this.1
            | 1, hx =>
              cases hx
              refine ⟨_, rfl, fun y hy => ?_⟩
              have := lst_spec gz hz
              rw [hy] at this
              exact this.1
          refine for_gen (n := 2) (fun i σ H1 => Same Hx H1 ∧ ∃ (q3 : Addr) (pts3 : List (Option Int)) (v7 : Option V), H1 q3 = some (.lst (pts3.map oV)) ∧ Pos pts3 ∧ pts3.length ≤ 67 + 3 * i ∧ σ = [some (.ref a), some (.ref D), some (.ref l), some (.ref n), some (.ref fl), none, some (.ref q3), v7, none, none, none]) ⟨Same.refl _, q2, pts2, none, sx _ _ e11, hp11, by omega, rfl⟩ ?_ ?_ ?_ ?_
          · rintro i σ H1 hi ⟨s1, _⟩
            refine ⟨_, [oV (grt z rs), oV (lst z rs)][i]'hi, SqL.of (s1 _ _ exl), ?_⟩
            exact List.getElem?_eq_getElem hi
          · rintro σ H1 ⟨s1, _⟩
            exact ⟨_, SqL.of (s1 _ _ exl), Nat.le_refl _⟩
          · rintro i σ H1 x H' hi ⟨s1, q3, pts3, v7, e3, hp3, hl3, rfl⟩ ⟨rfl, fx⟩
            obtain ⟨o, rfl, ho⟩ := hog i x (fx _ (SqL.of (s1 _ _ exl)))
            cases o with
            | none =>
              walk_at "go"
              exact ⟨q3, pts3, _, e3, hp3, by omega, rfl⟩
            | some y =>
              have hy := ho y rfl
              walk_at "go"
              intro b2 nb2
              have s5 := same_new (o := .lst [.int (if y - 1 > 0 then y - 1 else 0), .int y, .int (y + 1)]) nb2
              refine ⟨q3, b2, _, _, rfl, rfl, s5 _ _ e3, upd_same, ?_, fun q4 nq4 => ?_⟩
              · rw [List.length_map]
                exact Nat.le_trans (show _ + 3 ≤ 1000 by omega) (by decide)
              have s6 := same_new (o := .lst (pts3.map oV ++ [.int (if y - 1 > 0 then y - 1 else 0), .int y, .int (y + 1)])) nq4
              refine ⟨s1.trans (s5.trans s6), q4, pts3 ++ [some (if y - 1 > 0 then y - 1 else 0), some y, some (y + 1)], _, ?_, hp3.append (pos3 (by split <;> omega) (by omega) (by omega)), ?_, rfl⟩
              · rw [upd_same, List.map_append]
                rfl
              · rw [List.length_append]
                show _ + 3 ≤ _
                omega
          · rintro σ H1 ⟨s1, q3, pts3, v7, e3, hp3, hl3, rfl⟩
            exact ⟨s7b.trans (sx.trans s1), q3, pts3, v7, e3, hp3, rfl⟩
      · rintro σ' H12 ⟨s12, q3, pts3, v7, e12, hp12, rfl⟩
        walk_at "go"
        refine ⟨⟨_, SqL.of e12⟩, ?_⟩
        refine for_gen (n := pts3.length) (fun i σ H1 => Same H12 H1 ∧ ∃ v8 v9 v10 : Option V, σ = [some (.ref a), some (.ref D), some (.ref l), some (.ref n), some (.ref fl), none, some (.ref q3), v7, v8, v9, v10]) ⟨Same.refl _, none, none, none, rfl⟩ ?_ ?_ ?_ ?_
        · rintro i σ H1 hi ⟨s1, _⟩
          exact ⟨_, oV pts3[i], SqL.of (s1 _ _ e12), by rw [List.getElem?_map, List.getElem?_eq_getElem hi]; rfl⟩
        · rintro σ H1 ⟨s1, _⟩
          exact ⟨_, SqL.of (s1 _ _ e12), by rw [List.length_map]; exact Nat.le_refl _⟩
        · rintro i σ H1 x H' hi ⟨s1, v8, v9, v10, rfl⟩ ⟨rfl, fx⟩
          obtain ⟨k, ek, rfl⟩ := of_map (fx _ (SqL.of (s1 _ _ e12)))
          have hk : ∀ i, k = some i → 0 ≤ i := hp12 k (List.mem_of_getElem? ek)
          have s71 := s12.trans s1
          walk_at "go"
          refine ⟨st, nv, k, l, rs, rfl, hN7.mono s71, ok, fun dq H2' sd hdq => ?_⟩
          walk_at "go"
          refine for_gen (n := 3) (fun j σ H3 => Same H2' H3 ∧ ∃ v10 : Option V, σ = [some (.ref a), some (.ref D), some (.ref l), some (.ref n), some (.ref fl), none, some (.ref q3), v7, some (oV k), some (.ref dq), v10]) ⟨Same.refl _, _, rfl⟩ (fun i σ H1 hi _ => hi) (fun σ H1 _ => Nat.le_refl _) ?_ ?_
          · rintro j σ H3 x H4 hj ⟨s3, v10, rfl⟩ ⟨rfl, rfl⟩
            have s74 := s71.trans (sd.trans s3)
            obtain ⟨m, st', rs', nv', ex, h1, h2, h3, h4⟩ := fd0 j _ (List.getElem?_eq_getElem hj)
            have h1' := h1.mono s74
            have h1m := h1'
            obtain ⟨dxm, rm, psm, hm, _⟩ := h1m
            walk_at "go"
            refine ⟨fl, _, _, _, rfl, rfl, SqL.of (s74 _ _ hfl), at_of (j := j) (by omega) ((List.getElem?_eq_getElem hj).trans (congrArg some ex)), ?_⟩
            walk_at "go"
            refine ⟨⟨_, _, hm⟩, ?_⟩
            refine ⟨st', nv', k, m, rs', rfl, h1', h2, hk, ?_⟩
            rw [h4 k hk]
            walk_at "go"
            refine ⟨dq, _, _, _, rfl, rfl, s3.seq hdq, at_of (j := j) (by omega) (at_dj hj), ?_⟩
            walk_at "go"
            exact ⟨_, rfl⟩
          · rintro σ H3 ⟨s3, v10, rfl⟩
            have s74 := s71.trans (sd.trans s3)
            have hdq3 := s3.seq hdq
            cases k with
            | none =>
              walk_at "go"
              exact ⟨s1.trans (sd.trans s3), _, _, _, rfl⟩
            | some z =>
              walk_at "go"
              refine ⟨st, nv, z, l, rs, rfl, hN7.mono s74, ok, hk z rfl, ?_⟩
              walk_at "go"
              exact ⟨s1.trans (sd.trans s3), _, _, _, rfl⟩
        · rintro σ H1 ⟨s1, v8, v9, v10, rfl⟩
          have s71 := s12.trans s1
          have hF1 := hF7.mono s71
          have hF1' := hF1
          obtain ⟨dx1, r1, ps1, hn1, hR1, _⟩ := hF1'
          obtain ⟨t1, ps2, hl1, hR2⟩ := hN7.mono s71
          walk_at "go"
          refine ⟨(by cases st <;> rfl), ?_⟩
          walk_at "go"
          refine ite2 (fun _ => ?_) (fun e => absurd (decide_eq_true rfl) e)
          walk_at "go"
          refine same2 (d := risD false false rs) hR1.dp hR2.dp (shaped_ris _ _ _) ?_
          rw [eqv_same (shaped_ris _ _ _)]
          walk_at "go"
          refine ⟨(by cases nv <;> rfl), ?_⟩
          walk_at "go"
          refine ite2 (fun _ => ?_) (fun e => absurd (decide_eq_true rfl) e)
          walk_at "go"
          refine ⟨n, dx1, _, rfl, hn1, rfl, ?_⟩
          walk_at "go"
          refine ⟨st, nv, n, rs, rfl, hF1, ok.1, fun m H2' s2' fm => ?_⟩
          have fl2 := SqL.of (K := K) (s2' _ _ (s71 _ _ hfl))
          walk_at "go"
          have f1m := f17.mono (s71.trans s2')
          have fm' := fm
          have f1m' := f1m
          obtain ⟨dxa, ra, psa, hma, _⟩ := fm'
          obtain ⟨dxb, rb, psb, hmb, _⟩ := f1m'
          refine ⟨m, m1, dxa, dxb, _, _, rfl, rfl, hma, hmb, ?_⟩
          exact ⟨_, _, m, m1, _, rfl, fm, f1m, true, rfl, q _⟩
end
end Z
set_option Elab.async false
set_option linter.all false
set_option maxRecDepth 100000
set_option maxHeartbeats 4000000
set_option maxHeartbeats 0
namespace Z
open PySem PySem.Spec PyProof.Rows L2 Nd
/-! ### the head: facts of defs and classes, and one more Bool -/
def hookB (n : Nat) (fa : List He.Fa) (fn : List He.DefD) (ex : PySem.W.Frag → Bool) : PySem.W.Hook where
  α := He.AlD × Bool
  obs := fun s => (He.obsDG n fa fn s.heap.get?, ex (He.frG s.heap.get? (He.asD s.heap.get? n)))
  val := fun _ => (He.valD fn, true)
  says := fun _ h => ∃ K : PySem.W.Frag, K.In h ∧ He.SaysD fa fn K ∧ ex K = true
  of := fun _ _ e => ⟨_, He.frG_in, congrArg (fun z : He.AlD × Bool => z.1) e, congrArg (fun z : He.AlD × Bool => z.2) e⟩
  keeps := fun _ _ _ ⟨K, hK, c⟩ k => ⟨K, PySem.W.Frag.In.keeps hK k, c⟩
theorem obsB_eq {n : Nat} {fa : List He.Fa} {fn : List He.DefD} {ex : PySem.W.Frag → Bool} {g : Addr → Option Obj} {s : Shared} (h : ∀ a, g a = s.heap.get? a) : (He.obsDG n fa fn g, ex (He.frG g (He.asD g n))) = (hookB n fa fn ex).obs s := by
  have e : g = s.heap.get? := funext h
  rw [e] <;> rfl
def isB (K : PySem.W.Frag) (C : Addr) : Bool := He.eqO (PySem.W.findIn K (.ref C) "__class__") (some (some (.builtin "object.__class__"))) && (He.eqO (PySem.W.specialIn K (.builtin "object.__class__") "__get__") (some (some (.builtin "getset_descriptor.__get__"))) && (decide (PySem.W.takesIn K (.builtin "object.__class__") = some true) && (decide (PySem.W.mroIn K C (.type "object") = some true) && decide (PySem.W.kitOne K (.ref C) (.ref C) = some true))))
theorem isB_ok {K : PySem.W.Frag} {C : Addr} (cl : Cls K C) (h : isB K C = true) : C8.InsC K C := by
  obtain ⟨h1, h⟩ := He.ba h
  obtain ⟨h2, h⟩ := He.ba h
  obtain ⟨h3, h⟩ := He.ba h
  obtain ⟨h4, h5⟩ := He.ba h
  exact ⟨cl, He.eqO_ok h1, He.eqO_ok h2, of_decide_eq_true h3, of_decide_eq_true h4, of_decide_eq_true h5⟩
def spB (K : PySem.W.Frag) (C : Addr) (m : Str) : Bool := He.eqO (PySem.W.findIn K (.ref C) m) (some (some (.ref (He.ma K C m)))) && (PySem.W.isFn K (.ref (He.ma K C m)) && PySem.W.fnIn K (He.ma K C m))
theorem spB_ok {K : PySem.W.Frag} {C : Addr} {m : Str} (h : spB K C m = true) : PySem.W.findIn K (.ref C) m = some (some (.ref (He.ma K C m))) ∧ PySem.W.isFn K (.ref (He.ma K C m)) = true ∧ PySem.W.fnIn K (He.ma K C m) = true := by
  obtain ⟨h1, h⟩ := He.ba h
  obtain ⟨h2, h3⟩ := He.ba h
  exact ⟨He.eqO_ok h1, h2, h3⟩
def ex (K : PySem.W.Frag) : Bool := isB K (He.ga K "Need") && (spB K (He.ga K "Need") "__call__" && spB K (He.ga K "Need") "__eq__")
def d_value_at : He.DefD := ⟨("value_at", none), "value_at", "value_at", defArgs s_value_at, defBody s_value_at, defScope s_value_at, [], []⟩
def d_flat_point : He.DefD := ⟨("flat_point", none), "flat_point", "flat_point", defArgs s_flat_point, defBody s_flat_point, defScope s_flat_point, [], []⟩
def d_greatest_value : He.DefD := ⟨("greatest_value", none), "greatest_value", "greatest_value", defArgs s_greatest_value, defBody s_greatest_value, defScope s_greatest_value, [], []⟩
def d_Need___init__ : He.DefD := ⟨("Need", some "__init__"), "__init__", "Need.__init__", defArgs s_Need___init__, defBody s_Need___init__, defScope s_Need___init__, [], []⟩
def d_Need_value_for : He.DefD := ⟨("Need", some "value_for"), "value_for", "Need.value_for", defArgs s_Need_value_for, defBody s_Need_value_for, defScope s_Need_value_for, [], []⟩
def d_Need___call__ : He.DefD := ⟨("Need", some "__call__"), "__call__", "Need.__call__", defArgs s_Need___call__, defBody s_Need___call__, defScope s_Need___call__, [], []⟩
def d_Need___eq__ : He.DefD := ⟨("Need", some "__eq__"), "__eq__", "Need.__eq__", defArgs s_Need___eq__, defBody s_Need___eq__, defScope s_Need___eq__, [], []⟩
def d_Need_mine : He.DefD := ⟨("Need", some "mine"), "mine", "Need.mine", defArgs s_Need_mine, defBody s_Need_mine, defScope s_Need_mine, [], []⟩
def d_Need_theirs : He.DefD := ⟨("Need", some "theirs"), "theirs", "Need.theirs", defArgs s_Need_theirs, defBody s_Need_theirs, defScope s_Need_theirs, [], []⟩
def d_Need_endless : He.DefD := ⟨("Need", some "endless"), "endless", "Need.endless", defArgs s_Need_endless, defBody s_Need_endless, defScope s_Need_endless, [], []⟩
def d_cell : He.DefD := ⟨("_law_cell", none), "_law_cell", "_law_cell", defArgs s_cell, defBody s_cell, defScope s_cell, [], []⟩
def d_draws : He.DefD := ⟨("_law_draws", none), "_law_draws", "_law_draws", defArgs s_draws, defBody s_draws, defScope s_draws, [], []⟩
def d_take : He.DefD := ⟨("_law_take", none), "_law_take", "_law_take", defArgs s_take, defBody s_take, defScope s_take, [], []⟩
def d_need : He.DefD := ⟨("_law_need", none), "_law_need", "_law_need", defArgs s_need, defBody s_need, defScope s_need, [], []⟩
def d_value : He.DefD := ⟨("_law_value", none), "_law_value", "_law_value", defArgs s_value, defBody s_value, defScope s_value, [], []⟩
def d_points : He.DefD := ⟨("_law_points", none), "_law_points", "_law_points", defArgs s_points, defBody s_points, defScope s_points, [], []⟩
def d_same : He.DefD := ⟨("_law_same", none), "_law_same", "_law_same", defArgs s_same, defBody s_same, defScope s_same, [], []⟩
def d_at_most : He.DefD := ⟨("_law_at_most", none), "_law_at_most", "_law_at_most", defArgs s_at_most, defBody s_at_most, defScope s_at_most, [], []⟩
def d_make : He.DefD := ⟨("_law_make", none), "_law_make", "_law_make", defArgs s_make, defBody s_make, defScope s_make, [], []⟩
def d_sound : He.DefD := ⟨("_law_sound", none), "_law_sound", "_law_sound", defArgs s_sound, defBody s_sound, defScope s_sound, [], []⟩
def d_bound : He.DefD := ⟨("_law_bound", none), "_law_bound", "_law_bound", defArgs s_bound, defBody s_bound, defScope s_bound, [], []⟩
def d_greatest : He.DefD := ⟨("_law_greatest", none), "_law_greatest", "_law_greatest", defArgs s_greatest, defBody s_greatest, defScope s_greatest, [], []⟩
def d_least : He.DefD := ⟨("_law_least", none), "_law_least", "_law_least", defArgs s_least, defBody s_least, defScope s_least, [], []⟩
def d_due : He.DefD := ⟨("_law_due", none), "_law_due", "_law_due", defArgs s_due, defBody s_due, defScope s_due, [], []⟩
def d_between : He.DefD := ⟨("_law_between", none), "_law_between", "_law_between", defArgs s_between, defBody s_between, defScope s_between, [], []⟩
def d_law : He.DefD := ⟨("law", none), "law", "law", defArgs s_law, defBody s_law, defScope s_law, [], []⟩
def fn : List He.DefD := [d_value_at, d_flat_point, d_greatest_value, d_Need___init__, d_Need_value_for, d_Need___call__, d_Need___eq__, d_Need_mine, d_Need_theirs, d_Need_endless, d_cell, d_draws, d_take, d_need, d_value, d_points, d_same, d_at_most, d_make, d_sound, d_bound, d_greatest, d_least, d_due, d_between, d_law]
def fa : List He.Fa := [.glo "value_at", .glo "flat_point", .glo "greatest_value", .glo "_law_cell", .glo "_law_draws", .glo "_law_take", .glo "_law_need", .glo "_law_value", .glo "_law_points", .glo "_law_same", .glo "_law_at_most", .glo "_law_make", .glo "_law_sound", .glo "_law_bound", .glo "_law_greatest", .glo "_law_least", .glo "_law_due", .glo "_law_between", .glo "law", .free "abs", .free "bool", .free "int", .free "isinstance", .free "len", .free "max", .free "range", .free "tuple", .glo "Need", .cls "Need", .mkr "Need", .noat "Need" "start", .noat "Need" "rises", .noat "Need" "never", .meth "Need" "value_for", .meth "Need" "mine", .meth "Need" "theirs", .meth "Need" "endless"]
def loose : List Str := ["_wall", "HouseError", "BadAmount", "BadCount", "BadNeed", "value_at", "joined", "marks_of", "track", "rising_part", "combined", "composed", "flat_point", "MOST_TIMES", "greatest_value", "Need", "_law_cell", "_law_draws", "_law_take", "_law_need", "_law_value", "_law_points", "_law_same", "_law_at_most", "_law_make", "_law_sound", "_law_bound", "_law_greatest", "_law_least", "_law_due", "_law_between"]
abbrev R : PySem.W.OpenRow := PySem.W.OpenLaw.row PySem.Challenge.rw_signedpacts_k18_need_rounds
abbrev hk : PySem.W.Hook := hookB 4 fa fn ex
def ob (s : PySem.W.SharedT) : He.AlD × Bool := (He.obsDG 4 fa fn (HandSHeadRun.getT s), ex (He.frG (HandSHeadRun.getT s) (He.asD (HandSHeadRun.getT s) 4)))
theorem ob_eq (s : PySem.W.SharedT) : ob s = hk.obs s.abs := obsB_eq (HandSHeadRun.getT_eq s)
theorem run (w : World) : HandSHeadRun.RunEq R (PySem.W.view R.prog [35]) hk ob 8000 loose w := by
  intro os
  kernel_rfl
theorem facts {P : Program} {w : World} {K : PySem.W.Frag} {h : Heap} {mg : Str → Option Value} {f : Addr} (X : K.In h) (G : h.Ns mainGlobals mg) (hfa : mg ("law" : Str) = some (.ref f)) (c : He.SaysD fa fn K) (cx : ex K = true) :
    ∃ fd : FuncData, (∀ (s : Shared) (v : Value), BindsTo s fd ⟨[v], []⟩ [("_law_script", v)]) ∧ ∀ base : Heap, K.In base → base.Ns mainGlobals mg → FnOk P w K mg base CX0 6 f fd ["_law_script"] (spLaw K) := by
  obtain ⟨fd_value_at, F_value_at⟩ := c.def_ 0 (d := d_value_at) rfl
  have F_value_at : FnP K "value_at" s_value_at _ fd_value_at := F_value_at
  have g_value_at := He.glo_ok X G (c.fact 0 (f := .glo "value_at") rfl)
  have b_value_at : Binds K fd_value_at P_value_at [] := F_value_at.bindsN fun _ _ _ _ _ _ us hl => match us, hl with | [_, _, _], _ => rfl
  obtain ⟨fd_flat_point, F_flat_point⟩ := c.def_ 1 (d := d_flat_point) rfl
  have F_flat_point : FnP K "flat_point" s_flat_point _ fd_flat_point := F_flat_point
  have g_flat_point := He.glo_ok X G (c.fact 1 (f := .glo "flat_point") rfl)
  have b_flat_point : Binds K fd_flat_point P_flat_point [] := F_flat_point.bindsN fun _ _ _ _ _ _ us hl => match us, hl with | [_, _], _ => rfl
  obtain ⟨fd_greatest_value, F_greatest_value⟩ := c.def_ 2 (d := d_greatest_value) rfl
  have F_greatest_value : FnP K "greatest_value" s_greatest_value _ fd_greatest_value := F_greatest_value
  have g_greatest_value := He.glo_ok X G (c.fact 2 (f := .glo "greatest_value") rfl)
  have b_greatest_value : Binds K fd_greatest_value P_greatest_value [] := F_greatest_value.bindsN fun _ _ _ _ _ _ us hl => match us, hl with | [_, _], _ => rfl
  obtain ⟨fd_Need___init__, F_Need___init__⟩ := c.def_ 3 (d := d_Need___init__) rfl
  have F_Need___init__ : FnM K "__init__" "Need.__init__" s_Need___init__ (He.ma K (He.ga K "Need") "__init__") fd_Need___init__ := F_Need___init__
  have b_Need___init__ : Binds K fd_Need___init__ P_Need___init__ [] := F_Need___init__.bindsN fun _ _ _ _ _ _ us hl => match us, hl with | [_, _, _, _], _ => rfl
  obtain ⟨fd_Need_value_for, F_Need_value_for⟩ := c.def_ 4 (d := d_Need_value_for) rfl
  have F_Need_value_for : FnM K "value_for" "Need.value_for" s_Need_value_for (He.ma K (He.ga K "Need") "value_for") fd_Need_value_for := F_Need_value_for
  have b_Need_value_for : Binds K fd_Need_value_for P_Need_value_for [] := F_Need_value_for.bindsN fun _ _ _ _ _ _ us hl => match us, hl with | [_, _], _ => rfl
  obtain ⟨fd_Need___call__, F_Need___call__⟩ := c.def_ 5 (d := d_Need___call__) rfl
  have F_Need___call__ : FnM K "__call__" "Need.__call__" s_Need___call__ (He.ma K (He.ga K "Need") "__call__") fd_Need___call__ := F_Need___call__
  have b_Need___call__ : Binds K fd_Need___call__ P_Need___call__ [] := F_Need___call__.bindsN fun _ _ _ _ _ _ us hl => match us, hl with | [_, _], _ => rfl
  obtain ⟨fd_Need___eq__, F_Need___eq__⟩ := c.def_ 6 (d := d_Need___eq__) rfl
  have F_Need___eq__ : FnM K "__eq__" "Need.__eq__" s_Need___eq__ (He.ma K (He.ga K "Need") "__eq__") fd_Need___eq__ := F_Need___eq__
  have b_Need___eq__ : Binds K fd_Need___eq__ P_Need___eq__ [] := F_Need___eq__.bindsN fun _ _ _ _ _ _ us hl => match us, hl with | [_, _], _ => rfl
  obtain ⟨fd_Need_mine, F_Need_mine⟩ := c.def_ 7 (d := d_Need_mine) rfl
  have F_Need_mine : FnM K "mine" "Need.mine" s_Need_mine (He.ma K (He.ga K "Need") "mine") fd_Need_mine := F_Need_mine
  have b_Need_mine : Binds K fd_Need_mine P_Need_mine [] := F_Need_mine.bindsN fun _ _ _ _ _ _ us hl => match us, hl with | [_], _ => rfl
  obtain ⟨fd_Need_theirs, F_Need_theirs⟩ := c.def_ 8 (d := d_Need_theirs) rfl
  have F_Need_theirs : FnM K "theirs" "Need.theirs" s_Need_theirs (He.ma K (He.ga K "Need") "theirs") fd_Need_theirs := F_Need_theirs
  have b_Need_theirs : Binds K fd_Need_theirs P_Need_theirs [] := F_Need_theirs.bindsN fun _ _ _ _ _ _ us hl => match us, hl with | [_], _ => rfl
  obtain ⟨fd_Need_endless, F_Need_endless⟩ := c.def_ 9 (d := d_Need_endless) rfl
  have F_Need_endless : FnM K "endless" "Need.endless" s_Need_endless (He.ma K (He.ga K "Need") "endless") fd_Need_endless := F_Need_endless
  have b_Need_endless : Binds K fd_Need_endless P_Need_endless [] := F_Need_endless.bindsN fun _ _ _ _ _ _ us hl => match us, hl with | [_], _ => rfl
  obtain ⟨fd_cell, F_cell⟩ := c.def_ 10 (d := d_cell) rfl
  have F_cell : FnP K "_law_cell" s_cell _ fd_cell := F_cell
  have g_cell := He.glo_ok X G (c.fact 3 (f := .glo "_law_cell") rfl)
  have b_cell : Binds K fd_cell P_cell [] := F_cell.bindsN fun _ _ _ _ _ _ us hl => match us, hl with | [_, _], _ => rfl
  obtain ⟨fd_draws, F_draws⟩ := c.def_ 11 (d := d_draws) rfl
  have F_draws : FnP K "_law_draws" s_draws _ fd_draws := F_draws
  have g_draws := He.glo_ok X G (c.fact 4 (f := .glo "_law_draws") rfl)
  have b_draws : Binds K fd_draws P_draws [] := F_draws.bindsN fun _ _ _ _ _ _ us hl => match us, hl with | [_, _], _ => rfl
  obtain ⟨fd_take, F_take⟩ := c.def_ 12 (d := d_take) rfl
  have F_take : FnP K "_law_take" s_take _ fd_take := F_take
  have g_take := He.glo_ok X G (c.fact 5 (f := .glo "_law_take") rfl)
  have b_take : Binds K fd_take P_take [] := F_take.bindsN fun _ _ _ _ _ _ us hl => match us, hl with | [_, _], _ => rfl
  obtain ⟨fd_need, F_need⟩ := c.def_ 13 (d := d_need) rfl
  have F_need : FnP K "_law_need" s_need _ fd_need := F_need
  have g_need := He.glo_ok X G (c.fact 6 (f := .glo "_law_need") rfl)
  have b_need : Binds K fd_need P_need [] := F_need.bindsN fun _ _ _ _ _ _ us hl => match us, hl with | [_, _], _ => rfl
  obtain ⟨fd_value, F_value⟩ := c.def_ 14 (d := d_value) rfl
  have F_value : FnP K "_law_value" s_value _ fd_value := F_value
  have g_value := He.glo_ok X G (c.fact 7 (f := .glo "_law_value") rfl)
  have b_value : Binds K fd_value P_value [] := F_value.bindsN fun _ _ _ _ _ _ us hl => match us, hl with | [_, _], _ => rfl
  obtain ⟨fd_points, F_points⟩ := c.def_ 15 (d := d_points) rfl
  have F_points : FnP K "_law_points" s_points _ fd_points := F_points
  have g_points := He.glo_ok X G (c.fact 8 (f := .glo "_law_points") rfl)
  have b_points : Binds K fd_points P_points [] := F_points.bindsN fun _ _ _ _ _ _ us hl => match us, hl with | [_], _ => rfl
  obtain ⟨fd_same, F_same⟩ := c.def_ 16 (d := d_same) rfl
  have F_same : FnP K "_law_same" s_same _ fd_same := F_same
  have g_same := He.glo_ok X G (c.fact 9 (f := .glo "_law_same") rfl)
  have b_same : Binds K fd_same P_same [] := F_same.bindsN fun _ _ _ _ _ _ us hl => match us, hl with | [_, _], _ => rfl
  obtain ⟨fd_at_most, F_at_most⟩ := c.def_ 17 (d := d_at_most) rfl
  have F_at_most : FnP K "_law_at_most" s_at_most _ fd_at_most := F_at_most
  have g_at_most := He.glo_ok X G (c.fact 10 (f := .glo "_law_at_most") rfl)
  have b_at_most : Binds K fd_at_most P_at_most [] := F_at_most.bindsN fun _ _ _ _ _ _ us hl => match us, hl with | [_, _], _ => rfl
  obtain ⟨fd_make, F_make⟩ := c.def_ 18 (d := d_make) rfl
  have F_make : FnP K "_law_make" s_make _ fd_make := F_make
  have g_make := He.glo_ok X G (c.fact 11 (f := .glo "_law_make") rfl)
  have b_make : Binds K fd_make P_make [] := F_make.bindsN fun _ _ _ _ _ _ us hl => match us, hl with | [_], _ => rfl
  obtain ⟨fd_sound, F_sound⟩ := c.def_ 19 (d := d_sound) rfl
  have F_sound : FnP K "_law_sound" s_sound _ fd_sound := F_sound
  have g_sound := He.glo_ok X G (c.fact 12 (f := .glo "_law_sound") rfl)
  have b_sound : Binds K fd_sound P_sound [] := F_sound.bindsN fun _ _ _ _ _ _ us hl => match us, hl with | [_], _ => rfl
  obtain ⟨fd_bound, F_bound⟩ := c.def_ 20 (d := d_bound) rfl
  have F_bound : FnP K "_law_bound" s_bound _ fd_bound := F_bound
  have g_bound := He.glo_ok X G (c.fact 13 (f := .glo "_law_bound") rfl)
  have b_bound : Binds K fd_bound P_bound [] := F_bound.bindsN fun _ _ _ _ _ _ us hl => match us, hl with | [_], _ => rfl
  obtain ⟨fd_greatest, F_greatest⟩ := c.def_ 21 (d := d_greatest) rfl
  have F_greatest : FnP K "_law_greatest" s_greatest _ fd_greatest := F_greatest
  have g_greatest := He.glo_ok X G (c.fact 14 (f := .glo "_law_greatest") rfl)
  have b_greatest : Binds K fd_greatest P_greatest [] := F_greatest.bindsN fun _ _ _ _ _ _ us hl => match us, hl with | [_], _ => rfl
  obtain ⟨fd_least, F_least⟩ := c.def_ 22 (d := d_least) rfl
  have F_least : FnP K "_law_least" s_least _ fd_least := F_least
  have g_least := He.glo_ok X G (c.fact 15 (f := .glo "_law_least") rfl)
  have b_least : Binds K fd_least P_least [] := F_least.bindsN fun _ _ _ _ _ _ us hl => match us, hl with | [_], _ => rfl
  obtain ⟨fd_due, F_due⟩ := c.def_ 23 (d := d_due) rfl
  have F_due : FnP K "_law_due" s_due _ fd_due := F_due
  have g_due := He.glo_ok X G (c.fact 16 (f := .glo "_law_due") rfl)
  have b_due : Binds K fd_due P_due [] := F_due.bindsN fun _ _ _ _ _ _ us hl => match us, hl with | [_, _], _ => rfl
  obtain ⟨fd_between, F_between⟩ := c.def_ 24 (d := d_between) rfl
  have F_between : FnP K "_law_between" s_between _ fd_between := F_between
  have g_between := He.glo_ok X G (c.fact 17 (f := .glo "_law_between") rfl)
  have b_between : Binds K fd_between P_between [] := F_between.bindsN fun _ _ _ _ _ _ us hl => match us, hl with | [_, _, _, _], _ => rfl
  obtain ⟨fd_law, F_law⟩ := c.def_ 25 (d := d_law) rfl
  have F_law : FnP K "law" s_law _ fd_law := F_law
  have g_law := He.glo_ok X G (c.fact 18 (f := .glo "law") rfl)
  have m_abs := He.free_ok X G (c.fact 19 (f := .free "abs") rfl)
  have m_bool := He.free_ok X G (c.fact 20 (f := .free "bool") rfl)
  have m_int := He.free_ok X G (c.fact 21 (f := .free "int") rfl)
  have m_isinstance := He.free_ok X G (c.fact 22 (f := .free "isinstance") rfl)
  have m_len := He.free_ok X G (c.fact 23 (f := .free "len") rfl)
  have m_max := He.free_ok X G (c.fact 24 (f := .free "max") rfl)
  have m_range := He.free_ok X G (c.fact 25 (f := .free "range") rfl)
  have m_tuple := He.free_ok X G (c.fact 26 (f := .free "tuple") rfl)
  have g_Need := He.glo_ok X G (c.fact 27 (f := .glo "Need") rfl)
  have cls_Need := He.cls_ok (c.fact 28 (f := .cls "Need") rfl)
  have mk_Need := He.mkr_ok (c.fact 29 (f := .mkr "Need") rfl)
  have n_Need_start := He.noat_ok (c.fact 30 (f := .noat "Need" "start") rfl)
  have n_Need_rises := He.noat_ok (c.fact 31 (f := .noat "Need" "rises") rfl)
  have n_Need_never := He.noat_ok (c.fact 32 (f := .noat "Need" "never") rfl)
  have me_Need_value_for := He.meth_ok (c.fact 33 (f := .meth "Need" "value_for") rfl)
  have me_Need_mine := He.meth_ok (c.fact 34 (f := .meth "Need" "mine") rfl)
  have me_Need_theirs := He.meth_ok (c.fact 35 (f := .meth "Need" "theirs") rfl)
  have me_Need_endless := He.meth_ok (c.fact 36 (f := .meth "Need" "endless") rfl)
  obtain ⟨x1, cx⟩ := He.ba cx
  obtain ⟨x2, x3⟩ := He.ba cx
  have isC := isB_ok cls_Need x1
  obtain ⟨y1, y2, y3⟩ := spB_ok x2
  obtain ⟨z1, z2, z3⟩ := spB_ok x3
  have e := hfa.symm.trans g_law
  cases e
  have b := FunD.bindsA (ps := ["_law_script"]) F_law fun _ _ _ _ _ _ us hl => match us, hl with | [_], _ => rfl
  refine ⟨fd_law, fun s v => b s [v] rfl, fun base _ _ => ?_⟩
  have c_cell : Cal P w K mg base 1 "_law_cell" (spCell K) := cal_of F_cell g_cell b_cell (ok_cell F_cell m_len m_int)
  have c_draws : Cal P w K mg base 1 "_law_draws" spDraws := cal_of F_draws g_draws b_draws (ok_draws F_draws m_int m_abs m_range)
  have c_take : Cal P w K mg base 1 "_law_take" (spTake K) := cal_of F_take g_take b_take (ok_take F_take m_len)
  have c_value_at : Cal P w K mg base 1 "value_at" (spValueAt K) := cal_of F_value_at g_value_at b_value_at (ok_value_at F_value_at)
  have c_flat_point : Cal P w K mg base 1 "flat_point" (spFlat K) := cal_of F_flat_point g_flat_point b_flat_point (ok_flat_point F_flat_point)
  have c_greatest_value : Cal P w K mg base 1 "greatest_value" (spGreatest K) := cal_of F_greatest_value g_greatest_value b_greatest_value (ok_greatest_value F_greatest_value m_len)
  have k_Need : Mak P w K mg base 2 "Need" (spNeed (He.ga K "Need") K) := mak_need (si := ok_init F_Need___init__ cls_Need n_Need_start n_Need_rises n_Need_never m_tuple c_greatest_value) mk_Need g_Need b_Need___init__
  have me_value_for : Met P w K mg base 2 (He.ga K "Need") "value_for" (spCallN (He.ga K "Need") K) := ⟨_, _, _, cls_Need, me_Need_value_for, ok_value_for F_Need_value_for cls_Need n_Need_start n_Need_rises n_Need_never c_value_at, b_Need_value_for⟩
  have co_call : Cob P w K mg base 3 (He.ga K "Need") (spCallN (He.ga K "Need") K) := ⟨_, ⟨y1, y2, y3⟩, fnr_of (ok_call F_Need___call__ me_value_for) b_Need___call__⟩
  have e_Need : Eqo P w K mg base 1 (He.ga K "Need") (spEq (He.ga K "Need") K) := ⟨_, _, _, ok_eq F_Need___eq__ isC m_isinstance g_Need cls_Need n_Need_start n_Need_rises n_Need_never, z1, z2, b_Need___eq__⟩
  have me_mine : Met P w K mg base 4 (He.ga K "Need") "mine" (spMine (He.ga K "Need") K) := ⟨_, _, _, cls_Need, me_Need_mine, ok_mine F_Need_mine cls_Need n_Need_start n_Need_rises n_Need_never c_flat_point k_Need, b_Need_mine⟩
  have me_theirs : Met P w K mg base 4 (He.ga K "Need") "theirs" (spTheirs (He.ga K "Need") K) := ⟨_, _, _, cls_Need, me_Need_theirs, ok_theirs F_Need_theirs cls_Need n_Need_start n_Need_rises n_Need_never c_flat_point k_Need, b_Need_theirs⟩
  have me_endless : Met P w K mg base 4 (He.ga K "Need") "endless" (spEndless (He.ga K "Need") K) := ⟨_, _, _, cls_Need, me_Need_endless, ok_endless F_Need_endless cls_Need n_Need_start n_Need_rises n_Need_never c_flat_point k_Need, b_Need_endless⟩
  have c_need : Cal P w K mg base 2 "_law_need" (spLN K) := cal_of F_need g_need b_need (ok_need F_need m_int m_range m_len m_tuple c_take)
  have c_value : Cal P w K mg base 1 "_law_value" (spLV K) := cal_of F_value g_value b_value (ok_value F_value)
  have c_points : Cal P w K mg base 1 "_law_points" (spPoints K) := cal_of F_points g_points b_points (ok_points F_points m_max)
  have c_same : Cal P w K mg base 1 "_law_same" spSame := cal_of F_same g_same b_same (ok_same F_same m_isinstance m_int m_bool)
  have c_at_most : Cal P w K mg base 1 "_law_at_most" spAm := cal_of F_at_most g_at_most b_at_most (ok_at_most F_at_most)
  have c_make : Cal P w K mg base 4 "_law_make" (spMake (He.ga K "Need") K) := cal_of F_make g_make b_make (ok_make F_make k_Need)
  have c_sound : Cal P w K mg base 4 "_law_sound" (spSound (He.ga K "Need") K) := cal_of F_sound g_sound b_sound (ok_sound F_sound isC m_isinstance m_tuple g_Need cls_Need n_Need_start n_Need_rises n_Need_never k_Need e_Need)
  have c_bound : Cal P w K mg base 1 "_law_bound" (spBound K) := cal_of F_bound g_bound b_bound (ok_bound F_bound m_max)
  have c_greatest : Cal P w K mg base 2 "_law_greatest" (spX grt K) := cal_of F_greatest g_greatest b_greatest (ok_greatest F_greatest m_len m_range c_value c_bound)
  have c_least : Cal P w K mg base 2 "_law_least" (spX lst K) := cal_of F_least g_least b_least (ok_least F_least m_len m_range c_value c_bound)
  have c_due : Cal P w K mg base 3 "_law_due" (spDue K) := cal_of F_due g_due b_due (ok_due F_due m_max c_greatest c_least)
  have c_between : Cal P w K mg base 2 "_law_between" (spBetween K) := cal_of F_between g_between b_between (ok_between F_between m_range c_at_most c_value)
  exact ok_law F_law m_int m_range m_len m_abs m_max cls_Need n_Need_start n_Need_rises n_Need_never c_draws c_cell c_need c_make c_sound c_points c_greatest c_least c_due c_same c_between me_mine me_theirs me_endless co_call e_Need
end Z
open PySem PySem.W PySem.Calls PyProof.Rows
theorem PySem.Challenge.cw_signedpacts_k18_need_rounds_holds : PySem.Challenge.rw_signedpacts_k18_need_rounds.Holds := by
  w_on; o_law
  refine HandSHeadRun.head_any (r := OpenLaw.row PySem.Challenge.rw_signedpacts_k18_need_rounds) (q := view (OpenLaw.row PySem.Challenge.rw_signedpacts_k18_need_rounds).prog [35]) (H := Z.hk) (ob := Z.ob) (M := 8000) (loose := Z.loose) (d := HandSHeadRun.topDef (OpenLaw.row PySem.Challenge.rw_signedpacts_k18_need_rounds).prog 35) (kwd := []) Z.ob_eq
    (by kernel_rfl) (fun s => by kernel_rfl) Z.run (by kernel_rfl) (by kernel_rfl) (by kernel_rfl) (by rfl) (by first | assumption | decide +kernel) (by decide +kernel) ⟨rfl, rfl, rfl, rfl, rfl, by decide +kernel⟩ ?hw ?hc
  case hw => w_witness2
  case hc =>
    refine L2.walk_ofE (l := PySem.Challenge.rw_signedpacts_k18_need_rounds) (n := 63) (k := 6) (x := "_law_script") (CX := L2.CX0) rfl (by decide) (by kernel_rfl) ⟨rfl, by decide, by decide⟩ ?F (fun _ _ _ _ z => z)
    intro w mg fa h Y G hmg0
    obtain ⟨K, KX, c, cx⟩ := Y
    have hmg : mg ("law" : PySem.Str) = some (.ref fa) := by
      have e : (HandSHeadRun.topDef (OpenLaw.row PySem.Challenge.rw_signedpacts_k18_need_rounds).prog 35).name = ("law" : PySem.Str) := by kernel_rfl
      rw [← e]
      exact hmg0
    obtain ⟨fd, hb, hF⟩ := Z.facts (P := (PySem.Challenge.rw_signedpacts_k18_need_rounds).prog) (w := w) KX G hmg c cx
    exact ⟨K, fd, Z.spLaw K, KX, hb, fun H a ns hl _ hS => ⟨a, ns, rfl, hS, fun _ => rfl⟩, hF⟩
