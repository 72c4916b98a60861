import PyProof.Rows.All
import Wide.All
import OpenK.AllK
import Wide.FinOn
import HandS.ForMost
import HandS.Zip
import HandS.TupMul
import HandS.Codes
import KE.GoesMore
import KE.GoesEnum
import HandS.Defaults
import HandS.IsInst
import HandS.Wide
import HandS.WideBits
import HandS.NoneIn
import HandS.OwnEq
import HandS.Star
import HandS.SetTxtIn
import HandS.Head0
import HandS.Head1
import HandS.Head2
import HandS.HeadEnd
import HandS.HeadHook1
import HandS.HeadHook2
import PySem.Challenge.RW_signedpacts_k19_need_round_counts
set_option Elab.async false
set_option linter.all false
set_option maxRecDepth 100000
set_option maxHeartbeats 4000000
namespace Z
open PySem PySem.Spec PyProof.Rows L2
/-! ### zip over two sequences, each a list (true) or a tuple (false) -/
def SqK (b : Bool) (K : PySem.W.Frag) (H : Hp) (a : Addr) (xs : List V) : Prop := match b with
  | true => SqL K H a xs
  | false => SqT K H a xs
def ItK (b : Bool) (h : Heap) (it l : Addr) (i : Nat) : Prop := match b with
  | true => h.IsListIter it l i
  | false => h.IsTupleIter it l i
def IsK (b : Bool) (h : Heap) (l : Addr) (xs : Array Value) : Prop := match b with
  | true => h.IsList l xs
  | false => h.IsTuple l xs
theorem ItK.at' {b : Bool} {h h' : Heap} {it l : Addr} {i : Nat} (x : ItK b h it l i) (k : ∀ o, h.get? it = some o → h'.get? it = some o) : ItK b h' it l i := by
  cases b
  · exact Heap.IsTupleIter.at x k
  · exact Heap.IsListIter.at x k
theorem ItK.obj {b : Bool} {h : Heap} {it l : Addr} {i : Nat} (x : ItK b h it l i) : ∃ o, h.get? it = some o ∧ ∀ v, o.data ≠ .cell v := by
  cases b
  · obtain ⟨o, e, _, d⟩ := (show h.IsTupleIter it l i from x)
    exact ⟨o, e, fun v q => by rw [d] at q; cases q⟩
  · obtain ⟨o, e, _, d⟩ := (show h.IsListIter it l i from x)
    exact ⟨o, e, fun v q => by rw [d] at q; cases q⟩
theorem sqk_is {X : Cx} {pins : List (Addr × Obj)} {σ : L2.St} {H : Hp} {s : Shared} {b : Bool} {a : Addr} {xs : List V} (I : Inv X pins σ H s) (h : SqK b X.K H a xs) :
    ∃ its : List Value, Vals xs its ∧ IsK b s.heap a its.toArray ∧ a < s.heap.objs.size := by
  cases b
  · obtain ⟨its, r, p, _⟩ := I.tuple h
    obtain ⟨o, ho, _⟩ := id p
    exact ⟨its, r, p, Heap.lt_size ho⟩
  · obtain ⟨its, r, p, _⟩ := I.list h
    exact ⟨its, r, p.isList, p.lt⟩
theorem sqk_inj {X : Cx} {pins : List (Addr × Obj)} {σ : L2.St} {H : Hp} {s : Shared} {b : Bool} {a : Addr} {xs ys : List V} (I : Inv X pins σ H s) (h : SqK b X.K H a xs) (h' : SqK b X.K H a ys) : xs = ys := by
  cases b
  · exact I.tuple_inj h h'
  · exact I.list_inj h h'
theorem drawsK {prog : Program} {w : World} {A : Around} (b : Bool) (hh : A.handled = none) (it l : Addr) (hne : l ≠ it) (items : Array Value) :
    Draws prog w A it [it, l] items.size (fun i v => items[i]? = some v) (fun i h => ItK b h it l i ∧ IsK b h l items) := by
  cases b
  · exact Draws.tuple hh it l hne items
  · exact Draws.list hh it l hne items
def ItzM (p q : Bool) (K : PySem.W.Frag) (a b : Addr) : It :=
  ⟨fun i H => ∃ (xs ys : List V) (x y : V), SqK p K H a xs ∧ SqK q K H b ys ∧ xs[i]? = some x ∧ ys[i]? = some y,
   fun i H v H' => ∃ T x y, v = .ref T ∧ H T = none ∧ H' = upd H T (.tup [x, y]) ∧ (∀ xs, SqK p K H a xs → xs[i]? = some x) ∧ (∀ ys, SqK q K H b ys → ys[i]? = some y),
   fun i H => ∃ xs ys : List V, SqK p K H a xs ∧ SqK q K H b ys ∧ (xs.length ≤ i ∨ ys.length ≤ i) ∧ i ≤ xs.length ∧ i ≤ ys.length⟩
theorem zsep {z TI TO i1 i2 a b : Addr} (D : ZipApart z TI TO i1 i2 a b) : ZipSep2 z TI TO i1 i2 [i1, a] [i2, b] where
  TIz := D.TIz
  TOz := D.TOz
  TITO := D.TITO
  TIi1 := D.TIi1
  mem1 := List.mem_cons_self
  zf1 := fun h => by rcases List.mem_cons.mp h with e | h; exact D.i1z e.symm; exact D.l1z (List.mem_singleton.mp h).symm
  Tf1 := fun h => by rcases List.mem_cons.mp h with e | h; exact D.TOi1 e; exact D.l1TO (List.mem_singleton.mp h).symm
  TIi2 := D.TIi2
  mem2 := List.mem_cons_self
  zf2 := fun h => by rcases List.mem_cons.mp h with e | h; exact D.i2z e.symm; exact D.l2z (List.mem_singleton.mp h).symm
  Tf2 := fun h => by rcases List.mem_cons.mp h with e | h; exact D.TOi2 e; exact D.l2TO (List.mem_singleton.mp h).symm
  sep1_2 := fun h => by rcases List.mem_cons.mp h with e | h; exact D.i12 e; exact D.l2i1 (List.mem_singleton.mp h).symm
  sep2_1 := fun h => by rcases List.mem_cons.mp h with e | h; exact D.i12 e.symm; exact D.l1i2 (List.mem_singleton.mp h).symm
theorem five {c z TI TO i1 i2 : Addr} {Pr : Addr → Prop} (hc : c ∈ [z, TI, TO, i1, i2]) (a : Pr z) (b : Pr TI) (d : Pr TO) (e : Pr i1) (f : Pr i2) : Pr c := by
  have q : c = z ∨ c = TI ∨ c = TO ∨ c = i1 ∨ c = i2 := by simpa using hc
  rcases q with rfl | rfl | rfl | rfl | rfl <;> assumption
theorem turn_zipM {p q : Bool} {P : Program} {w : World} {K : PySem.W.Frag} {elts : List Expr} {kk : Nat} {tpos : Pos} {a b z TI TO i1 i2 : Addr} (D : ZipApart z TI TO i1 i2 a b) :
    Turn P w K (.Tuple elts kk tpos) (ItzM p q K a b) [z, TI, TO, i1, i2] z (fun i h => IsZip h z TI TO .none ∧ IsTupOf2 h TI (.ref i1) (.ref i2) ∧ (∃ x y, IsTupOf2 h TO x y) ∧ ItK p h i1 a i ∧ ItK q h i2 b i) where
  mem := by simp
  obj := fun i h st c hc => by
    obtain ⟨hz, hI, ⟨x, y, hO⟩, h1, h2⟩ := st
    exact five (Pr := fun c => ∃ o, h.get? c = some o ∧ ∀ v, o.data ≠ .cell v) hc ⟨_, hz, fun v q => nomatch q⟩ ⟨_, hI, fun v q => nomatch q⟩ ⟨_, hO, fun v q => nomatch q⟩ h1.obj h2.obj
  keep := fun i h h' st k => by
    obtain ⟨hz, hI, ⟨x, y, hO⟩, h1, h2⟩ := st
    exact ⟨k z (by simp) _ hz, k TI (by simp) _ hI, ⟨x, y, k TO (by simp) _ hO⟩, h1.at' (fun o e => k i1 (by simp) o e), h2.at' (fun o e => k i2 (by simp) o e)⟩
  item := by
    intro X hP hw hK hc i pins s σ H E I hf st hg
    subst hP hw hK
    obtain ⟨hz, hI, ⟨x0, y0, hO⟩, h1, h2⟩ := st
    obtain ⟨xs, ys, x, y, qx, qy, ex, ey⟩ := hg
    obtain ⟨us, rx, kx, _⟩ := sqk_is I qx
    obtain ⟨vs, ry, ky, _⟩ := sqk_is I qy
    obtain ⟨u, eu, ru⟩ := rx.get ex
    obtain ⟨v, ev, rv⟩ := ry.get ey
    have hzl : z < s.heap.objs.size := Heap.lt_size hz
    have lu : i < us.toArray.size := by simpa using (List.getElem?_eq_some_iff.mp eu).1
    have lv : i < vs.toArray.size := by simpa using (List.getElem?_eq_some_iff.mp ev).1
    have hh : X.A.in1.handled = none := I.ok.hd hc
    refine wpAny_pyNext_zipD2_item (zsep D) (drawsK p hh i1 a D.l1i1 us.toArray) (drawsK q hh i2 b D.l2i2 vs.toArray) hz hI hO ⟨h1, kx⟩ ⟨h2, ky⟩ lu lv fun m1 m2 g tk p1 p2 gz gO g1 g2 gT gs gk => ?_
    have e1 : m1 = u := by
      have t1 : us.toArray[i]? = some u := by simpa using eu
      exact Option.some.inj (p1.symm.trans t1)
    have e2 : m2 = v := by
      have t1 : vs.toArray[i]? = some v := by simpa using ev
      exact Option.some.inj (p2.symm.trans t1)
    subst e1 e2
    refine ⟨_, rfl, wpAny_letOwnedTupleGo_zip (s := { s with heap := g, toks := tk }) gz fun g' gz' sb => ?_⟩
    have gT' : g'.get? s.heap.objs.size = some { cls := .type "tuple", data := .seq #[m1, m2] } := (sb.2 _ (Nat.ne_of_gt hzl)).trans gT
    have nw : ObjOk X.prog X.w (upd H s.heap.objs.size (.tup [x, y])) g' s.heap.objs.size (.tup [x, y]) := ⟨by show 2 ≤ sizeLine; decide, [m1, m2], .cons ru (.cons rv .nil), ⟨_, gT', rfl, _, rfl⟩⟩
    have I1 : Inv X pins σ (upd H s.heap.objs.size (.tup [x, y])) { s with heap := g', toks := tk } :=
      I.turnedNew (t' := tk) (ch := [z, TI, TO, i1, i2]) (fun c o nb e => (sb.2 c (fun w => nb (by simp [w]))).trans (gk c o (fun w => nb (by simp [w])) (fun w => nb (by simp [w])) (fun w => nb (by simp [w])) (fun w => nb (by simp [w])) e)) hf (Nat.le_refl _) nw
    refine ⟨.ref s.heap.objs.size, _, I1, rfl, ⟨_, x, y, rfl, I.hok.fresh (Nat.le_refl _), rfl, fun l hl => by rw [sqk_inj I hl qx]; exact ex, fun l hl => by rw [sqk_inj I hl qy]; exact ey⟩, ⟨gz', ?_, ⟨m1, m2, ?_⟩, ?_, ?_⟩, fun c hcm => ?_⟩
    · exact (sb.2 _ D.TIz).trans (gk _ _ D.TIz D.TITO D.TIi1 D.TIi2 hI)
    · exact (sb.2 _ D.TOz).trans gO
    · exact ItK.at' g1.1 (fun o e => (sb.2 _ D.i1z).trans e)
    · exact ItK.at' g2.1 (fun o e => (sb.2 _ D.i2z).trans e)
    · have lt : c < s.heap.objs.size := by
        obtain ⟨o1, q1, _⟩ := h1.obj
        obtain ⟨o2, q2, _⟩ := h2.obj
        exact five (Pr := fun c => c < s.heap.objs.size) hcm hzl (Heap.lt_size hI) (Heap.lt_size hO) (Heap.lt_size q1) (Heap.lt_size q2)
      rw [upd_ne (Nat.ne_of_lt lt)]
      exact (hf c hcm).1
  done := by
    intro X hP hw hK hc i pins s σ H E I hf st hg
    subst hP hw hK
    obtain ⟨hz, hI, ⟨x0, y0, hO⟩, h1, h2⟩ := st
    obtain ⟨xs, ys, qx, qy, hend, le1, le2⟩ := hg
    obtain ⟨us, rx, kx, _⟩ := sqk_is I qx
    obtain ⟨vs, ry, ky, _⟩ := sqk_is I qy
    have l1 := rx.length
    have l2 := ry.length
    have n1 : us.toArray.size = us.length := by simp
    have n2 : vs.toArray.size = vs.length := by simp
    have hh : X.A.in1.handled = none := I.ok.hd hc
    refine wpAny_pyNext_zipD2_end (i := i) (zsep D) (drawsK p hh i1 a D.l1i1 us.toArray) (drawsK q hh i2 b D.l2i2 vs.toArray) hz hI hO ⟨h1, kx⟩ ⟨h2, ky⟩ (by omega) (by omega) (by omega) fun g tk gk => ?_
    exact ⟨rfl, I.turnedL (t' := tk) (ch := [z, TI, TO, i1, i2]) (fun c o nb e => gk c o (fun w => nb (by simp [w])) (fun w => nb (by simp [w])) (fun w => nb (by simp [w])) (fun w => nb (by simp [w])) e) hf⟩
  self := fun A i s Q E st h => wpAny_pyIter_zip st.1 h
def iZipM (K : PySem.W.Frag) (ta : TA) : TI := fun σ H R => ta σ H fun vs H1 => ∃ p q a b xs ys, vs = [.ref a, .ref b] ∧ SqK p K H1 a xs ∧ SqK q K H1 b ys ∧ R (ItzM p q K a b) H1
theorem begK {p : Bool} {h : Heap} {a : Addr} {xs : Array Value} (k : IsK p h a xs) : ∃ o Hp', Begins (.ref a) o Hp' ∧ Hp' h ∧ ∀ h' it, h'.get? it = some o → ItK p h' it a 0 := by
  cases p
  · exact ⟨_, _, begins_tuple a xs, k, fun h' it e => ⟨_, e, rfl, rfl⟩⟩
  · exact ⟨_, _, begins_list a xs, k, fun h' it e => ⟨_, e, rfl, rfl⟩⟩
theorem pi_zipM {X : Cx} {e e2 : Expr} {ta : TA} {p pos tpos : Pos} {elts : List Expr} {kk : Nat} (hg : Gl X "zip") (hm : X.mg "zip" = none) (ha : PA X [e, e2] ta)
    (hs : starEach [e, e2] X.env = (false, eval e X.env) :: starEach [e2] X.env := by rfl) (hpl : (backTo pos (starEach [e2] X.env)).any (·.1) = false := by rfl) :
    PI X (.Tuple elts kk tpos) (.Call (.Name "zip" p) [e, e2] [] pos) (iZipM X.K ta) := by
  constructor
  intro pins s σ H R I h
  refine Call_ (ld_blt I hg hm PyProof.Rows.boot_zip (PyProof.Rows.callWith_type1 (thn (ha.run pos pins s σ H _ I h) fun us s1 ⟨vs, H1, I1, r1, q1⟩ => ?_) hs hpl))
  obtain ⟨k1, k2, a, b, xs, ys, ex, qx, qy, q⟩ := q1
  subst ex
  obtain ⟨u, v, rfl, ru, rv⟩ := Vals.two r1
  cases ru
  cases rv
  obtain ⟨i1, _, p1, lt1⟩ := sqk_is I1 qx
  obtain ⟨i2, _, p2, lt2⟩ := sqk_is I1 qy
  obtain ⟨o1, G1, B1, g1, w1⟩ := begK p1
  obtain ⟨o2, G2, B2, g2, w2⟩ := begK p2
  refine zip_begins2 B1 B2 g1 g2 fun h' hz hI hO e1 e2 hsz hk => wpAny_pyIter_zip hz ?_
  have I2 : Inv X pins σ H1 { s1 with heap := h' } := I1.kept (t' := s1.toks) hk
  refine ⟨s1.heap.objs.size + 4, [s1.heap.objs.size + 4, s1.heap.objs.size + 2, s1.heap.objs.size + 3, s1.heap.objs.size, s1.heap.objs.size + 1], _, _, H1, rfl, I2, turn_zipM (PySem.W.ktu_apart s1.heap.objs.size a b lt1 lt2), ⟨hz, hI, ⟨_, _, hO⟩, w1 _ _ e1, w2 _ _ e2⟩, fun c hcm => ?_, q⟩
  have hle : s1.heap.objs.size ≤ c := five (Pr := fun c => s1.heap.objs.size ≤ c) hcm (Nat.le_add_right _ _) (Nat.le_add_right _ _) (Nat.le_add_right _ _) (Nat.le_refl _) (Nat.le_add_right _ _)
  exact I1.fpOk hle (I1.hok.fresh hle)
end Z
set_option Elab.async false
set_option linter.all false
set_option maxRecDepth 100000
set_option maxHeartbeats 4000000
namespace Z
open PySem PySem.Spec PyProof.Rows L2
/-! ### (v,) * k for 0 ≤ k -/
theorem tmul0 (l : Addr) (v : Value) (n : Nat) (dd : Option Addr) (sl : Array (Option Value)) (u : Tok) :
    Meets (Builtin.«tuple.__mul__» ⟨[.ref l, .int 0 u], []⟩) (fun _ R s => s.heap.get? l = some { cls := .type "tuple", dict := dd, data := .seq #[v] n, slots := sl } ∧
      R (.ok (.ret (Value.ref s.heap.objs.size))) { s with heap := s.heap.push { cls := Value.type "tuple", data := Data.seq #[] }, toks := s.toks }) :=
  .of_wp fun prog w A R s h => by
    obtain ⟨hp, g, d, tk, os⟩ := s
    obtain ⟨hl, h⟩ := h
    have f1 := AutoSeq1.idx_int
    wp_walk using AutoSeq1.wpAny_loadPart' hl
    exact ⟨_, rfl, h⟩
theorem tmul1 (l : Addr) (items : Array Value) (n : Nat) (dd : Option Addr) (sl : Array (Option Value)) (u : Tok) :
    Meets (Builtin.«tuple.__mul__» ⟨[.ref l, .int 1 u], []⟩) (fun _ R s => s.heap.get? l = some { cls := .type "tuple", dict := dd, data := .seq items n, slots := sl } ∧ R (.ok (.ret (Value.ref l))) s) :=
  .of_wp fun prog w A R s h => by
    obtain ⟨hp, g, d, tk, os⟩ := s
    obtain ⟨hl, h⟩ := h
    have f1 := AutoSeq1.idx_int
    wp_walk using AutoSeq1.wpAny_loadPart' hl
    exact ⟨_, rfl, h⟩
theorem same_new {H : Hp} {p : Addr} {o : HO} (h : H p = none) : Same H (upd H p o) := fun b x e => by
  rw [upd_ne (ne_of_none e h)]
  exact e
def rRepU : R2 := fun x y H Q => ∃ l k v, x = .ref l ∧ y = .int k ∧ H l = some (.tup [v]) ∧ 0 ≤ k ∧ k ≤ 1000 ∧ ∀ p H', Same H H' → H' p = some (.tup (List.replicate k.toNat v)) → Q (.ref p) H'
theorem op_repU {X : Cx} : OpR X (binaryOp .Mult) rRepU := by
  intro pins s σ H x y vv uu Q I rx ry h
  obtain ⟨l, k, v, rfl, rfl, hT, h0, h1, q⟩ := id h
  by_cases k2 : 2 ≤ k
  · refine op_repT pins s σ H _ _ vv uu Q I rx ry ⟨l, k, [v], rfl, rfl, .inl (.inl hT), by simp, k2, h1, by simp, fun p np => q p _ (same_new np) ?_⟩
    rw [upd_same]
    congr 2
    generalize k.toNat = m
    induction m with
    | zero => rfl
    | succ m ih => rw [List.replicate_succ, List.flatten_cons, ih, List.replicate_succ]; rfl
  · cases rx
    obtain ⟨t, rfl⟩ := ry
    obtain ⟨its, r, ⟨⟨cls, dd, data, sl⟩, ho, hc, n, hd⟩, hs⟩ := I.tuple (.inl (.inl hT) : SqT X.K H l [v])
    simp only at hc hd
    subst hc hd
    obtain ⟨u, rfl, ru⟩ := Vals.one r
    by_cases k1 : k = 1
    · subst k1
      refine wpAny_binaryOp_repeat_ref (T := "tuple") (U := "int") (by decide) ⟨_, ho, rfl⟩ (fun s' => typeIs_int s' 1 t) noFill_tuple_mul F.fills_int_mul F.slot_int_rmul repeat_tuple F.slot_int_index.lookup
        (call_meets F.slot_int_rmul (typeIs_int s 1 t) F.entry_int_rmul (F.args_int_rmul_2 _ _) (int_rmul_tuple 1 t l [u].toArray n dd sl)
          ⟨ho, rfl, ⟨_, ho, rfl⟩, call_meets F.slot_tuple_mul ⟨_, ho, rfl⟩ F.entry_tuple_mul (F.args_tuple_mul_2 _ _) (tmul1 l [u].toArray n dd sl t) ⟨ho, ?_⟩⟩)
      exact ⟨.ref l, H, I, rfl, q l H (Same.refl H) hT⟩
    · have k0 : k = 0 := by omega
      subst k0
      refine wpAny_binaryOp_repeat_ref (T := "tuple") (U := "int") (by decide) ⟨_, ho, rfl⟩ (fun s' => typeIs_int s' 0 t) noFill_tuple_mul F.fills_int_mul F.slot_int_rmul repeat_tuple F.slot_int_index.lookup
        (call_meets F.slot_int_rmul (typeIs_int s 0 t) F.entry_int_rmul (F.args_int_rmul_2 _ _) (int_rmul_tuple 0 t l [u].toArray n dd sl)
          ⟨ho, rfl, ⟨_, ho, rfl⟩, call_meets F.slot_tuple_mul ⟨_, ho, rfl⟩ F.entry_tuple_mul (F.args_tuple_mul_2 _ _) (tmul0 l u n dd sl t) ⟨ho, ?_⟩⟩)
      refine ⟨.ref s.heap.objs.size, _, I.laid (t' := s.toks) (o := .tup []) (fun b ob z => Heap.get?_push_of_some _ z) (Nat.le_refl _) ?_, rfl, q _ _ (same_new (I.hok.fresh (Nat.le_refl _))) upd_same⟩
      exact ⟨Nat.zero_le _, [], .nil, IsTup.new _ _⟩
/-! ### loops and comprehensions over any iterator -/
def forW (J : It) (g : TG) (tb : TS) (D : Ends) (σ : L2.St) (H : Hp) : Prop := ∃ W : Nat → Nat → L2.St → Hp → Prop, (∃ m, W 0 m σ H) ∧ ∀ i m σ H, W i m σ H →
  (J.stop i H ∧ D.nx σ H) ∨ (J.go i H ∧ ∃ N : L2.St → Hp → Prop, (∀ σ' H', N σ' H' → ∃ m', m' < m ∧ W (i + 1) m' σ' H') ∧ ∀ x H', J.yld i H x H' → g x σ H' fun σ2 H2 => tb { D with nx := N, ct := N, bk := D.nx } σ2 H2)
theorem for_gen {J : It} {n : Nat} {g : TG} {tb : TS} {D : Ends} {σ : L2.St} {H : Hp} (Pv : Nat → L2.St → Hp → Prop) (h0 : Pv 0 σ H) (hgo : ∀ i σ H, i < n → Pv i σ H → J.go i H) (hst : ∀ σ H, Pv n σ H → J.stop n H)
    (hs : ∀ i σ H x H', i < n → Pv i σ H → J.yld i H x H' → g x σ H' fun σ2 H2 => tb { D with nx := Pv (i + 1), ct := Pv (i + 1), bk := D.nx } σ2 H2) (hd : ∀ σ H, Pv n σ H → D.nx σ H) : forW J g tb D σ H := by
  refine ⟨fun i m σ H => m = n - i ∧ i ≤ n ∧ Pv i σ H, ⟨n, by omega, Nat.zero_le _, h0⟩, fun i m σ H w => ?_⟩
  obtain ⟨rfl, hi, p⟩ := w
  by_cases hlt : i < n
  · exact .inr ⟨hgo i σ H hlt p, Pv (i + 1), fun σ' H' z => ⟨n - (i + 1), by omega, rfl, hlt, z⟩, fun x H' y => hs i σ H x H' hlt p y⟩
  · have e : i = n := by omega
    subst e
    exact .inl ⟨hst σ H p, hd σ H p⟩
def lcW (J : It) (g : TG) (tt : TT) (te : TE) (vs : List Nat) (σ : L2.St) (D : Addr) (Qd : Hp → Prop) (H1 : Hp) : Prop := ∃ W : Nat → Nat → Hp → Prop, (∃ m, W 0 m (upd H1 D (.lst []))) ∧ ∀ i m H, W i m H →
  (J.stop i H ∧ Qd H) ∨ (J.go i H ∧ ∃ Nx : Hp → Prop, (∀ H', Nx H' → ∃ m', m' < m ∧ W (i + 1) m' H') ∧ ∀ x H', J.yld i H x H' → g x (wipe σ vs) H' fun σ2 H2 => wipe σ2 vs = wipe σ vs ∧ tt σ2 H2 fun b H3 =>
    if b = true then te σ2 H3 fun y H4 => ∃ acc, H4 D = some (.lst acc) ∧ acc.length < sizeLine ∧ Nx (upd H4 D (.lst (acc ++ [y]))) else Nx H3)
theorem lc_gen {J : It} {n : Nat} {g : TG} {tt : TT} {te : TE} {vs : List Nat} {σ : L2.St} {H1 : Hp} {D : Addr} {Qd : Hp → Prop} (Pv : Nat → Hp → Prop) (h0 : Pv 0 (upd H1 D (.lst []))) (hgo : ∀ i H, i < n → Pv i H → J.go i H) (hst : ∀ H, Pv n H → J.stop n H)
    (hs : ∀ i H x H', i < n → Pv i H → J.yld i H x H' → g x (wipe σ vs) H' fun σ2 H2 => wipe σ2 vs = wipe σ vs ∧ tt σ2 H2 fun b H3 =>
      if b = true then te σ2 H3 fun y H4 => ∃ acc, H4 D = some (.lst acc) ∧ acc.length < sizeLine ∧ Pv (i + 1) (upd H4 D (.lst (acc ++ [y]))) else Pv (i + 1) H3) (hd : ∀ H, Pv n H → Qd H) : lcW J g tt te vs σ D Qd H1 := by
  refine ⟨fun i m H => m = n - i ∧ i ≤ n ∧ Pv i H, ⟨n, by omega, Nat.zero_le _, h0⟩, fun i m H w => ?_⟩
  obtain ⟨rfl, hi, p⟩ := w
  by_cases hlt : i < n
  · exact .inr ⟨hgo i H hlt p, Pv (i + 1), fun H' z => ⟨n - (i + 1), by omega, rfl, hlt, z⟩, fun x H' y => hs i H x H' hlt p y⟩
  · have e : i = n := by omega
    subst e
    exact .inl ⟨hst H p, hd H p⟩
/-! ### a def of the module that may be called by its name -/
structure Cal (P : Program) (w : World) (K : PySem.W.Frag) (mg : Str → Option Value) (base : Heap) (k : Nat) (x : Str) (sp : Sp) : Prop where
  ex : ∃ (f : Addr) (fd : FuncData) (ps : List Str), FnOk P w K mg base CX0 k f fd ps sp ∧ mg x = some (.ref f) ∧ PySem.W.keepIn K (.ref f) = true ∧ Binds K fd ps []
section
variable {X : Cx} {k j : Nat} {x : Str} {sp : Sp} {p pos : Pos} {e : Expr} {es : List Expr} {t : TA}
theorem pe_cl (c : Cal X.prog X.w X.K X.mg X.base k x sp) (hr : Room j X.A) (hk : k ≤ j) (hg : Gl X x) (ha : PA X (e :: es) t)
    (hdb : (x == ("__debug__" : Str)) = false := by decide) (he : starEach (e :: es) X.env = (false, eval e X.env) :: starEach es X.env := by rfl) (hpl : (backTo pos (starEach es X.env)).any (·.1) = false := by rfl) : PE X (.Call (.Name x p) (e :: es) [] pos) (tCall sp [] E0 t) := by
  obtain ⟨f, fd, ps, F, hm, kp, b⟩ := c.ex
  exact pe_call F (hr.mono hk) hg hm kp b .nil pass0 ha hdb he hpl
end
structure CalK (P : Program) (w : World) (K : PySem.W.Frag) (mg : Str → Option Value) (base : Heap) (k : Nat) (x : Str) (n : Nat) (ks : List Str) (gV : List V → List V → List V) (sp : Sp) : Prop where
  ex : ∃ (f : Addr) (fd : FuncData) (ps : List Str) (g : List Value → List Value → List Value), FnOk P w K mg base CX0 k f fd ps sp ∧ mg x = some (.ref f) ∧ PySem.W.keepIn K (.ref f) = true ∧ KBn K fd ps n ks g gV
section
variable {X : Cx} {k j n : Nat} {x : Str} {sp : Sp} {ks : List Str} {gV : List V → List V → List V} {p pos : Pos} {e : Expr} {es : List Expr} {kws : List Keyword} {t tk : TA}
theorem pe_clK (c : CalK X.prog X.w X.K X.mg X.base k x n ks gV sp) (hr : Room j X.A) (hk : k ≤ j) (hg : Gl X x) (ha : PA X (e :: es) t) (hkw : PK X kws tk)
    (hall : (backToKw pos (keywordEach kws X.env)).all (·.1.isSome) = true := by rfl) (hks : (backToKw pos (keywordEach kws X.env)).filterMap (·.1) = ks := by rfl) (hdb : (x == ("__debug__" : Str)) = false := by decide)
    (he : starEach (e :: es) X.env = (false, eval e X.env) :: starEach es X.env := by rfl) (hpl : ((backTo pos (starEach (e :: es) X.env)).any (·.1) || (backToKw pos (keywordEach kws X.env)).any (·.1.isNone)) = false := by rfl) :
    PE X (.Call (.Name x p) (e :: es) kws pos) (tCallN n ks.length sp gV E0 t tk) := by
  obtain ⟨f, fd, ps, g, F, hm, kp, b⟩ := c.ex
  exact pe_callN F (hr.mono hk) hg hm kp b pass0 ha hkw hall hks hdb he hpl
end
/-! ### heaps -/
/-- all but p stands -/
def SB (p : Addr) (H H' : Hp) : Prop := ∀ b o, b ≠ p → H b = some o → H' b = some o
theorem Same.sb {p : Addr} {H H' : Hp} (s : Same H H') : SB p H H' := fun b o _ h => s b o h
theorem SB.trans {p : Addr} {H H1 H2 : Hp} (a : SB p H H1) (b : SB p H1 H2) : SB p H H2 := fun c o n h => b c o n (a c o n h)
theorem SB.upd {p : Addr} {H H' : Hp} {o : HO} (s : SB p H H') : SB p H (upd H' p o) := fun b u n h => by
  rw [upd_ne n]
  exact s b u n h
theorem SB.same {p : Addr} {H H' : Hp} (s : SB p H H') (n : H p = none) : Same H H' := fun b o h => s b o (ne_of_none h n) h
theorem Same.mut {p : Addr} {H H' : Hp} {o : HO} (s : Same H H') (n : H p = none) : Same H (L2.upd H' p o) := fun b u h => by
  rw [upd_ne (ne_of_none h n)]
  exact s b u h
theorem SB.sq {K : PySem.W.Frag} {p a : Addr} {H H' : Hp} {xs : List V} (s : SB p H H') (n : a ≠ p) (h : SqL K H a xs) : SqL K H' a xs := by
  rcases h with (h | ⟨o, h⟩) | h
  · exact .inl (.inl (s _ _ n h))
  · exact .inl (.inr ⟨o, s _ _ n h⟩)
  · exact .inr h
theorem Same.sqT {K : PySem.W.Frag} {a : Addr} {H H' : Hp} {xs : List V} (s : Same H H') (h : SqT K H a xs) : SqT K H' a xs := by
  rcases h with (h | ⟨o, h⟩) | h
  · exact .inl (.inl (s _ _ h))
  · exact .inl (.inr ⟨o, s _ _ h⟩)
  · exact .inr h
theorem Same.sqK {b : Bool} {K : PySem.W.Frag} {a : Addr} {H H' : Hp} {xs : List V} (s : Same H H') (h : SqK b K H a xs) : SqK b K H' a xs := by
  cases b
  · exact Z.Same.sqT s h
  · exact s.seq h
theorem at_map {α : Type} {f : α → V} {xs : List α} {i : Nat} {x : α} (h : xs[i]? = some x) : atI (xs.map f) (i : Int) = some (f x) := atI_nat (by rw [List.getElem?_map, h]; rfl)
theorem of_map {α : Type} {f : α → V} {xs : List α} {i : Nat} {v : V} (h : (xs.map f)[i]? = some v) : ∃ x, xs[i]? = some x ∧ v = f x := by
  rw [List.getElem?_map] at h
  cases e : xs[i]? with
  | none => rw [e] at h; cases h
  | some x => rw [e] at h; exact ⟨x, rfl, (Option.some.inj h).symm⟩
end Z
set_option Elab.async false
set_option linter.all false
set_option maxRecDepth 100000
set_option maxHeartbeats 4000000
namespace Z
open PySem PySem.Spec PyProof.Rows L2
/-! ### data -/
def sqD (b : Bool) (ds : List PyData) : PyData := match b with
  | true => .list ds
  | false => .tuple ds
def intsD (b : Bool) (ns : List Int) : PyData := sqD b (ns.map PyData.int)
def matD (b : Bool) (rs : List (List Int)) : PyData := sqD b (rs.map (intsD b))
theorem dp_sq {b : Bool} {K : PySem.W.Frag} {H : Hp} {a : Addr} {xs : List V} {ds : List PyData} (h : SqK b K H a xs) (d : DpAll K H xs ds) : Dp K H (.ref a) (sqD b ds) := by
  cases b
  · exact .tup h d
  · exact .lst h d
theorem dpa_ints {K : PySem.W.Frag} {H : Hp} : ∀ ns : List Int, DpAll K H (ns.map V.int) (ns.map PyData.int)
  | [] => .nil
  | n :: r => .cons (.int n) (dpa_ints r)
theorem dp_ints {b : Bool} {K : PySem.W.Frag} {H : Hp} {a : Addr} {ns : List Int} (h : SqK b K H a (ns.map V.int)) : Dp K H (.ref a) (intsD b ns) := dp_sq h (dpa_ints ns)
/-- a matrix: a list (or tuple) of lists (or tuples) of ints, at ps -/
def Mat (b : Bool) (K : PySem.W.Frag) (H : Hp) (a : Addr) (ps : List Addr) (rs : List (List Int)) : Prop := SqK b K H a (ps.map V.ref) ∧ ps.length = rs.length ∧ ∀ (i : Nat) (p : Addr) (r : List Int), ps[i]? = some p → rs[i]? = some r → SqK b K H p (r.map V.int)
theorem Mat.mono {b : Bool} {K : PySem.W.Frag} {H H' : Hp} {a : Addr} {ps : List Addr} {rs : List (List Int)} (s : Same H H') (m : Mat b K H a ps rs) : Mat b K H' a ps rs := ⟨Z.Same.sqK s m.1, m.2.1, fun i p r h1 h2 => Z.Same.sqK s (m.2.2 i p r h1 h2)⟩
theorem dpa_mat {b : Bool} {K : PySem.W.Frag} {H : Hp} : ∀ (ps : List Addr) (rs : List (List Int)), ps.length = rs.length → (∀ (i : Nat) (p : Addr) (r : List Int), ps[i]? = some p → rs[i]? = some r → SqK b K H p (r.map V.int)) → DpAll K H (ps.map V.ref) (rs.map (intsD b))
  | [], [], _, _ => .nil
  | p :: ps, r :: rs, hl, h => .cons (dp_ints (h 0 p r rfl rfl)) (dpa_mat ps rs (by simpa using hl) fun i q s h1 h2 => h (i + 1) q s h1 h2)
theorem Mat.dp {b : Bool} {K : PySem.W.Frag} {H : Hp} {a : Addr} {ps : List Addr} {rs : List (List Int)} (m : Mat b K H a ps rs) : Dp K H (.ref a) (matD b rs) := dp_sq m.1 (dpa_mat ps rs m.2.1 m.2.2)
theorem lay_ints : ∀ ns : List Int, PyData.canLayAll0 (ns.map PyData.int) = true
  | [] => rfl
  | n :: r => by
    rw [List.map_cons, PyData.canLayAll0, lay_ints r]
    rfl
theorem dep_ints : ∀ ns : List Int, PyData.depthAll (ns.map PyData.int) = 0
  | [] => rfl
  | n :: r => by
    rw [List.map_cons, PyData.depthAll, dep_ints r]
    rfl
theorem shaped_ints (b : Bool) (ns : List Int) : SeqAt.shaped (intsD b ns) = true := by
  unfold SeqAt.shaped intsD
  cases b
  · show (PyData.canLayAll0 (ns.map PyData.int) && decide (PyData.depthAll (ns.map PyData.int) + 1 ≤ 64)) = true
    rw [lay_ints, dep_ints]
    rfl
  · show (PyData.canLayAll0 (ns.map PyData.int) && decide (PyData.depthAll (ns.map PyData.int) + 1 ≤ 64)) = true
    rw [lay_ints, dep_ints]
    rfl
theorem lay_mat (b : Bool) : ∀ rs : List (List Int), PyData.canLayAll0 (rs.map (intsD b)) = true
  | [] => rfl
  | n :: r => by
    rw [List.map_cons, PyData.canLayAll0, lay_mat b r, SeqAt.canLay_of_shaped (shaped_ints b n)]
    rfl
theorem dep_mat (b : Bool) : ∀ rs : List (List Int), PyData.depthAll (rs.map (intsD b)) ≤ 1
  | [] => Nat.zero_le _
  | n :: r => by
    rw [List.map_cons, PyData.depthAll]
    have h := dep_mat b r
    have h2 : (intsD b n).depth = 1 := by
      cases b
      · show PyData.depthAll (n.map PyData.int) + 1 = 1
        rw [dep_ints]
      · show PyData.depthAll (n.map PyData.int) + 1 = 1
        rw [dep_ints]
    omega
theorem shaped_mat (b : Bool) (rs : List (List Int)) : SeqAt.shaped (matD b rs) = true := by
  have h := dep_mat b rs
  unfold SeqAt.shaped matD
  cases b
  · show (PyData.canLayAll0 (rs.map (intsD false)) && decide (PyData.depthAll (rs.map (intsD false)) + 1 ≤ 64)) = true
    rw [lay_mat, decide_eq_true (by omega)]
    rfl
  · show (PyData.canLayAll0 (rs.map (intsD true)) && decide (PyData.depthAll (rs.map (intsD true)) + 1 ≤ 64)) = true
    rw [lay_mat, decide_eq_true (by omega)]
    rfl
theorem same2 {K : PySem.W.Frag} {H : Hp} {x y : V} {d : PyData} {R : PyData → PyData → Prop} (hx : Dp K H x d) (hy : Dp K H y d) (hs : SeqAt.shaped d = true) (q : R d d) : ∃ d' e', Dp K H x d' ∧ Dp K H y e' ∧ SeqAt.shaped d' = true ∧ SeqAt.shaped e' = true ∧ R d' e' := ⟨d, d, hx, hy, hs, hs, q⟩
theorem eqv_same {d : PyData} (hs : SeqAt.shaped d = true) : PyData.eqv d d = true := SeqAt.eqv_refl d (SeqAt.canLay_of_shaped hs)
/-! ### a target that is one of two kinds -/
def gOr (t u : TG) : TG := fun v σ H Q => t v σ H Q ∨ u v σ H Q
theorem pg_or {X : Cx} {e : Expr} {t u : TG} (h1 : PG X e t) (h2 : PG X e u) : PG X e (gOr t u) := by
  refine ⟨fun pins s σ H v uu Q I r hw => ?_⟩
  rcases hw with h | h
  · exact h1.run pins s σ H v uu Q I r h
  · exact h2.run pins s σ H v uu Q I r h
/-! ### isinstance of built-in kinds -/
theorem isi {K : PySem.W.Frag} {H : Hp} {x : V} {T c : String} {b : Bool} {R : Bool → Prop} (t : TyOf K H x (.type T)) (h : kitB T c = some b) (q : R b) : ∃ (x' c' : V) (t' u' : Value) (b' : Bool), [x, .ty c] = [x', c'] ∧ ClsV c' u' ∧ TyX K H x' t' ∧ PySem.W.kitOne K t' u' = some b' ∧ R b' :=
  ⟨x, .ty c, .type T, .type c, b, rfl, .ty c, .base t, kit_ty h, q⟩
/-! ### rules by the written part itself (within a comprehension's block) -/
section
variable {X : Cx} {K : PySem.W.Frag}
theorem ix_list_K (h : X.K = K) : IxR X (rIxL K) := by subst h; exact ix_list
theorem ix_tup_K (h : X.K = K) : IxR X (rIxT K) := by subst h; exact ix_tup
theorem ix_seq_K (h : X.K = K) : IxR X (rIx K) := by subst h; exact ix_seq
theorem call_len_seq_K (h : X.K = K) : CallR X (.builtin "len") (fun xs H Q => ∃ p ys, xs = [.ref p] ∧ (SqL K H p ys ∨ SqT K H p ys) ∧ Q (.int ys.length) H) := by subst h; exact call_len_seq
theorem call_list_of_K (h : X.K = K) : CallR X (.type "list") (fun xs H Q => ∃ p ys, xs = [.ref p] ∧ (SqL K H p ys ∨ SqT K H p ys) ∧ ∀ l, H l = none → Q (.ref l) (upd H l (.lst ys))) := by subst h; exact call_list_of
theorem call_tuple_of_K (h : X.K = K) : CallR X (.type "tuple") (fun xs H Q => ∃ p ys, xs = [.ref p] ∧ ((SqL K H p ys ∧ ∀ l, H l = none → Q (.ref l) (upd H l (.tup ys))) ∨ (SqT K H p ys ∧ Q (.ref p) H))) := by subst h; exact call_tuple_of
theorem op_in_seq_K (h : X.K = K) : OpR X (compareOp .In) (rIn K false) := by subst h; exact op_in_seq
theorem op_notIn_seq_K (h : X.K = K) : OpR X (compareOp .NotIn) (rIn K true) := by subst h; exact op_notIn_seq
theorem op_eqD_K (h : X.K = K) (hu : X.A.units + 64 < cLine) : OpR X (compareOp .Eq) (rEqD K) := by subst h; exact op_eqD hu
theorem op_neD_K (h : X.K = K) (hu : X.A.units + 64 < cLine) : OpR X (compareOp .NotEq) (rNeD K) := by subst h; exact op_neD hu
theorem call_isi_K (h : X.K = K) : CallR X (.builtin "isinstance") (rIsi K) := by subst h; exact call_isi
end
/-! ### great products -/
theorem big_mul {i j : Int} (hi : i.natAbs < 2 ^ 4000) (hj : j.natAbs < 2 ^ 4000) : CMulX i j := mulx_ok hi hj (by decide)
/-! ### sums of multiples of rows -/
def combN (rs : List (List Int)) (fs : List Int) (w : Nat) : Nat → List Int
  | 0 => List.replicate w 0
  | n + 1 => List.zipWith (fun a b => a + fs.getD n 0 * b) (combN rs fs w n) (rs.getD n [])
theorem combN_len {rs : List (List Int)} {fs : List Int} {w : Nat} (h : ∀ r ∈ rs, r.length = w) : ∀ n, n ≤ rs.length → (combN rs fs w n).length = w
  | 0, _ => List.length_replicate
  | n + 1, hn => by
    rw [combN, List.length_zipWith, combN_len h n (by omega), List.getD_eq_getElem?_getD, List.getElem?_eq_getElem (by omega), Option.getD_some, h _ (List.getElem_mem _)]
    omega
theorem combN_at {rs : List (List Int)} {fs : List Int} {w i c : Nat} (hi : i < rs.length) (hf : i < fs.length) (c1 : c < (combN rs fs w i).length) (c2 : c < rs[i].length) : (combN rs fs w (i + 1))[c]? = some ((combN rs fs w i)[c] + fs[i] * rs[i][c]) := by
  have g1 : fs.getD i 0 = fs[i] := by rw [List.getD_eq_getElem?_getD, List.getElem?_eq_getElem hf]; rfl
  have g2 : rs.getD i [] = rs[i] := by rw [List.getD_eq_getElem?_getD, List.getElem?_eq_getElem hi]; rfl
  rw [combN, List.getElem?_zipWith, g1, g2, List.getElem?_eq_getElem c1, List.getElem?_eq_getElem c2]
end Z
set_option Elab.async false
set_option linter.all false
set_option maxRecDepth 100000
set_option maxHeartbeats 4000000
namespace Z
open PySem PySem.Spec PyProof.Rows L2
open C8 (pss_cut tCut)
local macro_rules | `(tactic| walk_at "num") => `(tactic| first | omega | decide | exact ⟨by omega, by omega⟩ | exact ⟨by omega, by omega, by omega⟩ | exact ⟨by decide, by decide, by decide⟩ | exact Or.inl ⟨by omega, by omega⟩ | exact Or.inr ⟨by omega, by omega⟩)
local macro_rules | `(tactic| walk_at "go") => `(tactic| repeat (first | refine ⟨_, rfl, ?_⟩ | refine ⟨_, _, rfl, rfl, ?_⟩ | refine ⟨_, _, rfl, rfl, (by walk_at "num"), ?_⟩ | refine Or.inl ⟨_, rfl, ?_⟩ | refine ⟨rfl, ?_⟩ | refine And.intro (by walk_at "num") ?_))
def topS (i : Nat) : Stmt := PySem.Challenge.pw_signedpacts_k19_need_round_counts.main.body.getD i (.Pass ⟨0, 0, 0, 0⟩)
abbrev s_cell : Stmt := topS 25
abbrev N_cell : List Str := ["_law_script", "_law_k"]
abbrev P_cell : List Str := ["_law_script", "_law_k"]
theorem sc_cell : FnScope N_cell P_cell (defScope s_cell) := ⟨rfl, rfl, rfl, by decide +kernel, rfl, by decide +kernel, by decide +kernel⟩
abbrev s_draws : Stmt := topS 26
abbrev N_draws : List Str := ["_law_cell_here", "_law_many", "_law_rest", "_law_large", "_law_seed", "_law_found", "_law_k"]
abbrev P_draws : List Str := ["_law_cell_here", "_law_many"]
theorem sc_draws : FnScope N_draws P_draws (defScope s_draws) := ⟨rfl, rfl, rfl, by decide +kernel, rfl, by decide +kernel, by decide +kernel⟩
abbrev s_take : Stmt := topS 27
abbrev N_take : List Str := ["_law_draws_here", "_law_place"]
abbrev P_take : List Str := ["_law_draws_here", "_law_place"]
theorem sc_take : FnScope N_take P_take (defScope s_take) := ⟨rfl, rfl, rfl, by decide +kernel, rfl, by decide +kernel, by decide +kernel⟩
abbrev FnP (K : PySem.W.Frag) (x : Str) (st : Stmt) (f : Addr) (fd : FuncData) : Prop := FunD K x x (defArgs st) (defBody st) (defScope st) [] [] f fd
section
variable {P : Program} {w : World} {K : PySem.W.Frag} {mg : Str → Option Value} {base : Heap} {f : Addr} {fd : FuncData}
theorem cal_of {k : Nat} {x : Str} {st : Stmt} {ps : List Str} {sp : Sp} (F : FnP K x st f fd) (g : mg x = some (.ref f)) (b : Binds K fd ps []) (h : FnOk P w K mg base CX0 k f fd ps sp) : Cal P w K mg base k x sp := ⟨f, fd, ps, h, g, F.kp, b⟩
/-! ### _law_cell -/
def spCell (K : PySem.W.Frag) : Sp := fun vs H Q _ => ∃ (a : Addr) (ns : List Int) (k : Nat), vs = [.ref a, .int (k : Int)] ∧ SqL K H a (ns.map V.int) ∧ Q (.int (ns.getD k 0)) H
theorem ok_cell (F : FnP K "_law_cell" s_cell f fd) (m_len : mg "len" = none) (m_int : mg "int" = none) : FnOk P w K mg base CX0 1 f fd P_cell (spCell K) := by
  refine F.ok sc_cell (fun vs H Q E h => ?_) (fun cdv A outer s H vs Q E hr h => ?_)
  · obtain ⟨a, ns, k, rfl, _⟩ := h
    rfl
  · obtain ⟨a, ns, k, rfl, hS, q⟩ := h
    refine ⟨_, PSs.nox (pss_cons (ps_if (pt_cmpR op_lt (pv 1) (pe_callB call_len_seq (by rfl) m_len PySem.boot_len (pa_cons (pv 0) pa_nil)) (nomark _)) (pss_one (ps_ret (pe_callTy call_int1 (by rfl) m_int (by decide +kernel) (pa_cons (pe_ix ix_list (pv 0) (pv 1) (fun _ _ => rfl)) pa_nil)))) pss_nil)
      (pss_one (ps_ret pe_int))), ?_⟩
    walk_at "go"
    refine ⟨a, _, rfl, .inl hS, ?_⟩
    walk_at "go"
    rw [List.length_map]
    refine ite2 (fun e => ?_) (fun e => ?_)
    · have hk : k < ns.length := by have := of_decide_eq_true e; omega
      walk_at "go"
      refine ⟨a, _, _, _, rfl, rfl, hS, at_map (List.getElem?_eq_getElem hk), ?_⟩
      walk_at "go"
      rw [List.getD_eq_getElem?_getD, List.getElem?_eq_getElem hk] at q
      exact q
    · have hk : ¬ k < ns.length := fun z => e (decide_eq_true (by omega))
      rw [List.getD_eq_getElem?_getD, List.getElem?_eq_none (by omega)] at q
      exact q
/-! ### _law_draws -/
def Dr (n : Nat) (ds : List Int) : Prop := ds.length = n ∧ ∀ d ∈ ds, 0 ≤ d ∧ d < 1000000
def spDraws : Sp := fun vs H Q _ => ∃ (c : Int) (n : Nat), vs = [.int c, .int (n : Int)] ∧ n ≤ 100000 ∧ ∀ p ds, H p = none → Dr n ds → Q (.ref p) (upd H p (.lst (ds.map V.int)))
theorem ok_draws (F : FnP K "_law_draws" s_draws f fd) (m_int : mg "int" = none) (m_abs : mg "abs" = none) (m_range : mg "range" = none) : FnOk P w K mg base CX0 1 f fd P_draws spDraws := by
  refine F.ok sc_draws (fun vs H Q E h => ?_) (fun cdv A outer s H vs Q E hr h => ?_)
  · obtain ⟨c, n, rfl, _⟩ := h
    rfl
  · obtain ⟨c, n, rfl, hn, q⟩ := h
    refine ⟨_, PSs.nox (pss_cons (ps_set (i := 2) sc_draws.nd rfl (by first | exact .inl rfl | exact .inr rfl) (pe_callB call_abs (by rfl) m_abs (by decide +kernel) (pa_cons (pe_callTy call_int1 (by rfl) m_int (by decide +kernel) (pa_cons (pv 0) pa_nil)) pa_nil)))
      (pss_cons (ps_set (i := 3) sc_draws.nd rfl (by first | exact .inl rfl | exact .inr rfl) (pe_cmpR op_ge (pv 2) (pe_op op_pow pe_int pe_int) (nomark _)))
      (pss_cons (ps_set (i := 4) sc_draws.nd rfl (by first | exact .inl rfl | exact .inr rfl) (pe_op op_mod (pe_callTy call_int1 (by rfl) m_int (by decide +kernel) (pa_cons (pv 2) pa_nil)) pe_int))
      (pss_cons (ps_set (i := 5) sc_draws.nd rfl (by first | exact .inl rfl | exact .inr rfl) (pe_lst pa_nil))
      (pss_cons (ps_for PassesOwn.never rfl (pi_range1 (by rfl) m_range (pa_cons (pv 1) pa_nil)) (pg_name (i := 6) sc_draws.nd rfl (by first | exact .inl rfl | exact .inr rfl))
        (pss_cons (ps_set (i := 4) sc_draws.nd rfl (by first | exact .inl rfl | exact .inr rfl) (pe_op op_mod (pe_callTy call_int1 (by rfl) m_int (by decide +kernel) (pa_cons (pe_op op_add (pe_op op_add (pe_op op_mul (pv 4) pe_int) (pe_op op_mul pe_int (pv 6))) pe_int) pa_nil)) pe_int))
      (pss_one (ps_if (PW.pt (pw_and (pt_val (pv 3)) (pw_and1 (pt_cmpR op_gt (pv 2) pe_int (nomark _))))) (pss_cons (ps_expr (pe_bm PySem.F.plainAttrs_list PySem.F.slot_list_append PySem.F.type_list_append mt_append (pv 5) (pa_cons (pe_op op_mod (pe_callTy call_int1 (by rfl) m_int (by decide +kernel) (pa_cons (pv 2) pa_nil)) pe_int) pa_nil)))
      (pss_one (ps_set (i := 2) sc_draws.nd rfl (by first | exact .inl rfl | exact .inr rfl) (pe_op op_fdiv (pv 2) pe_int)))) (pss_one (ps_expr (pe_bm PySem.F.plainAttrs_list PySem.F.slot_list_append PySem.F.type_list_append mt_append (pv 5) (pa_cons (pe_op op_mod (pe_callTy call_int1 (by rfl) m_int (by decide +kernel) (pa_cons (pe_op op_fdiv (pe_op op_mod (pe_callTy call_int1 (by rfl) m_int (by decide +kernel) (pa_cons (pe_op op_add (pe_op op_mul (pv 4) pe_int) (pe_op op_mul pe_int (pv 6))) pa_nil)) pe_int) pe_int) pa_nil)) pe_int) pa_nil))))))))
      (pss_one (ps_ret (pv 5)))))))), ?_⟩
    walk_at "go"
    intro p np
    walk_at "go"
    refine for_gen (n := n) (fun i σ H1 => ∃ (r : Int) (z : Int) (ds : List Int) (v : Option V), 0 ≤ r ∧ 0 ≤ z ∧ z < 2147483647 ∧ Dr i ds ∧ H1 = upd H p (.lst (ds.map V.int)) ∧
      σ = [some (.int c), some (.int (n : Int)), some (.int r), some (.bl (decide ((10 : Int) ^ 18 ≤ (if c < 0 then -c else c)))), some (.int z), some (.ref p), v]) ?_ ?_ ?_ ?_ ?_
    · refine ⟨_, _, [], none, ?_, ?_, ?_, ⟨rfl, fun d hd => nomatch hd⟩, rfl, rfl⟩
      · split <;> omega
      · omega
      · omega
    · intro i σ H1 hi _
      show i < (n : Int).toNat
      omega
    · intro σ H1 _
      show (n : Int).toNat ≤ n
      omega
    · rintro i σ H1 x H' hi ⟨r, z, ds, v, hr0, hz0, hz1, hd, rfl, rfl⟩ ⟨rfl, rfl⟩
      have hlen : (ds.map V.int).length < sizeLine := by
        rw [List.length_map, hd.1]
        exact Nat.lt_of_lt_of_le hi (Nat.le_trans hn (by decide))
      have fin : ∀ (r' z' d : Int) (u : Option V), 0 ≤ r' → 0 ≤ z' → z' < 2147483647 → 0 ≤ d → d < 1000000 → ∃ (r : Int) (z : Int) (es : List Int) (v : Option V), 0 ≤ r ∧ 0 ≤ z ∧ z < 2147483647 ∧ Dr (i + 1) es ∧ upd (upd H p (.lst (ds.map V.int))) p (.lst (ds.map V.int ++ [.int d])) = upd H p (.lst (es.map V.int)) ∧
          [some (.int c), some (.int (n : Int)), some (.int r'), some (.bl (decide ((10 : Int) ^ 18 ≤ (if c < 0 then -c else c)))), some (.int z'), some (.ref p), u] = [some (.int c), some (.int (n : Int)), some (.int r), some (.bl (decide ((10 : Int) ^ 18 ≤ (if c < 0 then -c else c)))), some (.int z), some (.ref p), v] := by
        intro r' z' d u a1 a2 a3 a4 a5
        refine ⟨r', z', ds ++ [d], u, a1, a2, a3, ⟨by rw [List.length_append, hd.1]; rfl, fun x hx => ?_⟩, ?_, rfl⟩
        · rcases List.mem_append.mp hx with h | h
          · exact hd.2 x h
          · rw [List.mem_singleton.mp h]
            exact ⟨a4, a5⟩
        · rw [upd_upd, List.map_append]
          rfl
      walk_at "go"
      refine ite2 (fun e => ?_) (fun e => ?_)
      · walk_at "go"
        refine ite2 (fun e2 => ?_) (fun e2 => ?_)
        · walk_at "go"
          refine ⟨.inl ⟨rfl, _, .inl (.inl upd_same)⟩, ?_⟩
          walk_at "go"
          refine ⟨_, _, _, rfl, rfl, upd_same, hlen, ?_⟩
          walk_at "go"
          exact fin _ _ _ _ (by omega) (by omega) (by omega) (by omega) (by omega)
        · walk_at "go"
          refine ⟨.inl ⟨rfl, _, .inl (.inl upd_same)⟩, ?_⟩
          walk_at "go"
          refine ⟨_, _, _, rfl, rfl, upd_same, hlen, ?_⟩
          walk_at "go"
          exact fin _ _ _ _ (by omega) (by omega) (by omega) (by omega) (by omega)
      · walk_at "go"
        refine ⟨.inl ⟨rfl, _, .inl (.inl upd_same)⟩, ?_⟩
        walk_at "go"
        refine ⟨_, _, _, rfl, rfl, upd_same, hlen, ?_⟩
        walk_at "go"
        exact fin _ _ _ _ (by omega) (by omega) (by omega) (by omega) (by omega)
    · rintro σ H1 ⟨r, z, ds, v, hr0, hz0, hz1, hd, rfl, rfl⟩
      walk_at "go"
      exact q p ds np hd
/-! ### _law_take -/
def spTake (K : PySem.W.Frag) : Sp := fun vs H Q _ => ∃ (a p : Addr) (n m : Nat) (ds : List Int), vs = [.ref a, .ref p] ∧ SqL K H a (ds.map V.int) ∧ Dr n ds ∧ H p = some (.lst [.int (m : Int)]) ∧ a ≠ p ∧ ∀ r : Int, 0 ≤ r → r < 1000000 → Q (.int r) (upd H p (.lst [.int ((m + 1 : Nat) : Int)]))
theorem ok_take (F : FnP K "_law_take" s_take f fd) (m_len : mg "len" = none) : FnOk P w K mg base CX0 1 f fd P_take (spTake K) := by
  refine F.ok sc_take (fun vs H Q E h => ?_) (fun cdv A outer s H vs Q E hr h => ?_)
  · obtain ⟨a, p, n, m, ds, rfl, _⟩ := h
    rfl
  · obtain ⟨a, p, n, m, ds, rfl, hS, hd, hp, ne, q⟩ := h
    refine ⟨_, PSs.nox (pss_cons (ps_asg (pe_op op_add (pe_ix ix_list (pv 1) pe_int (fun _ _ => rfl)) pe_int) (pg_sub (pv 1) pe_int set_list))
      (pss_cons (ps_if (pt_cmpR op_gt (pe_ix ix_list (pv 1) pe_int (fun _ _ => rfl)) (pe_callB call_len_seq (by rfl) m_len PySem.boot_len (pa_cons (pv 0) pa_nil)) (nomark _)) (pss_one (ps_ret pe_int)) pss_nil)
      (pss_one (ps_ret (pe_ix ix_list (pv 0) (pe_op op_sub (pe_ix ix_list (pv 1) pe_int (fun _ _ => rfl)) pe_int) (fun _ _ => rfl)))))), ?_⟩
    have sb : SB p H (upd H p (.lst [.int ((m + 1 : Nat) : Int)])) := SB.upd (Z.Same.sb (Same.refl H))
    have hS' := sb.sq ne hS
    walk_at "go"
    refine ⟨p, _, 0, _, rfl, rfl, SqL.of hp, rfl, ?_⟩
    walk_at "go"
    refine ⟨p, _, 0, 0, rfl, rfl, hp, rfl, ?_⟩
    show tSeq _ _ _ _ (upd H p (.lst [.int ((m : Int) + 1)]))
    rw [show ((m : Int) + 1) = ((m + 1 : Nat) : Int) by omega]
    walk_at "go"
    refine ⟨p, _, 0, _, rfl, rfl, SqL.of upd_same, rfl, ?_⟩
    walk_at "go"
    refine ⟨a, _, rfl, .inl hS', ?_⟩
    walk_at "go"
    rw [List.length_map]
    refine ite2 (fun e => ?_) (fun e => ?_)
    · exact q 0 (by omega) (by omega)
    · have hk : m < ds.length := by
        apply Decidable.byContradiction
        intro z
        exact e (decide_eq_true (by omega))
      walk_at "go"
      refine ⟨p, _, 0, _, rfl, rfl, SqL.of upd_same, rfl, ?_⟩
      walk_at "go"
      refine ⟨a, _, _, _, rfl, rfl, hS', at_of (by omega) (show (ds.map V.int)[m]? = some (.int ds[m]) by rw [List.getElem?_map, List.getElem?_eq_getElem hk]; rfl), ?_⟩
      have h1 := hd.2 ds[m] (List.getElem_mem hk)
      exact q _ h1.1 h1.2
end
end Z
set_option Elab.async false
set_option linter.all false
set_option maxRecDepth 100000
set_option maxHeartbeats 4000000
namespace Z
open PySem PySem.Spec PyProof.Rows L2
/-! ### own classes: making, methods, calls of instances, == -/
structure Mak (P : Program) (w : World) (K : PySem.W.Frag) (mg : Str → Option Value) (base : Heap) (k : Nat) (x : Str) (sp : Sp) : Prop where
  ex : ∃ (C f : Addr) (fd : FuncData) (ps : List Str) (si : Sp), Mk K C f ∧ FnOk P w K mg base CX0 k f fd ps si ∧ mg x = some (.ref C) ∧ Binds K fd ps [] ∧
    ∀ vs H Q E, sp vs H Q E → ∀ n dx, H n = none → H dx = none → dx ≠ n → si (.ref n :: vs) (upd (upd H dx (.own n)) n (.ins C dx [])) (fun v H2 => v = .non ∧ Q (.ref n) H2) E
structure Met (P : Program) (w : World) (K : PySem.W.Frag) (mg : Str → Option Value) (base : Heap) (k : Nat) (C : Addr) (m : Str) (sp : Sp) : Prop where
  ex : ∃ (f : Addr) (fd : FuncData) (ps : List Str), Cls K C ∧ Meth K C m f ∧ FnOk P w K mg base CX0 k f fd ps sp ∧ Binds K fd ps []
section
variable {X : Cx} {k j : Nat} {x m : Str} {sp : Sp} {C : Addr} {p pos apos : Pos} {e o : Expr} {es : List Expr} {t : TA} {ta : TE}
theorem pe_mk (c : Mak X.prog X.w X.K X.mg X.base k x sp) (hr : Room j X.A) (hk : k + 1 ≤ j) (hg : Gl X x) (ha : PA X (e :: es) t)
    (hdb : (x == ("__debug__" : Str)) = false := by decide) (he : starEach (e :: es) X.env = (false, eval e X.env) :: starEach es X.env := by rfl) (hpl : (backTo pos (starEach es X.env)).any (·.1) = false := by rfl) : PE X (.Call (.Name x p) (e :: es) [] pos) (tCall sp [] E0 t) := by
  obtain ⟨C, f, fd, ps, si, M, F, hm, b, imp⟩ := c.ex
  constructor
  intro pins s σ H Q I h
  refine wpAny_Call_Name_kw (ld_glob I hg hm ?_ hdb)
  refine PySem.W.callWith_K (h₀ := X.base) I.ok.mod.kin M.kp (thn (ha.run pos pins s σ H _ I h) fun us s1 ⟨vs, H1, I1, r, q⟩ => ⟨I1.kIn, ?_⟩) he hpl
  have q2 : sp vs H1 Q E0 := by
    have z : sp (vs ++ []) H1 Q E0 := q
    rw [List.append_nil] at z
    exact z
  refine run_make (dvs := []) M F (hr.mono hk) b .nil pass0 I1 r (fun n dx n1 n2 n3 => ?_)
  rw [List.append_nil]
  exact imp _ _ _ _ q2 n dx n1 n2 n3
theorem pe_me {pl : Sem Bool} (c : Met X.prog X.w X.K X.mg X.base k C m sp) (he : PE X o ta) (hr : Room j X.A) (hk : k ≤ j) (ha : PA X (e :: es) t)
    (hst : starEach (e :: es) X.env = (false, eval e X.env) :: starEach es X.env := by rfl) (hpl : (backTo pos (starEach es X.env)).any (·.1) = false := by rfl)
    (ht : eval (.Call (.Attribute o m apos) (e :: es) [] pos) X.env = (do
      let ov ← eval o X.env
      standAt apos.atName
      let (f, first) ← holding [ov] (getMethod ov m pl)
      callWith pos f first (backTo pos (starEach (e :: es) X.env)) (backToKw pos (keywordEach [] X.env))) := by rfl) : PE X (.Call (.Attribute o m apos) (e :: es) [] pos) (tMeth C m sp [] E0 ta t) := by
  obtain ⟨f, fd, ps, cl, me, F, b⟩ := c.ex
  exact pe_meth he cl me F (hr.mono hk) b .nil pass0 ha hst hpl ht
theorem pe_me0 {pl : Sem Bool} (c : Met X.prog X.w X.K X.mg X.base k C m sp) (he : PE X o ta) (hr : Room j X.A) (hk : k ≤ j)
    (ht : eval (.Call (.Attribute o m apos) [] [] pos) X.env = (do
      let ov ← eval o X.env
      standAt apos.atName
      let (f, first) ← holding [ov] (getMethod ov m pl)
      callWith pos f first (backTo pos (starEach [] X.env)) (backToKw pos (keywordEach [] X.env))) := by rfl) : PE X (.Call (.Attribute o m apos) [] [] pos) (tMeth C m sp [] E0 ta tNil) := by
  obtain ⟨f, fd, ps, cl, me, F, b⟩ := c.ex
  exact pe_meth0 he cl me F (hr.mono hk) b .nil pass0 ht
end
/-! ### f(e, ..), f an instance of C -/
structure Cob (P : Program) (w : World) (K : PySem.W.Frag) (mg : Str → Option Value) (base : Heap) (k : Nat) (C : Addr) (sp : Sp) : Prop where
  ex : ∃ g : Addr, StX.CallO K C g ∧ FnR P w K mg base CX0 k g sp
def tCo (C : Addr) (sp : Sp) (tf : TE) (t : TA) : TE := fun σ H Q => tf σ H fun y H1 => ∃ a, y = V.ref a ∧ t σ H1 fun vs H2 => (∃ dx fs, H2 a = some (.ins C dx fs)) ∧ sp (V.ref a :: vs) H2 Q E0
section
variable {X : Cx} {k j : Nat} {sp : Sp} {C : Addr} {pos : Pos} {e fe : Expr} {es : List Expr} {t : TA} {tf : TE}
theorem pe_co (c : Cob X.prog X.w X.K X.mg X.base k C sp) (hf : PE X fe tf) (hr : Room j X.A) (hk : k ≤ j) (ha : PA X (e :: es) t)
    (ht : eval (.Call fe (e :: es) [] pos) X.env = (do callWith pos (← eval fe X.env) [] (backTo pos (starEach (e :: es) X.env)) (backToKw pos (keywordEach [] X.env))) := by rfl)
    (he : starEach (e :: es) X.env = (false, eval e X.env) :: starEach es X.env := by rfl) (hpl : (backTo pos (starEach es X.env)).any (·.1) = false := by rfl) : PE X (.Call fe (e :: es) [] pos) (tCo C sp tf t) := by
  obtain ⟨g, co, F⟩ := c.ex
  constructor
  intro pins s σ H Q I h
  refine Call_ (thn (hf.run pins s σ H _ I h) fun u s1 ⟨y, H1, I1, ry, a, ey, q⟩ => ?_) ht
  subst ey
  obtain rfl : u = Value.ref a := ry
  refine StX.callO_with (thn (ha.run pos pins s1 σ H1 _ I1 q) fun us s2 ⟨vs, H2, I2, r, hi, q2⟩ => ?_) he hpl
  have hi2 : StX.InsC X H2 a C := .inr hi
  obtain ⟨ox, od, J, hd⟩ := StX.insC_at I2 hi2
  exact ⟨⟨C, ox, od, J, hd⟩, StX.run_callO co F (hr.mono hk) pass0 I2 hi2 r q2⟩
end
/-! ### a == b by the class's own __eq__ -/
structure Eqo (P : Program) (w : World) (K : PySem.W.Frag) (mg : Str → Option Value) (base : Heap) (k : Nat) (C : Addr) (sp : Sp) : Prop where
  ex : ∃ (f : Addr) (fd : FuncData) (ps : List Str), FnOk P w K mg base CX0 k f fd ps sp ∧ PySem.W.findIn K (.ref C) "__eq__" = some (some (.ref f)) ∧ PySem.W.isFn K (.ref f) = true ∧ Binds K fd ps []
def rOwn (C : Addr) (sp : Sp) : R2 := fun x y H Q => ∃ a b dx dy fs gs, x = .ref a ∧ y = .ref b ∧ H a = some (.ins C dx fs) ∧ H b = some (.ins C dy gs) ∧ sp [.ref a, .ref b] H (fun v H' => ∃ r, v = .bl r ∧ Q v H') E0
theorem op_own {X : Cx} {k j : Nat} {C : Addr} {sp : Sp} (c : Eqo X.prog X.w X.K X.mg X.base k C sp) (hr : Room j X.A) (hk : k ≤ j) : OpR X (compareOp .Eq) (rOwn C sp) := by
  intro pins s σ H x y v u Q I rx ry hq
  obtain ⟨f, fd, ps, F, hs, hf, hb⟩ := c.ex
  obtain ⟨a, b, dx, dy, fs, gs, rfl, rfl, ha, hb', q⟩ := hq
  cases rx
  cases ry
  obtain ⟨mA, J, _⟩ := ins_get I.hok ha
  obtain ⟨mB, J', _⟩ := ins_get I.hok hb'
  obtain ⟨od, J, _⟩ := J.look
  obtain ⟨od', J', _⟩ := J'.look
  obtain ⟨m, hF⟩ := I.fr
  show wpAny (model X.prog X.w) X.A (richCompare .Eq (Value.ref a) (Value.ref b)) (EP X pins σ Q) X.xe s
  refine PySem.W.cmp_K (op := .Eq) (tb := .ref C) (hr.mono hk).units0 hF I.ok.mod.kin J J'.type (by simp [PySem.W.notFirst]) hs hf ?_
  have r2 : Vals [V.ref a, V.ref b] [Value.ref a, Value.ref b] := .cons rfl (.cons rfl .nil)
  refine thn (run_fn (dvs := []) F (hr.mono hk) hb .nil pass0 I r2 q) fun r s' z => ?_
  obtain ⟨v, H', I', rv, b', rfl, q'⟩ := z
  cases rv
  exact ⟨.bl b', H', I', rfl, q'⟩
end Z
set_option Elab.async false
set_option linter.all false
namespace Nd
/-! ### needs: the mathematics -/
abbrev Rs := List (Int × Option Int)
def rise (k : Int) (p : Int × Option Int) : Int := if k ≤ p.1 then 0 else match p.2 with
  | none => k - p.1
  | some h => if k < h then k - p.1 else h - p.1
def Fs (rs : Rs) (k : Int) : Int := (rs.map (rise k)).sum
/-- the pairs lie behind the edge e, one behind another with gaps, none but the last is open -/
def Good : Int → Rs → Prop
  | _, [] => True
  | e, (l, none) :: r => e < l ∧ r = []
  | e, (l, some h) :: r => e < l ∧ l < h ∧ Good h r
theorem Good.weak {e e' : Int} (h : e' ≤ e) : ∀ {rs : Rs}, Good e rs → Good e' rs
  | [], _ => trivial
  | (l, none) :: r, g => ⟨by have := g.1; omega, g.2⟩
  | (l, some x) :: r, g => ⟨by have := g.1; omega, g.2⟩
theorem Fs_nil (k : Int) : Fs [] k = 0 := rfl
theorem Fs_cons (p : Int × Option Int) (rs : Rs) (k : Int) : Fs (p :: rs) k = rise k p + Fs rs k := by
  unfold Fs
  rw [List.map_cons, List.sum_cons]
theorem Fs_append (a b : Rs) (k : Int) : Fs (a ++ b) k = Fs a k + Fs b k := by
  unfold Fs
  rw [List.map_append, List.sum_append]
theorem rise_zero {k : Int} {p : Int × Option Int} (h : k ≤ p.1) : rise k p = 0 := if_pos h
theorem rise_none {k l : Int} (h : l < k) : rise k (l, none) = k - l := if_neg (by omega : ¬ k ≤ l)
theorem rise_some {k l x : Int} (h : l < k) : rise k (l, some x) = if k < x then k - l else x - l := if_neg (by omega : ¬ k ≤ l)
theorem Fs_zero {k : Int} : ∀ {e : Int} {rs : Rs}, Good e rs → k ≤ e → Fs rs k = 0
  | _, [], _, _ => rfl
  | e, (l, none) :: r, g, h => by
    have g1 := g.1
    rw [Fs_cons, rise_zero (show k ≤ l by omega), g.2]
    rfl
  | e, (l, some x) :: r, g, h => by
    have g1 := g.1
    have g2 := g.2.1
    rw [Fs_cons, rise_zero (show k ≤ l by omega), Fs_zero g.2.2 (by omega)]
    rfl
theorem Good.drop : ∀ {e : Int} {rs : Rs} (i : Nat), Good e rs → ∃ e', Good e' (rs.drop i)
  | e, rs, 0, g => ⟨e, g⟩
  | e, [], i + 1, _ => ⟨e, trivial⟩
  | e, (l, none) :: r, i + 1, g => by
    rw [g.2]
    exact ⟨e, by simp [Good]⟩
  | e, (l, some x) :: r, i + 1, g => Good.drop i g.2.2
/-- behind a low edge that k does not pass nothing is added -/
theorem Fs_stop {rs : Rs} {e k : Int} (g : Good e rs) {i : Nat} {l : Int} {h : Option Int} (hi : rs[i]? = some (l, h)) (hk : k ≤ l) : Fs rs k = Fs (rs.take i) k := by
  obtain ⟨e', g'⟩ := g.drop i
  have hd : rs.drop i = (l, h) :: rs.drop (i + 1) := by
    obtain ⟨hlt, e1⟩ := List.getElem?_eq_some_iff.mp hi
    rw [List.drop_eq_getElem_cons hlt, e1]
  have e2 : Fs (rs.drop i) k = 0 := by
    rw [hd] at g' ⊢
    rw [Fs_cons, rise_zero hk]
    cases h with
    | none => rw [g'.2]; rfl
    | some x =>
      rw [Fs_zero g'.2.2 (by have := g'.2.1; omega)]
      rfl
  have e3 : Fs rs k = Fs (rs.take i ++ rs.drop i) k := by rw [List.take_append_drop]
  rw [e3, Fs_append, e2]
  omega
theorem Fs_take {rs : Rs} {k : Int} {i : Nat} {p : Int × Option Int} (hi : rs[i]? = some p) : Fs (rs.take (i + 1)) k = Fs (rs.take i) k + rise k p := by
  rw [List.take_add_one, hi, Fs_append]
  show _ = _
  rw [show (some p).toList = [p] from rfl, Fs_cons, Fs_nil]
  omega
theorem rise_bounds {x y l : Int} {h : Option Int} (hl : ∀ v, h = some v → l < v) (hxy : x ≤ y) : 0 ≤ rise y (l, h) - rise x (l, h) ∧ 0 ≤ rise x (l, h) := by
  unfold rise
  dsimp only
  cases h with
  | none => dsimp only; constructor <;> (repeat' split) <;> omega
  | some v =>
    have := hl v rfl
    dsimp only
    constructor <;> (repeat' split) <;> omega
/-- the sum does not fall, and it grows by at most one for one -/
theorem Fs_slope {x y : Int} (hxy : x ≤ y) : ∀ {e : Int} {rs : Rs}, Good e rs → 0 ≤ Fs rs x ∧ Fs rs x ≤ Fs rs y ∧ (Fs rs y - Fs rs x ≤ y - x) ∧ (e ≤ y → Fs rs y ≤ y - e)
  | e, [], _ => ⟨by rw [Fs_nil]; omega, by rw [Fs_nil, Fs_nil]; omega, by rw [Fs_nil, Fs_nil]; omega, fun _ => by rw [Fs_nil]; omega⟩
  | e, (l, none) :: r, g => by
    have g1 := g.1
    rw [g.2, Fs_cons, Fs_cons, Fs_nil, Fs_nil]
    unfold rise
    dsimp only
    refine ⟨?_, ?_, ?_, fun _ => ?_⟩ <;> (repeat' split) <;> omega
  | e, (l, some h) :: r, g => by
    have g1 := g.1
    have g2 := g.2.1
    obtain ⟨i1, i2, i3, i4⟩ := Fs_slope hxy g.2.2
    rw [Fs_cons, Fs_cons]
    have z1 : x ≤ h → Fs r x = 0 := fun q => Fs_zero g.2.2 q
    have z2 : y ≤ h → Fs r y = 0 := fun q => Fs_zero g.2.2 q
    by_cases hy : y ≤ h
    · have a1 := z2 hy
      have a2 := z1 (by omega)
      rw [a1, a2]
      unfold rise
      dsimp only
      refine ⟨?_, ?_, ?_, fun _ => ?_⟩ <;> (repeat' split) <;> omega
    · have a4 := i4 (by omega)
      by_cases hx : x ≤ h
      · have a2 := z1 hx
        rw [a2]
        unfold rise
        dsimp only
        refine ⟨?_, ?_, ?_, fun _ => ?_⟩ <;> (repeat' split) <;> omega
      · unfold rise
        dsimp only
        refine ⟨?_, ?_, ?_, fun _ => ?_⟩ <;> (repeat' split) <;> omega
/-- flat_point as it goes -/
def fp : Rs → Int → Int → Option Int
  | [], left, edge => some (edge + left)
  | (l, h) :: r, left, edge => if left ≤ l - edge then some (edge + left) else match h with
    | none => none
    | some x => fp r (left - (l - edge)) x
theorem fp_spec : ∀ {rs : Rs} {A E : Int}, Good (E - 1) rs → 0 ≤ A → match fp rs A E with
    | some x => E ≤ x ∧ ∀ y, E ≤ y → (A ≤ (y - E) - Fs rs y ↔ x ≤ y)
    | none => ∀ y, E ≤ y → (y - E) - Fs rs y < A
  | [], A, E, _, hA => ⟨by omega, fun y hy => by rw [Fs_nil]; constructor <;> intro h <;> omega⟩
  | (l, h) :: r, A, E, g, hA => by
    unfold fp
    by_cases c : A ≤ l - E
    · rw [if_pos c]
      refine ⟨by omega, fun y hy => ?_⟩
      by_cases yl : y ≤ l
      · have z : Fs ((l, h) :: r) y = 0 := Fs_stop g (i := 0) rfl yl
        rw [z]
        constructor <;> intro <;> omega
      · have z : Fs ((l, h) :: r) l = 0 := Fs_stop g (i := 0) rfl (Int.le_refl l)
        have s := (Fs_slope (x := l) (y := y) (by omega) g).2.2.1
        rw [z] at s
        constructor <;> intro <;> omega
    · rw [if_neg c]
      cases h with
      | none =>
        have g2 := g.2
        subst g2
        intro y hy
        rw [Fs_cons, Fs_nil]
        by_cases yl : y ≤ l
        · rw [rise_zero yl]; omega
        · rw [rise_none (by omega)]; omega
      | some x =>
        have g1 := g.1
        have g2 := g.2.1
        have ih := fp_spec (rs := r) (A := A - (l - E)) (E := x) (g.2.2.weak (by omega)) (by omega)
        dsimp only
        have low : ∀ y, E ≤ y → y < x → (y - E) - Fs ((l, some x) :: r) y < A := fun y hy hx => by
          rw [Fs_cons, Fs_zero g.2.2 (by omega)]
          by_cases yl : y ≤ l
          · rw [rise_zero yl]; omega
          · rw [rise_some (by omega), if_pos hx]; omega
        have high : ∀ y, x ≤ y → (y - E) - Fs ((l, some x) :: r) y = (y - x) - Fs r y + (l - E) := fun y hx => by
          rw [Fs_cons, rise_some (by omega), if_neg (by omega)]
          omega
        cases e : fp r (A - (l - E)) x with
        | some q =>
          rw [e] at ih
          refine ⟨by have := ih.1; omega, fun y hy => ?_⟩
          by_cases hx : y < x
          · have a := low y hy hx
            have b := ih.1
            constructor <;> intro <;> omega
          · have a := high y (by omega)
            have b := ih.2 y (by omega)
            rw [a]
            constructor
            · intro h1
              exact b.mp (by omega)
            · intro h1
              have := b.mpr h1
              omega
        | none =>
          rw [e] at ih
          intro y hy
          by_cases hx : y < x
          · exact low y hy hx
          · have a := high y (by omega)
            have b := ih y (by omega)
            omega
end Nd
set_option Elab.async false
set_option linter.all false
namespace Nd
def top : Int → Rs → Option Int
  | t, [] => some t
  | _, (_, none) :: _ => none
  | t, (l, some h) :: r => top (t + h - l) r
def bnd : Int → Rs → Int
  | t, [] => t
  | t, (l, none) :: _ => if l > t then l else t
  | t, (l, some h) :: r => bnd (t + h - l) r
/-- the last pair is open, from l on -/
def opn : Rs → Option Int
  | [] => none
  | [(l, none)] => some l
  | [(_, some _)] => none
  | _ :: q :: r => opn (q :: r)
theorem ends_spec : ∀ {rs : Rs} {e t : Int}, Good e rs → match opn rs with
    | some l => e < l ∧ bnd t rs = (if l > t + Fs rs l then l else t + Fs rs l) ∧ (∀ y, l ≤ y → Fs rs y = Fs rs l + (y - l)) ∧ top t rs = none
    | none => (∀ y, t + Fs rs y ≤ bnd t rs) ∧ top t rs = some (bnd t rs)
  | [], e, t, _ => ⟨fun y => by rw [Fs_nil]; show t + 0 ≤ t; omega, rfl⟩
  | [(l, none)], e, t, g => by
    have z : Fs [(l, none)] l = 0 := by rw [Fs_cons, rise_zero (Int.le_refl l), Fs_nil]; rfl
    refine ⟨g.1, ?_, fun y hy => ?_, rfl⟩
    · rw [z]; show (if l > t then l else t) = _; rw [Int.add_zero]
    · rw [z, Fs_cons, Fs_nil]
      by_cases h : y ≤ l
      · rw [rise_zero h]; omega
      · rw [rise_none (by omega)]; omega
  | [(l, some h)], e, t, g => by
    have g2 := g.2.1
    refine ⟨fun y => ?_, rfl⟩
    rw [Fs_cons, Fs_nil]
    show t + (rise y (l, some h) + 0) ≤ t + h - l
    unfold rise
    dsimp only
    (repeat' split) <;> omega
  | (l, none) :: q :: r, e, t, g => by
    have := g.2
    cases this
  | (l, some h) :: q :: r, e, t, g => by
    have g2 := g.2.1
    have ih := ends_spec (rs := q :: r) (e := h) (t := t + h - l) g.2.2
    show match opn (q :: r) with
      | some l' => _
      | none => _
    cases c : opn (q :: r) with
    | some l' =>
      rw [c] at ih
      obtain ⟨i1, i2, i3, i4⟩ := ih
      have e1 : ∀ y, h ≤ y → Fs ((l, some h) :: q :: r) y = (h - l) + Fs (q :: r) y := fun y hy => by
        rw [Fs_cons, rise_some (by omega), if_neg (by omega)]
      have g1 := g.1
      refine ⟨by omega, ?_, fun y hy => ?_, i4⟩
      · show bnd (t + h - l) (q :: r) = _
        rw [i2, e1 l' (by omega)]
        rw [show t + h - l + Fs (q :: r) l' = t + (h - l + Fs (q :: r) l') by omega]
      · rw [e1 y (by omega), e1 l' (by omega), i3 y hy]
        omega
    | none =>
      rw [c] at ih
      refine ⟨fun y => ?_, ih.2⟩
      have := ih.1 y
      rw [Fs_cons]
      show t + (rise y (l, some h) + Fs (q :: r) y) ≤ bnd (t + h - l) (q :: r)
      have b : rise y (l, some h) ≤ h - l := by
        unfold rise
        dsimp only
        (repeat' split) <;> omega
      omega
def val (st : Option Int) (rs : Rs) (nv : Option Int) (k : Option Int) : Option Int := match st, k with
  | some s, some k => some (s + Fs rs k)
  | _, _ => nv
/-- the greatest x with f(x) ≥ x; the least with f(x) ≤ x -/
def grt (s : Int) (rs : Rs) : Option Int := (fp rs (s + 1) 0).map (· - 1)
def lst (s : Int) (rs : Rs) : Option Int := fp rs s 0
theorem lst_spec {s : Int} {rs : Rs} (g : Good (-1) rs) (hs : 0 ≤ s) : match lst s rs with
    | some x => 0 ≤ x ∧ ∀ y, 0 ≤ y → (s + Fs rs y ≤ y ↔ x ≤ y)
    | none => ∀ y, 0 ≤ y → y < s + Fs rs y := by
  have h := fp_spec (rs := rs) (A := s) (E := 0) g hs
  unfold lst
  cases e : fp rs s 0 with
  | some x =>
    rw [e] at h
    refine ⟨h.1, fun y hy => ?_⟩
    have := h.2 y hy
    constructor
    · intro z
      exact this.mp (by omega)
    · intro z
      have := this.mpr z
      omega
  | none =>
    rw [e] at h
    intro y hy
    have := h y hy
    omega
theorem grt_spec {s : Int} {rs : Rs} (g : Good (-1) rs) (hs : 0 ≤ s) : match grt s rs with
    | some x => 0 ≤ x ∧ ∀ y, 0 ≤ y → (y ≤ s + Fs rs y ↔ y ≤ x)
    | none => ∀ y, 0 ≤ y → y ≤ s + Fs rs y := by
  have h := fp_spec (rs := rs) (A := s + 1) (E := 0) g (by omega)
  unfold grt
  cases e : fp rs (s + 1) 0 with
  | some x =>
    rw [e] at h
    have pos := h.2 0 (by omega)
    have z0 := (Fs_slope (x := 0) (y := 0) (by omega) g).1
    have x1 : ¬ x ≤ 0 := fun z => by
      have := pos.mpr z
      omega
    show 0 ≤ x - 1 ∧ ∀ y, 0 ≤ y → (y ≤ s + Fs rs y ↔ y ≤ x - 1)
    refine ⟨by omega, fun y hy => ?_⟩
    have := h.2 y hy
    constructor
    · intro z
      apply Decidable.byContradiction
      intro q
      have := this.mpr (by omega)
      omega
    · intro z
      apply Decidable.byContradiction
      intro q
      have := this.mp (by omega)
      omega
  | none =>
    rw [e] at h
    intro y hy
    have := h y hy
    omega
theorem grt_none {s l : Int} {rs : Rs} (g : Good (-1) rs) (hs : 0 ≤ s) (ho : opn rs = some l) (hl : l ≤ s + Fs rs l) : grt s rs = none := by
  have h := grt_spec g hs
  have e := ends_spec (t := s) g
  rw [ho] at e
  cases c : grt s rs with
  | none => rfl
  | some x =>
    rw [c] at h
    exfalso
    have h1 := h.2 (max l (x + 1)) (by omega)
    have h2 := e.2.2.1 (max l (x + 1)) (by omega)
    have h3 := h1.mp (by omega)
    omega
theorem lst_none {s l : Int} {rs : Rs} (g : Good (-1) rs) (hs : 0 ≤ s) (ho : opn rs = some l) (hl : l < s + Fs rs l) : lst s rs = none := by
  have h := lst_spec g hs
  have e := ends_spec (t := s) g
  rw [ho] at e
  cases c : lst s rs with
  | none => rfl
  | some x =>
    rw [c] at h
    exfalso
    have h1 := h.2 (max l x) (by omega)
    have h2 := e.2.2.1 (max l x) (by omega)
    have h3 := h1.mpr (by omega)
    omega
/-- where the search for the greatest one begins -/
theorem grt_top {s : Int} {rs : Rs} (g : Good (-1) rs) (hs : 0 ≤ s) (hn : ∀ l, opn rs = some l → ¬ l ≤ s + Fs rs l) : s + Fs rs (bnd s rs + 1) < bnd s rs + 1 ∧ 0 ≤ bnd s rs := by
  have e := ends_spec (t := s) g
  have z0 := (Fs_slope (x := 0) (y := 0) (by omega) g).1
  cases c : opn rs with
  | some l =>
    rw [c] at e
    have h1 := hn l c
    obtain ⟨e1, e2, e3, e4⟩ := e
    rw [if_pos (by omega)] at e2
    rw [e2, e3 (l + 1) (by omega)]
    omega
  | none =>
    rw [c] at e
    have h1 := e.1 (bnd s rs + 1)
    have h2 := e.1 0
    omega
theorem lst_top {s : Int} {rs : Rs} (g : Good (-1) rs) (hs : 0 ≤ s) (hn : ∀ l, opn rs = some l → ¬ l < s + Fs rs l) : s + Fs rs (bnd s rs) ≤ bnd s rs ∧ 0 ≤ bnd s rs := by
  have e := ends_spec (t := s) g
  have z0 := (Fs_slope (x := 0) (y := 0) (by omega) g).1
  cases c : opn rs with
  | some l =>
    rw [c] at e
    have h1 := hn l c
    obtain ⟨e1, e2, e3, e4⟩ := e
    by_cases q : l > s + Fs rs l
    · rw [if_pos q] at e2
      rw [e2]
      omega
    · rw [if_neg q] at e2
      have q2 : s + Fs rs l = l := by omega
      rw [e2, q2]
      omega
  | none =>
    rw [c] at e
    have h1 := e.1 (bnd s rs)
    have h2 := e.1 0
    omega
theorem grt_is {s x : Int} {rs : Rs} (g : Good (-1) rs) (hs : 0 ≤ s) (h0 : 0 ≤ x) (h1 : x ≤ s + Fs rs x) (h2 : s + Fs rs (x + 1) < x + 1) : grt s rs = some x := by
  have h := grt_spec g hs
  cases c : grt s rs with
  | none =>
    rw [c] at h
    have := h (x + 1) (by omega)
    omega
  | some y =>
    rw [c] at h
    have a := (h.2 x h0).mp h1
    have b : ¬ x + 1 ≤ y := fun z => by
      have := (h.2 (x + 1) (by omega)).mpr z
      omega
    rw [show y = x by omega]
theorem lst_is {s x : Int} {rs : Rs} (g : Good (-1) rs) (hs : 0 ≤ s) (h0 : 0 ≤ x) (h1 : s + Fs rs x ≤ x) (h2 : x = 0 ∨ x - 1 < s + Fs rs (x - 1)) : lst s rs = some x := by
  have h := lst_spec g hs
  cases c : lst s rs with
  | none =>
    rw [c] at h
    have := h x h0
    omega
  | some y =>
    rw [c] at h
    have a := (h.2 x h0).mp h1
    have b := h.1
    rcases h2 with z | z
    · rw [show y = x by omega]
    · by_cases hx : x = 0
      · rw [show y = x by omega]
      · have d : ¬ y ≤ x - 1 := fun q => by
          have := (h.2 (x - 1) (by omega)).mpr q
          omega
        rw [show y = x by omega]
end Nd
set_option Elab.async false
set_option linter.all false
set_option maxRecDepth 100000
set_option maxHeartbeats 4000000
namespace Z
open PySem PySem.Spec PyProof.Rows L2 Nd
/-! ### None or a number; pairs; lists of pairs -/
def oV : Option Int → V
  | none => .non
  | some i => .int i
theorem oV_non {o : Option Int} : decide (oV o = V.non) = o.isNone := by cases o <;> rfl
def Ris (b c : Bool) (K : PySem.W.Frag) (H : Hp) (a : Addr) (ps : List Addr) (rs : Rs) : Prop := SqK b K H a (ps.map V.ref) ∧ ps.length = rs.length ∧ ∀ (i : Nat) (p : Addr) (q : Int × Option Int), ps[i]? = some p → rs[i]? = some q → SqK c K H p [.int q.1, oV q.2]
theorem Ris.mono {b c : Bool} {K : PySem.W.Frag} {H H' : Hp} {a : Addr} {ps : List Addr} {rs : Rs} (s : Same H H') (r : Ris b c K H a ps rs) : Ris b c K H' a ps rs := ⟨Z.Same.sqK s r.1, r.2.1, fun i p q h1 h2 => Z.Same.sqK s (r.2.2 i p q h1 h2)⟩
theorem _root_.Z.SqK.or {b : Bool} {K : PySem.W.Frag} {H : Hp} {a : Addr} {xs : List V} (h : SqK b K H a xs) : SqL K H a xs ∨ SqT K H a xs := by
  cases b
  · exact .inr h
  · exact .inl h
/-! ### what is walked: a list or a tuple -/
inductive Eor (A B : Prop) : Prop
  | l : A → Eor A B
  | r : B → Eor A B
def iOr (a b : TI) : TI := fun σ H R => Eor (a σ H R) (b σ H R)
theorem pi_or {X : Cx} {tg e : Expr} {a b : TI} (h1 : PI X tg e a) (h2 : PI X tg e b) : PI X tg e (iOr a b) := by
  constructor
  intro pins s σ H R I h
  rcases h with h | h
  · exact h1.run pins s σ H R I h
  · exact h2.run pins s σ H R I h
theorem pi_seq {X : Cx} {tg l : Expr} {tl : TE} (h : PE X l tl) : PI X tg l (iOr (iList X.K tl) (iTup X.K tl)) := pi_or (pi_list h) (pi_tup h)
def ItS (b : Bool) (K : PySem.W.Frag) (a : Addr) : It := match b with
  | true => Itl K a
  | false => Itt K a
theorem its_go {b : Bool} {K : PySem.W.Frag} {H : Hp} {a : Addr} {xs : List V} {i : Nat} {x : V} (h : SqK b K H a xs) (e : xs[i]? = some x) : (ItS b K a).go i H := by
  cases b
  · exact ⟨_, _, h, e⟩
  · exact ⟨_, _, h, e⟩
theorem its_stop {b : Bool} {K : PySem.W.Frag} {H : Hp} {a : Addr} {xs : List V} {i : Nat} (h : SqK b K H a xs) (e : xs.length ≤ i) : (ItS b K a).stop i H := by
  cases b
  · exact ⟨_, h, e⟩
  · exact ⟨_, h, e⟩
theorem its_yld {b : Bool} {K : PySem.W.Frag} {H H' : Hp} {a : Addr} {xs : List V} {i : Nat} {x : V} (h : SqK b K H a xs) (y : (ItS b K a).yld i H x H') : H' = H ∧ xs[i]? = some x := by
  cases b
  · exact ⟨y.1, y.2 _ h⟩
  · exact ⟨y.1, y.2 _ h⟩
theorem iSeq_of {b : Bool} {K : PySem.W.Frag} {σ : L2.St} {H : Hp} {tl : TE} {R : It → Hp → Prop} {a : Addr} {xs : List V} (h : ∀ Q : VK, Q (.ref a) H → tl σ H Q) (hs : SqK b K H a xs) (q : R (ItS b K a) H) : iOr (iList K tl) (iTup K tl) σ H R := by
  cases b
  · exact .r (h _ ⟨a, rfl, ⟨_, hs⟩, q⟩)
  · exact .l (h _ ⟨a, rfl, ⟨_, hs⟩, q⟩)
abbrev gPair (K : PySem.W.Frag) (i j : Nat) : TG := gOr (gUnl K 2 (gCons (gName i) (gCons (gName j) gNil))) (gTup K 2 (gCons (gName i) (gCons (gName j) gNil)))
theorem gpair_of {c : Bool} {K : PySem.W.Frag} {i j : Nat} {p : Addr} {x y : V} {σ : L2.St} {H : Hp} {Q : L2.St → Hp → Prop} (h : SqK c K H p [x, y]) (q : Q ((σ.set i (some x)).set j (some y)) H) : gPair K i j (.ref p) σ H Q := by
  cases c
  · exact .inr ⟨p, _, rfl, h, rfl, x, [y], rfl, y, [], rfl, rfl, q⟩
  · exact .inl ⟨p, _, rfl, h, rfl, x, [y], rfl, y, [], rfl, rfl, q⟩
/-- for low, high in rises, the list standing still -/
theorem for_pairs {b c : Bool} {K : PySem.W.Frag} {a : Addr} {ps : List Addr} {rs : Rs} {H0 : Hp} {i1 i2 j : Nat} {tb : TS} {D : Ends} {σ : L2.St} {H : Hp} (hR : Ris b c K H0 a ps rs) (s0 : Same H0 H) (hj : σ[j]? = some (some (.ref a))) (Pv : Nat → L2.St → Hp → Prop) (h0 : Pv 0 σ H) (hq : ∀ i σ H1, Pv i σ H1 → Same H0 H1)
    (hs : ∀ (i : Nat) (l : Int) (h : Option Int) (σ : L2.St) (H1 : Hp), rs[i]? = some (l, h) → Pv i σ H1 → tb { D with nx := Pv (i + 1), ct := Pv (i + 1), bk := D.nx } ((σ.set i1 (some (.int l))).set i2 (some (oV h))) H1)
    (hd : ∀ σ H1, Pv rs.length σ H1 → D.nx σ H1) : tFor (iOr (iList K (tVar j)) (iTup K (tVar j))) (gPair K i1 i2) tb D σ H := by
  refine iSeq_of (b := b) (fun Q q => ⟨_, hj, q⟩) (Z.Same.sqK s0 hR.1) ?_
  refine for_gen (n := rs.length) Pv h0 ?_ ?_ ?_ hd
  · intro i σ1 H1 hi p
    have hi2 : i < ps.length := by rw [hR.2.1]; exact hi
    exact its_go (x := .ref ps[i]) (Z.Same.sqK (hq i σ1 H1 p) hR.1) (by rw [List.getElem?_map, List.getElem?_eq_getElem hi2]; rfl)
  · intro σ1 H1 p
    exact its_stop (Z.Same.sqK (hq _ σ1 H1 p) hR.1) (by rw [List.length_map, hR.2.1]; exact Nat.le_refl _)
  · intro i σ1 H1 x H' hi p y
    have s1 := hq i σ1 H1 p
    obtain ⟨rfl, ex⟩ := its_yld (Z.Same.sqK s1 hR.1) y
    obtain ⟨q, eq, rfl⟩ := of_map ex
    have er : rs[i]? = some (rs[i].1, rs[i].2) := List.getElem?_eq_getElem hi
    exact gpair_of (Z.Same.sqK s1 (hR.2.2 i q _ eq er)) (hs i _ _ σ1 H' er p)
abbrev FnM (K : PySem.W.Frag) (x q : Str) (st : Stmt) (f : Addr) (fd : FuncData) : Prop := FunD K x q (defArgs st) (defBody st) (defScope st) [] [] f fd
theorem fnr_of {P : Program} {w : World} {K : PySem.W.Frag} {mg : Str → Option Value} {base : Heap} {k : Nat} {f : Addr} {fd : FuncData} {ps : List Str} {sp : Sp} (F : FnOk P w K mg base CX0 k f fd ps sp) (b : Binds K fd ps []) : FnR P w K mg base CX0 k f sp := (FnOk.raw (dvs := []) F b .nil).imp fun vs H Q E h => by
  show sp (vs ++ []) H Q E
  rw [List.append_nil]
  exact h
theorem relv_ref {a : Addr} : L2.RelV (.ref a) (.ref a) := rfl
/-- an if that only guards -/
theorem cut_stay {t u : TS} {D : Ends} {σ : L2.St} {H : Hp} (h : t { D with nx := fun σ' H' => σ' = σ ∧ H' = H } σ H) (h2 : u D σ H) : C8.tCut t u D σ H := ⟨_, h, fun σ' H' z => by
  obtain ⟨rfl, rfl⟩ := z
  exact h2⟩
/-- the fields of a need -/
def NeedAt (C : Addr) (K : PySem.W.Frag) (H : Hp) (n : Addr) (st : Option Int) (rs : Rs) (nv : Option Int) : Prop := ∃ dx r ps, H n = some (.ins C dx [("start", oV st), ("rises", .ref r), ("never", oV nv)]) ∧ Ris false false K H r ps rs ∧ H r = some (.tup (ps.map V.ref))
theorem NeedAt.mono {C : Addr} {K : PySem.W.Frag} {H H' : Hp} {n : Addr} {st nv : Option Int} {rs : Rs} (s : Same H H') (h : NeedAt C K H n st rs nv) : NeedAt C K H' n st rs nv := by
  obtain ⟨dx, r, ps, e, h2, h3⟩ := h
  exact ⟨dx, r, ps, s _ _ e, h2.mono s, s _ _ h3⟩
/-- for pair in rises, a tuple standing still -/
theorem for_prs {c : Bool} {K : PySem.W.Frag} {a : Addr} {ps : List Addr} {rs : Rs} {H0 : Hp} {i1 : Nat} {tb : TS} {D : Ends} {σ : L2.St} {H : Hp} (hR : Ris false c K H0 a ps rs) (Pv : Nat → L2.St → Hp → Prop) (h0 : Pv 0 σ H) (hq : ∀ i σ H1, Pv i σ H1 → Same H0 H1)
    (hs : ∀ (i : Nat) (p : Addr) (l : Int) (h : Option Int) (σ : L2.St) (H1 : Hp), rs[i]? = some (l, h) → SqK c K H1 p [.int l, oV h] → Pv i σ H1 → tb { D with nx := Pv (i + 1), ct := Pv (i + 1), bk := D.nx } (σ.set i1 (some (.ref p))) H1)
    (hd : ∀ σ H1, Pv rs.length σ H1 → D.nx σ H1) : forW (Itt K a) (gName i1) tb D σ H := by
  refine for_gen (n := rs.length) Pv h0 ?_ ?_ ?_ hd
  · intro i σ1 H1 hi p
    have hi2 : i < ps.length := by rw [hR.2.1]; exact hi
    exact its_go (b := false) (x := .ref ps[i]) (Z.Same.sqK (hq i σ1 H1 p) hR.1) (by rw [List.getElem?_map, List.getElem?_eq_getElem hi2]; rfl)
  · intro σ1 H1 p
    exact its_stop (b := false) (Z.Same.sqK (hq _ σ1 H1 p) hR.1) (by rw [List.length_map, hR.2.1]; exact Nat.le_refl _)
  · intro i σ1 H1 x H' hi p y
    have s1 := hq i σ1 H1 p
    obtain ⟨rfl, ex⟩ := its_yld (b := false) (Z.Same.sqK s1 hR.1) y
    obtain ⟨q, eq, rfl⟩ := of_map ex
    have er : rs[i]? = some (rs[i].1, rs[i].2) := List.getElem?_eq_getElem hi
    exact hs i q _ _ σ1 H' er (Z.Same.sqK s1 (hR.2.2 i q _ eq er)) p
end Z
set_option Elab.async false
set_option linter.all false
namespace Nd
/-! ### the edges of a need's value and jumps along its orbits -/
def inL (p : Int × Option Int) (k : Int) : Bool := decide (p.1 < k) && (match p.2 with | none => true | some h => decide (k ≤ h))
def inH (p : Int × Option Int) (k : Int) : Bool := decide (p.1 ≤ k) && (match p.2 with | none => true | some h => decide (k < h))
def lowE : Rs → Int → Int
  | [], k => k
  | p :: r, k => if inL p k then p.1 else lowE r k
def hiE : Rs → Int → Option Int
  | [], k => some k
  | p :: r, k => if inH p k then p.2 else hiE r k
theorem hiE_out {v : Int} : ∀ {rs : Rs} {e : Int}, Good e rs → v ≤ e → hiE rs v = some v
  | [], _, _, _ => rfl
  | (l, none) :: r, e, g, h => by
    have := g.1
    rw [hiE, if_neg (by unfold inH; simp; omega), g.2]
    rfl
  | (l, some x) :: r, e, g, h => by
    obtain ⟨g1, g2, g3⟩ := g
    rw [hiE, if_neg (by unfold inH; simp; omega)]
    exact hiE_out g3 (by omega)
theorem lowE_out {v : Int} : ∀ {rs : Rs} {e : Int}, Good e rs → v ≤ e → lowE rs v = v
  | [], _, _, _ => rfl
  | (l, none) :: r, e, g, h => by
    have := g.1
    rw [lowE, if_neg (by unfold inL; simp; omega), g.2]
    rfl
  | (l, some x) :: r, e, g, h => by
    obtain ⟨g1, g2, g3⟩ := g
    rw [lowE, if_neg (by unfold inL; simp; omega)]
    exact lowE_out g3 (by omega)
theorem lowE_ge {v : Int} : ∀ {rs : Rs} {e : Int}, Good e rs → e ≤ v → e ≤ lowE rs v
  | [], _, _, h => h
  | (l, none) :: r, e, g, h => by
    obtain ⟨g1, rfl⟩ := g
    rw [lowE]
    split
    · show e ≤ l
      omega
    · exact h
  | (l, some x) :: r, e, g, h => by
    obtain ⟨g1, g2, g3⟩ := g
    rw [lowE]
    split
    · show e ≤ l
      omega
    · by_cases c : x ≤ v
      · have := lowE_ge g3 c
        omega
      · rw [lowE_out g3 (by omega)]
        exact h
/-- from v up to the high edge the value grows with its argument -/
theorem slope_up {v : Int} : ∀ {rs : Rs} {e : Int}, Good e rs → (∀ x, hiE rs v = some x → v ≤ x) ∧ ∀ y, v ≤ y → (∀ x, hiE rs v = some x → y ≤ x) → Fs rs y = Fs rs v + (y - v)
  | [], _, _ => ⟨fun x h => by rw [hiE] at h; injection h with h; omega, fun y h1 h2 => by
      have := h2 v rfl
      rw [show y = v by omega]
      omega⟩
  | (l, none) :: r, e, g => by
    obtain ⟨g1, rfl⟩ := g
    by_cases c : l ≤ v
    · have e1 : hiE [(l, none)] v = none := by rw [hiE, if_pos (by unfold inH; simp; exact c)]
      refine ⟨fun x h => (by rw [e1] at h; cases h), fun y h1 _ => ?_⟩
      rw [Fs_cons, Fs_cons, Fs_nil, Fs_nil]
      unfold rise
      simp only
      split <;> split <;> omega
    · have e1 : hiE [(l, none)] v = some v := hiE_out (e := l - 1) ⟨by omega, rfl⟩ (by omega)
      refine ⟨fun x h => by rw [e1] at h; injection h with h; omega, fun y h1 h2 => ?_⟩
      have := h2 v e1
      rw [show y = v by omega]
      omega
  | (l, some x0) :: r, e, g => by
    obtain ⟨g1, g2, g3⟩ := g
    by_cases c : l ≤ v
    · by_cases c2 : v < x0
      · have e1 : hiE ((l, some x0) :: r) v = some x0 := by rw [hiE, if_pos (by unfold inH; simp; exact ⟨c, c2⟩)]
        refine ⟨fun x h => by rw [e1] at h; injection h with h; omega, fun y h1 h2 => ?_⟩
        have h3 := h2 x0 e1
        rw [Fs_cons, Fs_cons, Fs_zero g3 h3, Fs_zero g3 (by omega)]
        unfold rise
        simp only
        split <;> split <;> (try split) <;> (try split) <;> omega
      · have e1 : hiE ((l, some x0) :: r) v = hiE r v := by rw [hiE, if_neg (by unfold inH; simp; omega)]
        obtain ⟨i1, i2⟩ := slope_up (v := v) g3
        rw [e1]
        refine ⟨i1, fun y h1 h2 => ?_⟩
        have := i2 y h1 h2
        rw [Fs_cons, Fs_cons, this]
        unfold rise
        simp only
        split <;> split <;> (try split) <;> (try split) <;> omega
    · have e1 : hiE ((l, some x0) :: r) v = some v := hiE_out (e := l - 1) ⟨by omega, g2, g3⟩ (by omega)
      refine ⟨fun x h => by rw [e1] at h; injection h with h; omega, fun y h1 h2 => ?_⟩
      have := h2 v e1
      rw [show y = v by omega]
      omega
/-- from the low edge up to v the value grows with its argument -/
theorem slope_dn {v : Int} : ∀ {rs : Rs} {e : Int}, Good e rs → lowE rs v ≤ v ∧ ∀ y, y ≤ v → lowE rs v ≤ y → Fs rs v = Fs rs y + (v - y)
  | [], _, _ => ⟨Int.le_refl _, fun y h1 h2 => by
      have h2 : v ≤ y := h2
      rw [show y = v by omega]
      omega⟩
  | (l, none) :: r, e, g => by
    obtain ⟨g1, rfl⟩ := g
    by_cases c : l < v
    · have e1 : lowE [(l, none)] v = l := by rw [lowE, if_pos (by unfold inL; simp; exact c)]
      rw [e1]
      refine ⟨by omega, fun y h1 h2 => ?_⟩
      rw [Fs_cons, Fs_cons, Fs_nil, Fs_nil]
      unfold rise
      simp only
      split <;> split <;> omega
    · have e1 : lowE [(l, none)] v = v := by
        rw [lowE, if_neg (by unfold inL; simp; omega)]
        rfl
      rw [e1]
      refine ⟨Int.le_refl _, fun y h1 h2 => ?_⟩
      rw [show y = v by omega]
      omega
  | (l, some x0) :: r, e, g => by
    obtain ⟨g1, g2, g3⟩ := g
    by_cases c : l < v
    · by_cases c2 : v ≤ x0
      · have e1 : lowE ((l, some x0) :: r) v = l := by rw [lowE, if_pos (by unfold inL; simp; exact ⟨c, c2⟩)]
        rw [e1]
        refine ⟨by omega, fun y h1 h2 => ?_⟩
        rw [Fs_cons, Fs_cons, Fs_zero g3 c2, Fs_zero g3 (by omega)]
        unfold rise
        simp only
        split <;> split <;> (try split) <;> (try split) <;> omega
      · have e1 : lowE ((l, some x0) :: r) v = lowE r v := by rw [lowE, if_neg (by unfold inL; simp; omega)]
        obtain ⟨i1, i2⟩ := slope_dn (v := v) g3
        rw [e1]
        refine ⟨i1, fun y h1 h2 => ?_⟩
        have hx : x0 ≤ lowE r v := lowE_ge g3 (by omega)
        have := i2 y h1 h2
        rw [Fs_cons, Fs_cons, this]
        unfold rise
        simp only
        split <;> split <;> (try split) <;> (try split) <;> omega
    · have e1 : lowE ((l, some x0) :: r) v = v := by
        rw [lowE, if_neg (by unfold inL; simp; omega)]
        exact lowE_out g3 (by omega)
      rw [e1]
      refine ⟨Int.le_refl _, fun y h1 h2 => ?_⟩
      rw [show y = v by omega]
      omega
/-! ### jumps along the orbit of v -> s + Fs rs v -/
def itF (s : Int) (rs : Rs) : Nat → Int → Int
  | 0, v => v
  | n + 1, v => itF s rs n (s + Fs rs v)
theorem itF_add (s : Int) (rs : Rs) : ∀ (m n : Nat) (v : Int), itF s rs (m + n) v = itF s rs n (itF s rs m v)
  | 0, n, v => by rw [Nat.zero_add]; rfl
  | m + 1, n, v => by
    rw [Nat.succ_add]
    exact itF_add s rs m n _
theorem itF_succ (s : Int) (rs : Rs) (n : Nat) (v : Int) : itF s rs (n + 1) v = s + Fs rs (itF s rs n v) := itF_add s rs n 1 v
/-- up: t steps at once, while one stays at most at the edge ahead of the last -/
theorem jump_up {s v g : Int} {rs : Rs} {e : Int} (gd : Good e rs) (hg : s + Fs rs v - v = g) (h0 : 0 < g) {t : Nat} (ht : ∀ x, hiE rs v = some x → (t : Int) ≤ (x - v) / g + 1) : ∀ i : Nat, i ≤ t → itF s rs i v = v + i * g
  | 0, _ => by simp [itF]
  | i + 1, hi => by
    have ih := jump_up gd hg h0 ht i (by omega)
    have hig : 0 ≤ (i : Int) * g := Int.mul_nonneg (by omega) (by omega)
    have sl := (slope_up (v := v) gd).2 (v + i * g) (by omega) fun x hx => by
      have h1 := ht x hx
      have h2 : (i : Int) ≤ (x - v) / g := by omega
      have h3 : (i : Int) * g ≤ x - v := Int.le_trans (Int.mul_le_mul_of_nonneg_right h2 (by omega)) (Int.ediv_mul_le _ (by omega))
      omega
    rw [itF_succ, ih, sl]
    have e : ((i + 1 : Nat) : Int) * g = i * g + g := by rw [Int.natCast_add, Int.add_mul]; simp
    omega
/-- down -/
theorem jump_dn {s v d : Int} {rs : Rs} {e : Int} (gd : Good e rs) (hd : v - (s + Fs rs v) = d) (h0 : 0 < d) {t : Nat} (ht : (t : Int) ≤ (v - lowE rs v) / d + 1) : ∀ i : Nat, i ≤ t → itF s rs i v = v - i * d
  | 0, _ => by simp [itF]
  | i + 1, hi => by
    have ih := jump_dn gd hd h0 ht i (by omega)
    have hid : 0 ≤ (i : Int) * d := Int.mul_nonneg (by omega) (by omega)
    have h2 : (i : Int) ≤ (v - lowE rs v) / d := by omega
    have h3 : (i : Int) * d ≤ v - lowE rs v := Int.le_trans (Int.mul_le_mul_of_nonneg_right h2 (by omega)) (Int.ediv_mul_le _ (by omega))
    have sl := (slope_dn (v := v) gd).2 (v - i * d) (by omega) (by omega)
    rw [itF_succ, ih]
    have e : ((i + 1 : Nat) : Int) * d = i * d + d := by rw [Int.natCast_add, Int.add_mul]; simp
    omega
theorem itF_mono {s : Int} {rs : Rs} {e : Int} (gd : Good e rs) : ∀ (n : Nat) {x y : Int}, x ≤ y → itF s rs n x ≤ itF s rs n y
  | 0, _, _, h => h
  | n + 1, x, y, h => itF_mono gd n (by have := (Fs_slope h gd).2.1; omega)
theorem itF_le {s v : Int} {rs : Rs} {e : Int} (gd : Good e rs) (h : s + Fs rs v ≤ v) : ∀ n, itF s rs n v ≤ v
  | 0 => Int.le_refl _
  | n + 1 => by
    have h1 := itF_le gd h n
    have h2 := (Fs_slope h1 gd).2.1
    rw [itF_succ]
    omega
theorem itF_ge {s v : Int} {rs : Rs} {e : Int} (gd : Good e rs) (h : v ≤ s + Fs rs v) : ∀ n, v ≤ itF s rs n v
  | 0 => Int.le_refl _
  | n + 1 => by
    have h1 := itF_ge gd h n
    have h2 := (Fs_slope h1 gd).2.1
    rw [itF_succ]
    omega
/-! ### the counts: what the loops keep -/
/-- n rounds so far, all below or at the purse, each one up -/
structure Upw (s : Int) (rs : Rs) (k purse : Int) (n : Nat) (v : Int) : Prop where
  val : itF s rs n k = v
  low : ∀ i, i < n → itF s rs i k ≤ purse
  inc : ∀ i, i < n → itF s rs i k < itF s rs (i + 1) k
theorem Upw.step {s k purse v g : Int} {rs : Rs} {e : Int} {n t : Nat} (h : Upw s rs k purse n v) (gd : Good e rs) (hv : v ≤ purse) (hg : s + Fs rs v - v = g) (h0 : 0 < g) (ht : ∀ x, hiE rs v = some x → (t : Int) ≤ (x - v) / g + 1) (hp : (t : Int) ≤ (purse - v) / g + 1) : Upw s rs k purse (n + t) (v + g * t) := by
  have j := jump_up gd hg h0 ht
  have it : ∀ i, i ≤ t → itF s rs (n + i) k = v + i * g := fun i hi => by rw [itF_add, h.val, j i hi]
  refine ⟨by rw [it t (Nat.le_refl _), Int.mul_comm], fun i hi => ?_, fun i hi => ?_⟩
  · rcases Nat.lt_or_ge i n with c | c
    · exact h.low i c
    · obtain ⟨m, rfl⟩ : ∃ m, i = n + m := ⟨i - n, by omega⟩
      rw [it m (by omega)]
      have h2 : (m : Int) ≤ (purse - v) / g := by omega
      have h3 : (m : Int) * g ≤ purse - v := Int.le_trans (Int.mul_le_mul_of_nonneg_right h2 (by omega)) (Int.ediv_mul_le _ (by omega))
      omega
  · rcases Nat.lt_or_ge i n with c | c
    · exact h.inc i c
    · obtain ⟨m, rfl⟩ : ∃ m, i = n + m := ⟨i - n, by omega⟩
      rw [Nat.add_assoc, it m (by omega), it (m + 1) (by omega)]
      have e : ((m + 1 : Nat) : Int) * g = m * g + g := by rw [Int.natCast_add, Int.add_mul]; simp
      omega
/-- n rounds so far, all above the purse, each one down -/
structure Dnw (s : Int) (rs : Rs) (k purse : Int) (n : Nat) (v : Int) : Prop where
  val : itF s rs n k = v
  hih : ∀ i, i < n → purse < itF s rs i k
  dec : ∀ i, i < n → itF s rs (i + 1) k < itF s rs i k
theorem Dnw.step {s k purse v d : Int} {rs : Rs} {e : Int} {n t : Nat} (h : Dnw s rs k purse n v) (gd : Good e rs) (hv : purse < v) (hd : v - (s + Fs rs v) = d) (h0 : 0 < d) (ht : (t : Int) ≤ (v - lowE rs v) / d + 1) (hp : (t : Int) ≤ 0 - (purse - v) / d) : Dnw s rs k purse (n + t) (v - d * t) := by
  have j := jump_dn gd hd h0 ht
  have it : ∀ i, i ≤ t → itF s rs (n + i) k = v - i * d := fun i hi => by rw [itF_add, h.val, j i hi]
  refine ⟨by rw [it t (Nat.le_refl _), Int.mul_comm], fun i hi => ?_, fun i hi => ?_⟩
  · rcases Nat.lt_or_ge i n with c | c
    · exact h.hih i c
    · obtain ⟨m, rfl⟩ : ∃ m, i = n + m := ⟨i - n, by omega⟩
      rw [it m (by omega)]
      have h2 : (purse - v) / d < 0 - (m : Int) := by omega
      have h3 : (purse - v) < (0 - (m : Int)) * d := Int.lt_mul_of_ediv_lt h0 h2
      rw [Int.sub_mul, Int.zero_mul] at h3
      omega
  · rcases Nat.lt_or_ge i n with c | c
    · exact h.dec i c
    · obtain ⟨m, rfl⟩ : ∃ m, i = n + m := ⟨i - n, by omega⟩
      rw [Nat.add_assoc, it m (by omega), it (m + 1) (by omega)]
      have e : ((m + 1 : Nat) : Int) * d = m * d + d := by rw [Int.natCast_add, Int.add_mul]; simp
      omega
end Nd
set_option Elab.async false
set_option linter.all false
namespace Nd
/-! ### orbits with an end: none is above all numbers -/
def lte : Option Int → Option Int → Prop
  | _, none => True
  | none, some _ => False
  | some x, some y => x ≤ y
theorem lte_anti : ∀ {a b : Option Int}, lte a b → lte b a → a = b
  | none, none, _, _ => rfl
  | none, some _, h, _ => nomatch h
  | some _, none, _, h => nomatch h
  | some x, some y, h, h2 => by
    have h : x ≤ y := h
    have h2 : y ≤ x := h2
    rw [show x = y by omega]
theorem lte_refl : ∀ a : Option Int, lte a a
  | none => trivial
  | some x => Int.le_refl x
theorem lte_trans : ∀ {a b c : Option Int}, lte a b → lte b c → lte a c
  | _, _, none, _, _ => trivial
  | none, none, some _, _, h => nomatch h
  | none, some _, some _, h, _ => nomatch h
  | some _, none, some _, _, h => nomatch h
  | some _, some _, some _, h, h2 => Int.le_trans h h2
theorem lte_total : ∀ {a b : Option Int}, ¬ lte a b → lte b a
  | _, none, h => absurd trivial h
  | none, some _, _ => trivial
  | some x, some y, h => by
    have h : ¬ x ≤ y := h
    show y ≤ x
    omega
def itO (st : Option Int) (rs : Rs) (nv : Option Int) : Nat → Option Int → Option Int
  | 0, v => v
  | n + 1, v => itO st rs nv n (val st rs nv v)
section
variable {st nv : Option Int} {rs : Rs}
theorem itO_add : ∀ (m n : Nat) (v : Option Int), itO st rs nv (m + n) v = itO st rs nv n (itO st rs nv m v)
  | 0, n, v => by rw [Nat.zero_add]; rfl
  | m + 1, n, v => by
    rw [Nat.succ_add]
    exact itO_add m n _
theorem itO_succ (n : Nat) (v : Option Int) : itO st rs nv (n + 1) v = val st rs nv (itO st rs nv n v) := itO_add n 1 v
theorem itO_some {s : Int} : ∀ (n : Nat) (v : Int), itO (some s) rs nv n (some v) = some (itF s rs n v)
  | 0, _ => rfl
  | n + 1, v => itO_some n _
theorem itO_end : ∀ (n : Nat), itO st rs none n none = none
  | 0 => rfl
  | n + 1 => by
    rw [itO]
    have : val st rs none none = none := by cases st <;> rfl
    rw [this]
    exact itO_end n
theorem itO_no : ∀ (n : Nat) (k : Option Int), itO none rs none (n + 1) k = none := fun n k => by
  rw [itO]
  exact itO_end n
/-! ### what the four methods say -/
def UpO (st : Option Int) (rs : Rs) (nv k : Option Int) (purse : Int) : Option Int → Prop
  | some n => 0 ≤ n ∧ (∀ i : Nat, (i : Int) < n → lte (itO st rs nv i k) (some purse) ∧ ¬ lte (itO st rs nv (i + 1) k) (itO st rs nv i k)) ∧ ¬ lte (itO st rs nv n.toNat k) (some purse)
  | none => ∀ i, lte (itO st rs nv i k) (some purse)
def DnO (st : Option Int) (rs : Rs) (nv k : Option Int) (purse : Int) : Option Int → Prop
  | some n => 0 ≤ n ∧ (∀ i : Nat, (i : Int) < n → ¬ lte (itO st rs nv i k) (some purse) ∧ ¬ lte (itO st rs nv i k) (itO st rs nv (i + 1) k)) ∧ lte (itO st rs nv n.toNat k) (some purse)
  | none => ∀ i, ¬ lte (itO st rs nv i k) (some purse)
def LoO (st : Option Int) (rs : Rs) (nv k : Option Int) (lim : Nat) (r : Option Int) : Prop := (∃ i, i ≤ lim ∧ itO st rs nv i k = r) ∧ ∀ i, i ≤ lim → lte r (itO st rs nv i k)
def HiO (st : Option Int) (rs : Rs) (nv k : Option Int) (lim : Nat) (r : Option Int) : Prop := (∃ i, i ≤ lim ∧ itO st rs nv i k = r) ∧ ∀ i, i ≤ lim → lte (itO st rs nv i k) r
theorem LoO.uniq {k r r' : Option Int} {lim : Nat} (h : LoO st rs nv k lim r) (h2 : LoO st rs nv k lim r') : r = r' := by
  obtain ⟨⟨i, hi, rfl⟩, h⟩ := h
  obtain ⟨⟨j, hj, rfl⟩, h2⟩ := h2
  exact lte_anti (h j hj) (h2 i hi)
theorem HiO.uniq {k r r' : Option Int} {lim : Nat} (h : HiO st rs nv k lim r) (h2 : HiO st rs nv k lim r') : r = r' := by
  obtain ⟨⟨i, hi, rfl⟩, h⟩ := h
  obtain ⟨⟨j, hj, rfl⟩, h2⟩ := h2
  exact lte_anti (h2 i hi) (h j hj)
/-- one count alone fits -/
theorem UpO.is {k r : Option Int} {purse : Int} (h : UpO st rs nv k purse r) {n : Nat} (h1 : ∀ i, i < n → lte (itO st rs nv i k) (some purse)) (h2 : ¬ lte (itO st rs nv n k) (some purse)) : r = some (n : Int) := by
  cases r with
  | none => exact absurd (h n) h2
  | some m =>
    obtain ⟨m0, m1, m2⟩ := h
    have a : ¬ m.toNat < n := fun z => m2 (h1 _ z)
    have b : ¬ (n : Int) < m := fun z => h2 (m1 n z).1
    rw [show m = (n : Int) by omega]
theorem UpO.non {k r : Option Int} {purse : Int} (h : UpO st rs nv k purse r) (h1 : ∀ i, lte (itO st rs nv i k) (some purse)) : r = none := by
  cases r with
  | none => rfl
  | some m => exact absurd (h1 _) h.2.2
theorem DnO.is {k r : Option Int} {purse : Int} (h : DnO st rs nv k purse r) {n : Nat} (h1 : ∀ i, i < n → ¬ lte (itO st rs nv i k) (some purse)) (h2 : lte (itO st rs nv n k) (some purse)) : r = some (n : Int) := by
  cases r with
  | none => exact absurd h2 (h n)
  | some m =>
    obtain ⟨m0, m1, m2⟩ := h
    have a : ¬ m.toNat < n := fun z => h1 _ z m2
    have b : ¬ (n : Int) < m := fun z => (m1 n z).1 h2
    rw [show m = (n : Int) by omega]
theorem DnO.non {k r : Option Int} {purse : Int} (h : DnO st rs nv k purse r) (h1 : ∀ i, ¬ lte (itO st rs nv i k) (some purse)) : r = none := by
  cases r with
  | none => rfl
  | some m => exact absurd h.2.2 (h1 _)
end
/-! ### orbits that only go down, only go up -/
theorem dec_le {s k : Int} {rs : Rs} {n : Nat} (h : ∀ i, i < n → itF s rs (i + 1) k ≤ itF s rs i k) : ∀ (m i : Nat), i + m ≤ n → itF s rs (i + m) k ≤ itF s rs i k
  | 0, i, _ => Int.le_refl _
  | m + 1, i, hi => by
    have h1 := dec_le h m i (by omega)
    have h2 := h (i + m) (by omega)
    rw [← Nat.add_assoc]
    omega
theorem inc_le {s k : Int} {rs : Rs} {n : Nat} (h : ∀ i, i < n → itF s rs i k ≤ itF s rs (i + 1) k) : ∀ (m i : Nat), i + m ≤ n → itF s rs i k ≤ itF s rs (i + m) k
  | 0, i, _ => Int.le_refl _
  | m + 1, i, hi => by
    have h1 := inc_le h m i (by omega)
    have h2 := h (i + m) (by omega)
    rw [← Nat.add_assoc]
    omega
/-- n rounds so far, each one down -/
structure Dw (s : Int) (rs : Rs) (k : Int) (n : Nat) (v : Int) : Prop where
  val : itF s rs n k = v
  dec : ∀ i, i < n → itF s rs (i + 1) k < itF s rs i k
theorem Dw.step {s k v d : Int} {rs : Rs} {e : Int} {n t : Nat} (h : Dw s rs k n v) (gd : Good e rs) (hd : v - (s + Fs rs v) = d) (h0 : 0 < d) (ht : (t : Int) ≤ (v - lowE rs v) / d + 1) : Dw s rs k (n + t) (v - d * t) := by
  have j := jump_dn gd hd h0 ht
  have it : ∀ i, i ≤ t → itF s rs (n + i) k = v - i * d := fun i hi => by rw [itF_add, h.val, j i hi]
  refine ⟨by rw [it t (Nat.le_refl _), Int.mul_comm], fun i hi => ?_⟩
  rcases Nat.lt_or_ge i n with c | c
  · exact h.dec i c
  · obtain ⟨m, rfl⟩ : ∃ m, i = n + m := ⟨i - n, by omega⟩
    rw [Nat.add_assoc, it m (by omega), it (m + 1) (by omega)]
    have e : ((m + 1 : Nat) : Int) * d = m * d + d := by rw [Int.natCast_add, Int.add_mul]; simp
    omega
structure Uw (s : Int) (rs : Rs) (k : Int) (n : Nat) (v : Int) : Prop where
  val : itF s rs n k = v
  inc : ∀ i, i < n → itF s rs i k < itF s rs (i + 1) k
theorem Uw.step {s k v g : Int} {rs : Rs} {e : Int} {n t : Nat} (h : Uw s rs k n v) (gd : Good e rs) (hg : s + Fs rs v - v = g) (h0 : 0 < g) (ht : ∀ x, hiE rs v = some x → (t : Int) ≤ (x - v) / g + 1) : Uw s rs k (n + t) (v + g * t) := by
  have j := jump_up gd hg h0 ht
  have it : ∀ i, i ≤ t → itF s rs (n + i) k = v + i * g := fun i hi => by rw [itF_add, h.val, j i hi]
  refine ⟨by rw [it t (Nat.le_refl _), Int.mul_comm], fun i hi => ?_⟩
  rcases Nat.lt_or_ge i n with c | c
  · exact h.inc i c
  · obtain ⟨m, rfl⟩ : ∃ m, i = n + m := ⟨i - n, by omega⟩
    rw [Nat.add_assoc, it m (by omega), it (m + 1) (by omega)]
    have e : ((m + 1 : Nat) : Int) * g = m * g + g := by rw [Int.natCast_add, Int.add_mul]; simp
    omega
def LoF (s : Int) (rs : Rs) (k : Int) (lim : Nat) (r : Int) : Prop := (∃ i, i ≤ lim ∧ itF s rs i k = r) ∧ ∀ i, i ≤ lim → r ≤ itF s rs i k
def HiF (s : Int) (rs : Rs) (k : Int) (lim : Nat) (r : Int) : Prop := (∃ i, i ≤ lim ∧ itF s rs i k = r) ∧ ∀ i, i ≤ lim → itF s rs i k ≤ r
theorem Dw.lo {s k v : Int} {rs : Rs} {e : Int} {n lim : Nat} (h : Dw s rs k n v) (gd : Good e rs) (hn : n ≤ lim) (hs : n = lim ∨ v ≤ s + Fs rs v) : LoF s rs k lim v := by
  refine ⟨⟨n, hn, h.val⟩, fun i hi => ?_⟩
  rcases Nat.lt_or_ge n i with c | c
  · rcases hs with rfl | hs
    · omega
    · obtain ⟨m, rfl⟩ : ∃ m, i = n + m := ⟨i - n, by omega⟩
      rw [itF_add, h.val]
      exact itF_ge gd hs m
  · obtain ⟨m, rfl⟩ : ∃ m, n = i + m := ⟨n - i, by omega⟩
    rw [← h.val]
    exact dec_le (n := i + m) (fun j hj => Int.le_of_lt (h.dec j hj)) m i (Nat.le_refl _)
theorem Uw.hi {s k v : Int} {rs : Rs} {e : Int} {n lim : Nat} (h : Uw s rs k n v) (gd : Good e rs) (hn : n ≤ lim) (hs : n = lim ∨ s + Fs rs v ≤ v) : HiF s rs k lim v := by
  refine ⟨⟨n, hn, h.val⟩, fun i hi => ?_⟩
  rcases Nat.lt_or_ge n i with c | c
  · rcases hs with rfl | hs
    · omega
    · obtain ⟨m, rfl⟩ : ∃ m, i = n + m := ⟨i - n, by omega⟩
      rw [itF_add, h.val]
      exact itF_le gd hs m
  · obtain ⟨m, rfl⟩ : ∃ m, n = i + m := ⟨n - i, by omega⟩
    rw [← h.val]
    exact inc_le (n := i + m) (fun j hj => Int.le_of_lt (h.inc j hj)) m i (Nat.le_refl _)
theorem LoF.o {s k r : Int} {rs : Rs} {nv : Option Int} {lim : Nat} (h : LoF s rs k lim r) : LoO (some s) rs nv (some k) lim (some r) := by
  obtain ⟨⟨i, hi, e⟩, h⟩ := h
  refine ⟨⟨i, hi, by rw [itO_some, e]⟩, fun j hj => ?_⟩
  rw [itO_some]
  exact h j hj
theorem HiF.o {s k r : Int} {rs : Rs} {nv : Option Int} {lim : Nat} (h : HiF s rs k lim r) : HiO (some s) rs nv (some k) lim (some r) := by
  obtain ⟨⟨i, hi, e⟩, h⟩ := h
  refine ⟨⟨i, hi, by rw [itO_some, e]⟩, fun j hj => ?_⟩
  rw [itO_some]
  exact h j hj
theorem LoO.late {s v : Int} {rs : Rs} {lim : Nat} {r : Option Int} (h : LoO (some s) rs (some v) (some v) lim r) : LoO (some s) rs (some v) none (lim + 1) r := by
  obtain ⟨⟨i, hi, e⟩, h⟩ := h
  refine ⟨⟨i + 1, by omega, e⟩, fun j hj => ?_⟩
  cases j with
  | zero => trivial
  | succ j => exact h j (by omega)
theorem LoO.end_ {st : Option Int} {rs : Rs} {lim : Nat} : LoO st rs none none lim none := ⟨⟨0, Nat.zero_le _, rfl⟩, fun j _ => by rw [itO_end]; trivial⟩
theorem LoO.zero {st nv k : Option Int} {rs : Rs} : LoO st rs nv k 0 k := ⟨⟨0, Nat.le_refl _, rfl⟩, fun j hj => by
  obtain rfl : j = 0 := by omega
  exact lte_refl _⟩
theorem LoO.no {k : Option Int} {rs : Rs} {lim : Nat} : LoO none rs none k lim k := ⟨⟨0, Nat.zero_le _, rfl⟩, fun j hj => by
  cases j with
  | zero => exact lte_refl _
  | succ j => rw [itO_no]; trivial⟩
theorem HiO.top {st nv : Option Int} {rs : Rs} {lim : Nat} : HiO st rs nv none lim none := ⟨⟨0, Nat.zero_le _, rfl⟩, fun _ _ => trivial⟩
theorem HiO.zero {st nv k : Option Int} {rs : Rs} : HiO st rs nv k 0 k := ⟨⟨0, Nat.le_refl _, rfl⟩, fun j hj => by
  obtain rfl : j = 0 := by omega
  exact lte_refl _⟩
theorem HiO.no {k : Option Int} {rs : Rs} {lim : Nat} : HiO none rs none k (lim + 1) none := ⟨⟨1, by omega, itO_no 0 k⟩, fun _ _ => trivial⟩
/-! ### the counts of the loops -/
/-- the count of rounds until one is above the purse -/
def UpR (s : Int) (rs : Rs) (k purse : Int) : Option Int → Prop
  | some n => 0 ≤ n ∧ (∀ i : Nat, (i : Int) < n → itF s rs i k ≤ purse ∧ itF s rs i k < itF s rs (i + 1) k) ∧ purse < itF s rs n.toNat k
  | none => ∃ n, (∀ i : Nat, i < n → itF s rs i k ≤ purse) ∧ itF s rs n k ≤ purse ∧ itF s rs (n + 1) k ≤ itF s rs n k
/-- the count of rounds until one is at most the purse -/
def DnR (s : Int) (rs : Rs) (k purse : Int) : Option Int → Prop
  | some n => 0 ≤ n ∧ (∀ i : Nat, (i : Int) < n → purse < itF s rs i k ∧ itF s rs (i + 1) k < itF s rs i k) ∧ itF s rs n.toNat k ≤ purse
  | none => ∃ n, (∀ i : Nat, i < n → purse < itF s rs i k) ∧ purse < itF s rs n k ∧ itF s rs n k ≤ itF s rs (n + 1) k
theorem UpR.o {s k purse : Int} {rs : Rs} {nv r : Option Int} {e : Int} (gd : Good e rs) (h : UpR s rs k purse r) : UpO (some s) rs nv (some k) purse r := by
  cases r with
  | some n =>
    obtain ⟨h0, h1, h2⟩ := h
    refine ⟨h0, fun i hi => ?_, ?_⟩
    · rw [itO_some, itO_some]
      exact ⟨(h1 i hi).1, Int.not_le.mpr (h1 i hi).2⟩
    · rw [itO_some]
      exact Int.not_le.mpr h2
  | none =>
    obtain ⟨n, h1, h2, h3⟩ := h
    intro i
    rw [itO_some]
    show itF s rs i k ≤ purse
    rcases Nat.lt_or_ge i n with c | c
    · exact h1 i c
    · obtain ⟨m, rfl⟩ : ∃ m, i = n + m := ⟨i - n, by omega⟩
      rw [itF_succ] at h3
      have := itF_le gd h3 m
      rw [itF_add]
      omega
theorem DnR.o {s k purse : Int} {rs : Rs} {nv r : Option Int} {e : Int} (gd : Good e rs) (h : DnR s rs k purse r) : DnO (some s) rs nv (some k) purse r := by
  cases r with
  | some n =>
    obtain ⟨h0, h1, h2⟩ := h
    refine ⟨h0, fun i hi => ?_, ?_⟩
    · rw [itO_some, itO_some]
      exact ⟨Int.not_le.mpr (h1 i hi).1, Int.not_le.mpr (h1 i hi).2⟩
    · rw [itO_some]
      exact h2
  | none =>
    obtain ⟨n, h1, h2, h3⟩ := h
    intro i
    rw [itO_some]
    refine Int.not_le.mpr (?_ : purse < itF s rs i k)
    rcases Nat.lt_or_ge i n with c | c
    · exact h1 i c
    · obtain ⟨m, rfl⟩ : ∃ m, i = n + m := ⟨i - n, by omega⟩
      rw [itF_succ] at h3
      have := itF_ge gd h3 m
      rw [itF_add]
      omega
theorem DnO.late {st : Option Int} {v purse : Int} {rs : Rs} {r : Option Int} (h : DnO st rs (some v) (some v) purse r) : DnO st rs (some v) none purse (r.map (· + 1)) := by
  have e : ∀ i, itO st rs (some v) (i + 1) none = itO st rs (some v) i (some v) := fun i => by
    rw [itO]
    cases st <;> rfl
  cases r with
  | none =>
    intro i
    cases i with
    | zero => exact fun z => z
    | succ i => rw [e]; exact h i
  | some n =>
    obtain ⟨h0, h1, h2⟩ := h
    refine ⟨by show 0 ≤ n + 1; omega, fun i hi => ?_, ?_⟩
    · cases i with
      | zero => exact ⟨fun z => z, by rw [e]; exact fun z => z⟩
      | succ i =>
        have hi : ((i + 1 : Nat) : Int) < n + 1 := hi
        rw [e, e]
        exact h1 i (by omega)
    · rw [show (n + 1).toNat = n.toNat + 1 by omega, e]
      exact h2
theorem DnO.never {st : Option Int} {purse : Int} {rs : Rs} : DnO st rs none none purse none := fun i => by
  rw [itO_end]
  exact fun z => z
/-- a need within bounds -/
structure NdW (st : Option Int) (rs : Rs) (nv : Option Int) : Prop where
  good : Good (-1) rs
  s0 : ∀ s, st = some s → 0 ≤ s ∧ s ≤ 10 ^ 100
  nv0 : st = none → nv = none
  nvB : ∀ v, nv = some v → 0 ≤ v ∧ v ≤ 10 ^ 100
end Nd
set_option Elab.async false
set_option linter.all false
namespace Nd
/-! ### the needs whose counts are reckoned by division -/
theorem div_lo {a p : Int} (hp : 0 < p) (ha : 0 ≤ a) : ∃ t : Nat, (t : Int) = a / p + 1 ∧ 1 ≤ t ∧ (∀ i : Nat, i < t → (i : Int) * p ≤ a) ∧ a < p * t := by
  have h0 : 0 ≤ a / p := Int.ediv_nonneg ha (by omega)
  refine ⟨(a / p + 1).toNat, by omega, by omega, fun i hi => ?_, ?_⟩
  · exact Int.le_trans (Int.mul_le_mul_of_nonneg_right (show (i : Int) ≤ a / p by omega) (by omega)) (Int.ediv_mul_le _ (by omega))
  · rw [show (((a / p + 1).toNat : Nat) : Int) = a / p + 1 by omega, Int.mul_comm]
    exact Int.lt_ediv_add_one_mul_self a hp
theorem div_ce {a p : Int} (hp : 0 < p) (ha : a < 0) : ∃ t : Nat, (t : Int) = 0 - a / p ∧ 1 ≤ t ∧ (∀ i : Nat, i < t → (i : Int) * p < 0 - a) ∧ 0 - a ≤ p * t := by
  have h0 : a / p < 0 := Int.ediv_neg_of_neg_of_pos ha hp
  refine ⟨(0 - a / p).toNat, by omega, by omega, fun i hi => ?_, ?_⟩
  · have h2 : a / p < 0 - (i : Int) := by omega
    have h3 : a < (0 - (i : Int)) * p := Int.lt_mul_of_ediv_lt hp h2
    rw [Int.sub_mul, Int.zero_mul] at h3
    omega
  · rw [show (((0 - a / p).toNat : Nat) : Int) = 0 - a / p by omega]
    have := Int.ediv_mul_le a (show p ≠ 0 by omega)
    rw [Int.mul_sub, Int.mul_zero, Int.mul_comm p]
    omega
theorem line {s g v : Int} {rs : Rs} {t : Nat} (h : ∀ i : Nat, i < t → s + Fs rs (v + i * g) = v + i * g + g) : ∀ i : Nat, i ≤ t → itF s rs i v = v + i * g
  | 0, _ => by simp [itF]
  | i + 1, hi => by
    rw [itF_succ, line h i (by omega), h i (by omega)]
    have e : ((i + 1 : Nat) : Int) * g = i * g + g := by rw [Int.natCast_add, Int.add_mul]; simp
    omega
theorem floorL {s p b V0 : Int} {rs : Rs} (hp : 0 < p) (h : ∀ v, b ≤ v → v ≤ V0 → s + Fs rs v = if v - p < b then b else v - p) : ∀ (i : Nat) (v : Int), b ≤ v → v ≤ V0 → itF s rs i v = if v - i * p < b then b else v - i * p
  | 0, v, h0, h1 => by
    rw [itF, if_neg (by simp; omega)]
    simp
  | i + 1, v, h0, h1 => by
    have e : ((i + 1 : Nat) : Int) * p = i * p + p := by rw [Int.natCast_add, Int.add_mul]; simp
    have h5 : 0 ≤ (i : Int) * p := Int.mul_nonneg (by omega) (by omega)
    rw [itF, h v h0 h1, e]
    split
    · rw [floorL hp h i b (Int.le_refl _) (by omega)]
      split <;> split <;> omega
    · rw [floorL hp h i (v - p) (by omega) (by omega)]
      split <;> split <;> omega
/-- c rounds so far, all at most the purse -/
structure Uc (s : Int) (rs : Rs) (k purse : Int) (c : Nat) (v : Int) : Prop where
  val : itF s rs c k = v
  low : ∀ i, i < c → itF s rs i k ≤ purse
theorem Uc.zero {s k purse : Int} {rs : Rs} : Uc s rs k purse 0 k := ⟨rfl, fun i hi => absurd hi (Nat.not_lt_zero i)⟩
theorem Uc.step {s k purse v g : Int} {rs : Rs} {c t : Nat} (h : Uc s rs k purse c v) (h1 : ∀ i : Nat, i < t → s + Fs rs (v + i * g) = v + i * g + g) (h2 : ∀ i : Nat, i < t → v + i * g ≤ purse) : Uc s rs k purse (c + t) (v + g * t) := by
  have l := line h1
  refine ⟨by rw [itF_add, h.val, l t (Nat.le_refl _), Int.mul_comm], fun i hi => ?_⟩
  rcases Nat.lt_or_ge i c with z | z
  · exact h.low i z
  · obtain ⟨m, rfl⟩ : ∃ m, i = c + m := ⟨i - c, by omega⟩
    rw [itF_add, h.val, l m (by omega)]
    exact h2 m (by omega)
theorem Uc.one {s k purse v v' : Int} {rs : Rs} {c : Nat} (h : Uc s rs k purse c v) (h1 : s + Fs rs v = v') (h2 : v ≤ purse) : Uc s rs k purse (c + 1) v' := by
  refine ⟨by rw [itF_succ, h.val, h1], fun i hi => ?_⟩
  rcases Nat.lt_or_ge i c with z | z
  · exact h.low i z
  · obtain rfl : i = c := by omega
    rw [h.val]
    exact h2
theorem Uc.is {s k purse v : Int} {rs : Rs} {nv r : Option Int} {c : Nat} (h : Uc s rs k purse c v) (hv : purse < v) (hr : UpO (some s) rs nv (some k) purse r) : r = some (c : Int) := by
  refine hr.is (fun i hi => ?_) ?_
  · rw [itO_some]
    exact h.low i hi
  · rw [itO_some, h.val]
    exact Int.not_le.mpr hv
/-- c rounds so far, all above the purse -/
structure Dc (s : Int) (rs : Rs) (k purse : Int) (c : Nat) (v : Int) : Prop where
  val : itF s rs c k = v
  hih : ∀ i, i < c → purse < itF s rs i k
theorem Dc.zero {s k purse : Int} {rs : Rs} : Dc s rs k purse 0 k := ⟨rfl, fun i hi => absurd hi (Nat.not_lt_zero i)⟩
theorem Dc.go {s k purse v v' : Int} {rs : Rs} {c t : Nat} (h : Dc s rs k purse c v) (h1 : itF s rs t v = v') (h2 : ∀ i : Nat, i < t → purse < itF s rs i v) : Dc s rs k purse (c + t) v' := by
  refine ⟨by rw [itF_add, h.val, h1], fun i hi => ?_⟩
  rcases Nat.lt_or_ge i c with z | z
  · exact h.hih i z
  · obtain ⟨m, rfl⟩ : ∃ m, i = c + m := ⟨i - c, by omega⟩
    rw [itF_add, h.val]
    exact h2 m (by omega)
theorem Dc.is {s k purse v : Int} {rs : Rs} {nv r : Option Int} {c : Nat} (h : Dc s rs k purse c v) (hv : v ≤ purse) (hr : DnO (some s) rs nv (some k) purse r) : r = some (c : Int) := by
  refine hr.is (fun i hi => ?_) ?_
  · rw [itO_some]
    exact Int.not_le.mpr (h.hih i hi)
  · rw [itO_some, h.val]
    exact hv
theorem Dc.non {s k purse : Int} {rs : Rs} {nv r : Option Int} (h : ∀ i, purse < itF s rs i k) (hr : DnO (some s) rs nv (some k) purse r) : r = none := hr.non fun i => by
  rw [itO_some]
  exact Int.not_le.mpr (h i)
/-- all up: the last one is the greatest; all down: the least -/
theorem up_hi {s k : Int} {rs : Rs} {e : Int} (gd : Good e rs) (h : k ≤ s + Fs rs k) (lim : Nat) : HiF s rs k lim (itF s rs lim k) ∧ LoF s rs k lim k := by
  have st : ∀ i, itF s rs i k ≤ itF s rs (i + 1) k := fun i => itF_mono gd i h
  refine ⟨⟨⟨lim, Nat.le_refl _, rfl⟩, fun i hi => ?_⟩, ⟨0, Nat.zero_le _, rfl⟩, fun i hi => ?_⟩
  · obtain ⟨m, rfl⟩ : ∃ m, lim = i + m := ⟨lim - i, by omega⟩
    exact inc_le (n := i + m) (fun j _ => st j) m i (Nat.le_refl _)
  · have := inc_le (n := i) (fun j _ => st j) i 0 (by omega)
    rw [Nat.zero_add] at this
    exact this
theorem dn_lo {s k : Int} {rs : Rs} {e : Int} (gd : Good e rs) (h : s + Fs rs k ≤ k) (lim : Nat) : LoF s rs k lim (itF s rs lim k) := by
  have st : ∀ i, itF s rs (i + 1) k ≤ itF s rs i k := fun i => itF_mono gd i h
  refine ⟨⟨lim, Nat.le_refl _, rfl⟩, fun i hi => ?_⟩
  obtain ⟨m, rfl⟩ : ∃ m, lim = i + m := ⟨lim - i, by omega⟩
  exact dec_le (n := i + m) (fun j _ => st j) m i (Nat.le_refl _)
/-! ### one pace -/
def cu : Rs := [(0, none)]
def cd (edge step : Int) : Rs := [(edge + step, none)]
theorem cu_good : Good (-1) cu := ⟨by decide, rfl⟩
theorem cd_good {edge step : Int} (h0 : 0 ≤ edge) (h1 : 1 ≤ step) : Good (-1) (cd edge step) := ⟨by omega, rfl⟩
theorem cu_F {v : Int} (h : 0 ≤ v) : Fs cu v = v := by
  rw [cu, Fs_cons, Fs_nil]
  unfold rise
  simp only
  split <;> omega
theorem cd_F {edge step v : Int} : Fs (cd edge step) v = if v - step < edge then 0 else v - step - edge := by
  rw [cd, Fs_cons, Fs_nil]
  unfold rise
  simp only
  split <;> split <;> omega
theorem cu_it {step v : Int} (h0 : 0 ≤ v) (h1 : 1 ≤ step) (i : Nat) : itF step cu i v = v + i * step := line (t := i) (fun j _ => by
  have : 0 ≤ (j : Int) * step := Int.mul_nonneg (by omega) (by omega)
  rw [cu_F (by omega)]
  omega) i (Nat.le_refl _)
theorem cd_it {edge step v : Int} (h0 : edge ≤ v) (h1 : 1 ≤ step) (i : Nat) : itF edge (cd edge step) i v = if v - i * step < edge then edge else v - i * step := floorL (V0 := v) (by omega) (fun y _ _ => by
  rw [cd_F]
  split <;> omega) i v h0 (Int.le_refl _)
/-! ### two paces -/
def tu (bend flat : Int) : Rs := [(0, some bend), (bend + flat, none)]
theorem tu_good {bend flat : Int} (h0 : 1 ≤ bend) (h1 : 1 ≤ flat) : Good (-1) (tu bend flat) := ⟨by omega, by omega, by omega, rfl⟩
theorem tu_F {bend flat v : Int} (h0 : 1 ≤ bend) (h1 : 1 ≤ flat) (hv : 0 ≤ v) : Fs (tu bend flat) v = if v ≤ bend then v else if v ≤ bend + flat then bend else v - flat := by
  rw [tu, Fs_cons, Fs_cons, Fs_nil]
  unfold rise
  simp only
  (repeat' split) <;> omega
def td (base pace edge flat : Int) : Rs := [(base + pace, some edge), (edge + flat, none)]
theorem td_good {base pace edge flat : Int} (h0 : 0 ≤ base) (h1 : 1 ≤ flat) (h2 : base + pace < edge) (h3 : 0 ≤ pace) : Good (-1) (td base pace edge flat) := ⟨by omega, by omega, by omega, rfl⟩
theorem td_F {base pace edge flat v : Int} (h1 : 1 ≤ flat) (h2 : base + pace < edge) : Fs (td base pace edge flat) v = if v ≤ base + pace then 0 else if v ≤ edge then v - base - pace else if v ≤ edge + flat then edge - base - pace else v - base - pace - flat := by
  rw [td, Fs_cons, Fs_cons, Fs_nil]
  unfold rise
  simp only
  (repeat' split) <;> omega
theorem td_it {base pace edge flat v : Int} (h1 : 1 ≤ flat) (h2 : base + pace < edge) (h3 : 1 ≤ pace) (b0 : base ≤ v) (b1 : v ≤ edge) (i : Nat) : itF base (td base pace edge flat) i v = if v - i * pace < base then base else v - i * pace := floorL (V0 := edge) (by omega) (fun y _ _ => by
  rw [td_F h1 h2]
  (repeat' split) <;> omega) i v b0 b1
end Nd
set_option pp.maxSteps 700
set_option Elab.async false
set_option linter.all false
set_option maxRecDepth 100000
set_option maxHeartbeats 4000000
namespace Z
open Nd
open PySem PySem.Spec PyProof.Rows L2
open C8 (pss_cut tCut)
local macro_rules | `(tactic| walk_at "num") => `(tactic| first | rfl | omega | decide | exact Nat.le_of_lt (small1000 (by simp)) | exact ⟨by omega, by omega⟩ | exact ⟨by omega, by omega, by omega⟩ | exact ⟨by decide, by decide, by decide⟩ | exact Or.inl ⟨by omega, by omega⟩ | exact Or.inr ⟨by omega, by omega⟩)
local macro_rules | `(tactic| walk_at "go") => `(tactic| repeat (first | refine ⟨_, rfl, ?_⟩ | refine ⟨_, _, rfl, rfl, ?_⟩ | refine ⟨_, _, rfl, ?_⟩ | (refine ⟨_, _, rfl, rfl, ?_, ?_⟩; focus walk_at "num") | refine Or.inl ⟨_, rfl, ?_⟩ | refine ⟨_, _, _, _, rfl, rfl, (by assumption), (by rfl), ?_⟩ | refine ⟨_, _, _, _, _, rfl, (by assumption), (by assumption), (by assumption), (by rfl), ?_⟩ | refine ⟨rfl, ?_⟩ | (refine And.intro ?_ ?_; focus walk_at "num")))
abbrev s_value_at : Stmt := topS 7
abbrev N_value_at : List Str := ["start", "rises", "k", "value", "low", "high", "top"]
abbrev P_value_at : List Str := ["start", "rises", "k"]
theorem sc_value_at : FnScope N_value_at P_value_at (defScope s_value_at) := ⟨rfl, rfl, rfl, by decide +kernel, rfl, by decide +kernel, by decide +kernel⟩
abbrev s_greatest_value : Stmt := topS 22
abbrev N_greatest_value : List Str := ["start", "rises", "top", "edge", "low", "high"]
abbrev P_greatest_value : List Str := ["start", "rises"]
theorem sc_greatest_value : FnScope N_greatest_value P_greatest_value (defScope s_greatest_value) := ⟨rfl, rfl, rfl, by decide +kernel, rfl, by decide +kernel, by decide +kernel⟩
abbrev s_Need___init__ : Stmt := inClass (topS 23) 0
abbrev N_Need___init__ : List Str := ["self", "start", "rises", "never", "top", "low", "high"]
abbrev P_Need___init__ : List Str := ["self", "start", "rises", "never"]
theorem sc_Need___init__ : FnScope N_Need___init__ P_Need___init__ (defScope s_Need___init__) := ⟨rfl, rfl, rfl, by decide +kernel, rfl, by decide +kernel, by decide +kernel⟩
abbrev s_Need_value_for : Stmt := inClass (topS 23) 1
abbrev N_Need_value_for : List Str := ["self", "k"]
abbrev P_Need_value_for : List Str := ["self", "k"]
theorem sc_Need_value_for : FnScope N_Need_value_for P_Need_value_for (defScope s_Need_value_for) := ⟨rfl, rfl, rfl, by decide +kernel, rfl, by decide +kernel, by decide +kernel⟩
abbrev s_Need___call__ : Stmt := inClass (topS 23) 2
abbrev N_Need___call__ : List Str := ["self", "needed"]
abbrev P_Need___call__ : List Str := ["self", "needed"]
theorem sc_Need___call__ : FnScope N_Need___call__ P_Need___call__ (defScope s_Need___call__) := ⟨rfl, rfl, rfl, by decide +kernel, rfl, by decide +kernel, by decide +kernel⟩
abbrev s_Need___eq__ : Stmt := inClass (topS 23) 3
abbrev N_Need___eq__ : List Str := ["self", "other"]
abbrev P_Need___eq__ : List Str := ["self", "other"]
theorem sc_Need___eq__ : FnScope N_Need___eq__ P_Need___eq__ (defScope s_Need___eq__) := ⟨rfl, rfl, rfl, by decide +kernel, rfl, by decide +kernel, by decide +kernel⟩
section
variable {P : Program} {w : World} {K : PySem.W.Frag} {mg : Str → Option Value} {base : Heap} {f C : Addr} {fd : FuncData}
/-! ### value_at -/
def spValueAt (K : PySem.W.Frag) : Sp := fun vs H Q _ => ∃ (b c : Bool) (s k : Int) (r : Addr) (ps : List Addr) (rs : Rs), vs = [.int s, .ref r, .int k] ∧ Ris b c K H r ps rs ∧ Good (-1) rs ∧ Q (.int (s + Fs rs k)) H
theorem ok_value_at (F : FnP K "value_at" s_value_at f fd) : FnOk P w K mg base CX0 1 f fd P_value_at (spValueAt K) := by
  refine F.ok sc_value_at (fun vs H Q E h => ?_) (fun cdv A outer s H vs Q E hr h => ?_)
  · obtain ⟨b, c, s, k, r, ps, rs, rfl, _⟩ := h
    rfl
  · obtain ⟨b, c, s, k, r, ps, rs, rfl, hR, hg, q⟩ := h
    refine ⟨_, PSs.nox (pss_cons (ps_set (i := 3) sc_value_at.nd rfl (by first | exact .inl rfl | exact .inr rfl) (pv 0))
      (pss_cons (ps_for PassesOwn.never rfl (pi_seq (pv 1)) (pg_or (pg_unl rfl (pgs_cons (pg_name (i := 4) sc_value_at.nd rfl (by first | exact .inl rfl | exact .inr rfl)) (pgs_cons (pg_name (i := 5) sc_value_at.nd rfl (by first | exact .inl rfl | exact .inr rfl)) pgs_nil))) (pg_tup rfl (pgs_cons (pg_name (i := 4) sc_value_at.nd rfl (by first | exact .inl rfl | exact .inr rfl)) (pgs_cons (pg_name (i := 5) sc_value_at.nd rfl (by first | exact .inl rfl | exact .inr rfl)) pgs_nil))))
        (pss_cons (ps_if (pt_cmpR op_le (pv 2) (pv 4) (nomark _)) (pss_one ps_break) pss_nil)
      (pss_cons (ps_set (i := 6) sc_value_at.nd rfl (by first | exact .inl rfl | exact .inr rfl) (pe_ifExp (PW.pt (pw_or (pt_cmpR op_isN (pv 5) pe_non (nomark _)) (pw_or1 (pt_cmpR op_lt (pv 2) (pv 5) (nomark _))))) (pv 2) (pv 5)))
      (pss_one (ps_set (i := 3) sc_value_at.nd rfl (by first | exact .inl rfl | exact .inr rfl) (pe_op op_sub (pe_op op_add (pv 3) (pv 6)) (pv 4)))))))
      (pss_one (ps_ret (pv 3))))), ?_⟩
    walk_at "go"
    refine for_pairs (j := 1) hR (Same.refl H) (by rfl) (fun i σ H1 => H1 = H ∧ ∃ (x : Int) (v4 v5 v6 : Option V), x = s + Fs (rs.take i) k ∧ σ = [some (.int s), some (.ref r), some (.int k), some (.int x), v4, v5, v6]) ⟨rfl, s, none, none, none, ?_, rfl⟩ ?_ ?_ ?_
    · rw [List.take_zero, Fs_nil, Int.add_zero]
    · rintro i σ H1 ⟨rfl, _⟩
      exact Same.refl _
    · rintro i l h σ H1 hi ⟨rfl, x, v4, v5, v6, ex, rfl⟩
      walk_at "go"
      refine ite2 (fun e => ?_) (fun e => ?_)
      · have hk : k ≤ l := of_decide_eq_true e
        refine ⟨_, rfl, ?_⟩
        rw [ex, ← Fs_stop hg hi hk]
        exact q
      · have hk : ¬ k ≤ l := fun z => e (decide_eq_true z)
        have et := Fs_take (k := k) hi
        cases h with
        | none =>
          rw [rise_none (by omega)] at et
          walk_at "go"
          refine ⟨_, _, _, _, ?_, rfl⟩
          omega
        | some y =>
          rw [rise_some (by omega)] at et
          walk_at "go"
          refine ite2 (fun e2 => ?_) (fun e2 => ?_)
          · have hx : k < y := of_decide_eq_true e2
            rw [if_pos hx] at et
            walk_at "go"
            refine ⟨_, _, _, _, ?_, rfl⟩
            omega
          · have hx : ¬ k < y := fun z => e2 (decide_eq_true z)
            rw [if_neg hx] at et
            walk_at "go"
            refine ⟨_, _, _, _, ?_, rfl⟩
            omega
    · rintro σ H1 ⟨rfl, x, v4, v5, v6, ex, rfl⟩
      rw [List.take_length] at ex
      walk_at "go"
      rw [ex]
      exact q
/-! ### greatest_value -/
def tops : Option Int → Rs → Option Int
  | none, _ => none
  | some s, rs => top s rs
def Fit : Option Int → Rs → Prop
  | none, rs => rs = []
  | some _, rs => Good (-1) rs
def spGreatest (K : PySem.W.Frag) : Sp := fun vs H Q _ => ∃ (b c : Bool) (st : Option Int) (r : Addr) (ps : List Addr) (rs : Rs), vs = [oV st, .ref r] ∧ Ris b c K H r ps rs ∧ Fit st rs ∧ Q (oV (tops st rs)) H
theorem ok_greatest_value (F : FnP K "greatest_value" s_greatest_value f fd) (m_len : mg "len" = none) : FnOk P w K mg base CX0 1 f fd P_greatest_value (spGreatest K) := by
  refine F.ok sc_greatest_value (fun vs H Q E h => ?_) (fun cdv A outer s H vs Q E hr h => ?_)
  · obtain ⟨b, c, st, r, ps, rs, rfl, _⟩ := h
    rfl
  · obtain ⟨b, c, st, r, ps, rs, rfl, hR, hg, q⟩ := h
    refine ⟨_, PSs.nox (pss_cons (ps_if (pt_cmpR op_isN (pv 0) pe_non (nomark _)) (pss_cons (ps_if (pt_cmpR op_gt (pe_callB call_len_seq (by rfl) m_len PySem.boot_len (pa_cons (pv 1) pa_nil)) pe_int (nomark _)) (pss_one ps_never) pss_nil)
      (pss_one (ps_ret pe_non))) pss_nil)
      (pss_cons (ps_par (i := 2) (j := 3) (by rfl) sc_greatest_value.nd rfl rfl (by decide) rfl rfl (pa_cons (pv 0) (pa_cons (pe_un un_neg pe_int) pa_nil)) (by rfl))
      (pss_cons (ps_for PassesOwn.never rfl (pi_seq (pv 1)) (pg_or (pg_unl rfl (pgs_cons (pg_name (i := 4) sc_greatest_value.nd rfl (by first | exact .inl rfl | exact .inr rfl)) (pgs_cons (pg_name (i := 5) sc_greatest_value.nd rfl (by first | exact .inl rfl | exact .inr rfl)) pgs_nil))) (pg_tup rfl (pgs_cons (pg_name (i := 4) sc_greatest_value.nd rfl (by first | exact .inl rfl | exact .inr rfl)) (pgs_cons (pg_name (i := 5) sc_greatest_value.nd rfl (by first | exact .inl rfl | exact .inr rfl)) pgs_nil))))
        (pss_cons (ps_if (PW.pt (pw_or (pt_cmpR op_isN (pv 3) pe_non (nomark _)) (pw_or (pt_cmpR op_le (pv 4) (pv 3) (nomark _)) (pw_or1 (PW.pt (pw_and (pt_cmpR op_notN (pv 5) pe_non (nomark _)) (pw_and1 (pt_cmpR op_le (pv 5) (pv 4) (nomark _))))))))) (pss_one ps_never) pss_nil)
      (pss_cons (ps_set (i := 2) sc_greatest_value.nd rfl (by first | exact .inl rfl | exact .inr rfl) (pe_ifExp (pt_cmpR op_isN (pv 5) pe_non (nomark _)) pe_non (pe_op op_sub (pe_op op_add (pv 2) (pv 5)) (pv 4))))
      (pss_one (ps_set (i := 3) sc_greatest_value.nd rfl (by first | exact .inl rfl | exact .inr rfl) (pv 5))))))
      (pss_one (ps_ret (pv 2)))))), ?_⟩
    cases st with
    | none =>
      have hg : rs = [] := hg
      subst hg
      walk_at "go"
      refine ⟨r, _, rfl, hR.1.or, ?_⟩
      walk_at "go"
      have e0 : ps = [] := List.length_eq_zero_iff.mp hR.2.1
      subst e0
      walk_at "go"
      refine ite2 (fun e => ?_) (fun e => ?_)
      · cases e
      walk_at "go"
      exact q
    | some s =>
      have hg : Good (-1) rs := hg
      walk_at "go"
      refine for_pairs (j := 1) hR (Same.refl H) (by rfl) (fun i σ H1 => H1 = H ∧ ∃ (t e : Option Int) (v4 v5 : Option V), σ = [some (.int s), some (.ref r), some (oV t), some (oV e), v4, v5] ∧ match t, e with
        | some t, some e => Good e (rs.drop i) ∧ top t (rs.drop i) = top s rs
        | t, none => rs.drop i = [] ∧ t = none ∧ top s rs = none
        | none, some e => False) ⟨rfl, some s, some (-1), none, none, rfl, hg, rfl⟩ ?_ ?_ ?_
      · rintro i σ H1 ⟨rfl, _⟩
        exact Same.refl _
      · rintro i l h σ H1 hi ⟨rfl, t, e, v4, v5, rfl, z⟩
        have hd : rs.drop i = (l, h) :: rs.drop (i + 1) := by
          rw [List.drop_eq_getElem?_toList_append, hi]
          rfl
        rw [hd] at z
        cases e with
        | none => cases t <;> cases z.1
        | some e =>
          cases t with
          | none => cases z
          | some t =>
            obtain ⟨z1, z2⟩ := z
            have z0 : e < l := by cases h <;> exact z1.1
            walk_at "go"
            refine ite2 (fun e => ?_) (fun e => ?_)
            · have := of_decide_eq_true e
              omega
            · cases h with
              | none =>
                walk_at "go"
                exact ⟨none, none, _, _, rfl, z1.2, rfl, z2.symm⟩
              | some y =>
                walk_at "go"
                refine ite2 (fun e => ?_) (fun e => ?_)
                · have := of_decide_eq_true e
                  have := z1.2.1
                  omega
                · walk_at "go"
                  exact ⟨some (t + y - l), some y, _, _, rfl, z1.2.2, z2⟩
      · rintro σ H1 ⟨rfl, t, e, v4, v5, rfl, z⟩
        rw [List.drop_length] at z
        walk_at "go"
        have et : t = top s rs := by
          cases e with
          | none => cases t <;> rw [z.2.2] <;> first | rfl | exact z.2.1
          | some e =>
            cases t with
            | none => cases z
            | some t => exact z.2
        rw [et]
        exact q
end
end Z
set_option pp.maxSteps 700
set_option Elab.async false
set_option linter.all false
set_option maxRecDepth 100000
set_option maxHeartbeats 4000000
namespace Z
open Nd
open PySem PySem.Spec PyProof.Rows L2
open C8 (pss_cut tCut)
local macro_rules | `(tactic| walk_at "num") => `(tactic| first | rfl | omega | decide | exact Nat.le_of_lt (small1000 (by simp)) | exact ⟨by omega, by omega⟩ | exact ⟨by omega, by omega, by omega⟩ | exact ⟨by decide, by decide, by decide⟩ | exact Or.inl ⟨by omega, by omega⟩ | exact Or.inr ⟨by omega, by omega⟩)
local macro_rules | `(tactic| walk_at "go") => `(tactic| repeat (first | refine ⟨_, rfl, ?_⟩ | refine ⟨_, _, rfl, rfl, ?_⟩ | refine ⟨_, _, rfl, ?_⟩ | (refine ⟨_, _, rfl, rfl, ?_, ?_⟩; focus walk_at "num") | refine Or.inl ⟨_, rfl, ?_⟩ | refine ⟨_, _, _, _, rfl, rfl, (by assumption), (by rfl), ?_⟩ | refine ⟨_, _, _, _, _, rfl, (by assumption), (by assumption), (by assumption), (by rfl), ?_⟩ | refine ⟨rfl, ?_⟩ | (refine And.intro ?_ ?_; focus walk_at "num")))
/-- the comprehension that copies the pairs -/
theorem lc_copy {b c : Bool} {K : PySem.W.Frag} {a D : Addr} {ps : List Addr} {rs : Rs} {H0 : Hp} {i j : Nat} {te : TE} {vs : List Nat} {σ : L2.St} {Qd : Hp → Prop} (hR : Ris b c K H0 a ps rs) (hb : rs.length ≤ 100000) (nD : H0 D = none)
    (hw : ∀ x y : V, wipe (((wipe σ vs).set i (some x)).set j (some y)) vs = wipe σ vs)
    (ht : ∀ x y H1 (Q : VK), Same H0 H1 → (∀ T, H1 T = none → Q (.ref T) (upd H1 T (.tup [.int x, oV y]))) → te (((wipe σ vs).set i (some (.int x))).set j (some (oV y))) H1 Q)
    (hd : ∀ H1 (qs : List Addr), Same H0 H1 → H1 D = some (.lst (qs.map V.ref)) → qs.length = rs.length → (∀ (k : Nat) (p : Addr) (q : Int × Option Int), qs[k]? = some p → rs[k]? = some q → H1 p = some (.tup [.int q.1, oV q.2])) → Qd H1) : lcW (ItS b K a) (gPair K i j) tYes te vs σ D Qd H0 := by
  refine lc_gen (n := rs.length) (fun k H1 => Same H0 H1 ∧ ∃ qs : List Addr, H1 D = some (.lst (qs.map V.ref)) ∧ qs.length = k ∧ ∀ (k : Nat) (p : Addr) (q : Int × Option Int), qs[k]? = some p → rs[k]? = some q → H1 p = some (.tup [.int q.1, oV q.2])) ⟨same_new nD, [], upd_same, rfl, fun k p q h => nomatch h⟩ ?_ ?_ ?_ ?_
  · rintro k H1 hk ⟨s, _⟩
    have hi2 : k < ps.length := by rw [hR.2.1]; exact hk
    exact its_go (x := .ref ps[k]) (Z.Same.sqK s hR.1) (by rw [List.getElem?_map, List.getElem?_eq_getElem hi2]; rfl)
  · rintro H1 ⟨s, _⟩
    exact its_stop (Z.Same.sqK s hR.1) (by rw [List.length_map, hR.2.1]; exact Nat.le_refl _)
  · rintro k H1 v H' hk ⟨s, qs, eD, el, eq⟩ y
    obtain ⟨rfl, ex⟩ := its_yld (Z.Same.sqK s hR.1) y
    obtain ⟨p, ep, rfl⟩ := of_map ex
    have er : rs[k]? = some (rs[k].1, rs[k].2) := List.getElem?_eq_getElem hk
    refine gpair_of (Z.Same.sqK s (hR.2.2 k p _ ep er)) ⟨hw _ _, ?_⟩
    refine ht _ _ _ _ s (fun T nT => ?_)
    have sT : Same H' (upd H' T (.tup [.int rs[k].1, oV rs[k].2])) := same_new nT
    refine ⟨_, sT _ _ eD, ?_, ?_, qs ++ [T], ?_, ?_, ?_⟩
    · rw [List.length_map, el]
      exact Nat.lt_of_lt_of_le hk (Nat.le_trans hb (by decide))
    · exact Z.Same.mut (s.trans sT) nD
    · rw [upd_same, List.map_append]
      rfl
    · rw [List.length_append, el]
      rfl
    · intro k2 p2 q2 h1 h2
      have tD : T ≠ D := (ne_of_none eD nT).symm
      by_cases hlt : k2 < qs.length
      · rw [List.getElem?_append_left hlt] at h1
        have z := eq k2 p2 q2 h1 h2
        have pD : p2 ≠ D := fun e => by
          rw [e, eD] at z
          cases z
        rw [upd_ne pD]
        exact sT _ _ z
      · rw [List.getElem?_append_right (by omega)] at h1
        have h3 : k2 - qs.length = 0 := by
          have := (List.getElem?_eq_some_iff.mp h1).1
          simp at this
          omega
        rw [h3] at h1
        obtain rfl : T = p2 := Option.some.inj h1
        have h4 : k2 = k := by omega
        subst h4
        rw [er] at h2
        obtain rfl := Option.some.inj h2
        rw [upd_ne tD, upd_same]
  · rintro H1 ⟨s, qs, eD, el, eq⟩
    exact hd H1 qs s eD el eq
theorem sq_ins {b : Bool} {K : PySem.W.Frag} {H H' : Hp} {n C dx a : Addr} {fs : List (Str × V)} {xs : List V} (s : SB n H H') (hn : H n = some (.ins C dx fs)) (h : SqK b K H a xs) : SqK b K H' a xs := by
  have ne : ∀ {o : HO}, H a = some o → (∀ C dx fs, o ≠ .ins C dx fs) → a ≠ n := fun e z w => by
    rw [w, hn] at e
    exact z _ _ _ (Option.some.inj e).symm
  cases b
  · rcases h with (h | ⟨o, h⟩) | h
    · exact .inl (.inl (s _ _ (ne h fun _ _ _ => nofun) h))
    · exact .inl (.inr ⟨o, s _ _ (ne h fun _ _ _ => nofun) h⟩)
    · exact .inr h
  · rcases h with (h | ⟨o, h⟩) | h
    · exact .inl (.inl (s _ _ (ne h fun _ _ _ => nofun) h))
    · exact .inl (.inr ⟨o, s _ _ (ne h fun _ _ _ => nofun) h⟩)
    · exact .inr h
theorem Ris.ins {b c : Bool} {K : PySem.W.Frag} {H H' : Hp} {n C dx a : Addr} {fs : List (Str × V)} {ps : List Addr} {rs : Rs} (s : SB n H H') (hn : H n = some (.ins C dx fs)) (r : Ris b c K H a ps rs) : Ris b c K H' a ps rs := ⟨sq_ins s hn r.1, r.2.1, fun i p q h1 h2 => sq_ins s hn (r.2.2 i p q h1 h2)⟩
section
variable {P : Program} {w : World} {K : PySem.W.Frag} {mg : Str → Option Value} {base : Heap} {f C : Addr} {fd : FuncData}
def Ok (st : Option Int) (rs : Rs) (nv : Option Int) : Prop := Fit st rs ∧ (∀ s, st = some s → 0 ≤ s) ∧ ∀ v, nv = some v → ∃ t, tops st rs = some t ∧ t ≤ v
/-! ### Need.__init__ -/
def spInit (C : Addr) (K : PySem.W.Frag) : Sp := fun vs H Q _ => ∃ (b c : Bool) (st nv : Option Int) (n dx r : Addr) (ps : List Addr) (rs : Rs), vs = [.ref n, oV st, .ref r, oV nv] ∧ H n = some (.ins C dx []) ∧ Ris b c K H r ps rs ∧ rs.length ≤ 100000 ∧ Ok st rs nv ∧
  ∀ H', SB n H H' → NeedAt C K H' n st rs nv → Q .non H'
theorem ok_init (F : FnM K "__init__" "Need.__init__" s_Need___init__ f fd) (cls : Cls K C) (n_start : NoAttr K C "start") (n_rises : NoAttr K C "rises") (n_never : NoAttr K C "never") (m_tuple : mg "tuple" = none) (c_greatest_value : Cal P w K mg base 1 "greatest_value" (spGreatest K)) : FnOk P w K mg base CX0 2 f fd P_Need___init__ (spInit C K) := by
  refine F.ok sc_Need___init__ (fun vs H Q E h => ?_) (fun cdv A outer s H vs Q E hr h => ?_)
  · obtain ⟨b, c, st, nv, n, dx, r, ps, rs, rfl, _⟩ := h
    rfl
  · obtain ⟨b, c, st, nv, n, dx, r, ps, rs, rfl, hn, hR, hb, ok, q⟩ := h
    refine ⟨_, PSs.nox (pss_cut (ps_if (PW.pt (pw_and (pt_cmpR op_notN (pv 1) pe_non (nomark _)) (pw_and1 (pt_cmpR op_lt (pv 1) pe_int (nomark _))))) (pss_one ps_never) pss_nil)
      (pss_cons (ps_set (i := 4) sc_Need___init__.nd rfl (by first | exact .inl rfl | exact .inr rfl) (pe_cl c_greatest_value hr (by decide) (by rfl) (pa_cons (pv 1) (pa_cons (pv 2) pa_nil))))
      (pss_cut (ps_if (PW.pt (pw_and (pt_cmpR op_notN (pv 3) pe_non (nomark _)) (pw_and1 (PW.pt (pw_or (pt_cmpR op_isN (pv 4) pe_non (nomark _)) (pw_or1 (pt_cmpR op_lt (pv 3) (pv 4) (nomark _)))))))) (pss_one ps_never) pss_nil)
      (pss_cons (ps_fld (pv 0) (pv 1) rfl)
      (pss_cons (ps_fld (pv 0) (pe_callTy call_tuple_of (by rfl) m_tuple (by decide +kernel) (pa_cons (pe_lc (own := [("low", 5), ("high", 6)]) (g := (gOr (gUnl K 2 (gCons (gName 5) (gCons (gName 6) gNil))) (gTup K 2 (gCons (gName 5) (gCons (gName 6) gNil))))) (tt := tYes) (by rfl) sc_Need___init__.nd (pi_seq (pv 2)) (blkOk_by (own := [("low", 5), ("high", 6)]) (N := N_Need___init__) (sc := defScope s_Need___init__) (by decide +kernel)) (fun _ _ _ _ _ => (pg_or (pg_unl rfl (pgs_cons (pg_name (i := 5) sc_Need___init__.nd rfl (by first | exact .inl rfl | exact .inr rfl)) (pgs_cons (pg_name (i := 6) sc_Need___init__.nd rfl (by first | exact .inl rfl | exact .inr rfl)) pgs_nil))) (pg_tup rfl (pgs_cons (pg_name (i := 5) sc_Need___init__.nd rfl (by first | exact .inl rfl | exact .inr rfl)) (pgs_cons (pg_name (i := 6) sc_Need___init__.nd rfl (by first | exact .inl rfl | exact .inr rfl)) pgs_nil))))) (fun _ _ _ _ _ => pts_nil) (fun _ _ _ _ _ => (pe_tup (pa_cons (pv 5) (pa_cons (pv 6) pa_nil))))) pa_nil)) rfl)
      (pss_one (ps_fld (pv 0) (pv 3) rfl))))))), ?_⟩
    refine cut_stay ?_ ?_
    · cases st with
      | none =>
        walk_at "go"
        rfl
      | some s =>
        walk_at "go"
        refine ite2 (fun e => ?_) (fun e => ?_)
        · have := of_decide_eq_true e
          have := ok.2.1 s rfl
          omega
        · exact ⟨rfl, rfl⟩
    walk_at "go"
    refine ⟨b, c, st, r, ps, rs, rfl, hR, ok.1, ?_⟩
    walk_at "go"
    refine cut_stay ?_ ?_
    · cases nv with
      | none =>
        walk_at "go"
        rfl
      | some v =>
        obtain ⟨t, e1, e2⟩ := ok.2.2 v rfl
        rw [e1]
        walk_at "go"
        refine ite2 (fun e => ?_) (fun e => ?_)
        · have := of_decide_eq_true e
          omega
        · walk_at "go"
          rfl
    walk_at "go"
    refine ⟨n, C, dx, _, rfl, hn, cls, n_start, by decide, ?_⟩
    walk_at "go"
    have s1 : SB n H (upd H n (.ins C dx [("start", oV st)])) := SB.upd (fun _ _ _ h => h)
    refine iSeq_of (b := b) (fun Q q => ⟨_, rfl, q⟩) (hR.ins s1 hn).1 ?_
    intro D nD
    refine lc_copy (hR.ins s1 hn) hb nD (fun _ _ => rfl) ?_ ?_
    · intro x y H1 Q1 s2 q1
      walk_at "go"
      exact q1
    · intro H1 qs s2 eD el eq
      walk_at "go"
      refine ⟨D, _, rfl, .inl ⟨.inl (.inl eD), fun t nt => ?_⟩⟩
      walk_at "go"
      have s3 : Same H1 (upd H1 t (.tup (qs.map V.ref))) := same_new nt
      have hn3 := s3 _ _ (s2 _ _ upd_same)
      have nt' : t ≠ n := (ne_of_none (s2 _ _ upd_same) nt).symm
      refine ⟨n, C, dx, _, rfl, hn3, cls, n_rises, (by show (1 : Nat) < 1000; decide), ?_⟩
      walk_at "go"
      refine ⟨n, C, dx, _, rfl, upd_same, cls, n_never, (by show (2 : Nat) < 1000; decide), ?_⟩
      walk_at "go"
      refine q _ ?_ ?_
      · exact SB.upd (SB.upd ((s1.trans (Z.Same.sb s2)).trans (Z.Same.sb s3)))
      · refine ⟨dx, t, qs, upd_same, ⟨?_, el, fun i p q h1 h2 => ?_⟩, ?_⟩
        · exact .inl (.inl (by rw [upd_ne nt', upd_ne nt', upd_same]))
        · have z := eq i p q h1 h2
          have pt : p ≠ t := ne_of_none z nt
          have pn : p ≠ n := fun e => by
            rw [e, s2 _ _ upd_same] at z
            cases z
          exact .inl (.inl (by rw [upd_ne pn, upd_ne pn, upd_ne pt, z]))
        · rw [upd_ne nt', upd_ne nt', upd_same]
/-! ### Need(..) -/
def spNeed (C : Addr) (K : PySem.W.Frag) : Sp := fun vs H Q _ => ∃ (b c : Bool) (st nv : Option Int) (r : Addr) (ps : List Addr) (rs : Rs), vs = [oV st, .ref r, oV nv] ∧ Ris b c K H r ps rs ∧ rs.length ≤ 100000 ∧ Ok st rs nv ∧
  ∀ n H', Same H H' → H n = none → NeedAt C K H' n st rs nv → Q (.ref n) H'
theorem mak_need {si : FnOk P w K mg base CX0 2 f fd P_Need___init__ (spInit C K)} (M : Mk K C f) (hm : mg "Need" = some (.ref C)) (hb : Binds K fd P_Need___init__ []) : Mak P w K mg base 2 "Need" (spNeed C K) := by
  refine ⟨C, f, fd, _, _, M, si, hm, hb, ?_⟩
  rintro vs H Q E ⟨b, c, st, nv, r, ps, rs, rfl, hR, hl, ok, q⟩ n dx n1 n2 n3
  have s1 : Same H (upd (upd H dx (.own n)) n (.ins C dx [])) := Z.Same.mut (same_new n2) n1
  exact ⟨b, c, st, nv, n, dx, r, ps, rs, rfl, upd_same, hR.mono s1, hl, ok, fun H' z1 z2 => ⟨rfl, q n H' (fun a o h => z1 a o (ne_of_none h n1) (s1 a o h)) n1 z2⟩⟩
/-! ### value_for, a call -/
def spCallN (C : Addr) (K : PySem.W.Frag) : Sp := fun vs H Q _ => ∃ (st nv k : Option Int) (n : Addr) (rs : Rs), vs = [.ref n, oV k] ∧ NeedAt C K H n st rs nv ∧ Ok st rs nv ∧ (∀ i, k = some i → 0 ≤ i) ∧ Q (oV (val st rs nv k)) H
theorem ok_value_for (F : FnM K "value_for" "Need.value_for" s_Need_value_for f fd) (cls : Cls K C) (n_start : NoAttr K C "start") (n_rises : NoAttr K C "rises") (n_never : NoAttr K C "never") (c_value_at : Cal P w K mg base 1 "value_at" (spValueAt K)) : FnOk P w K mg base CX0 2 f fd P_Need_value_for (spCallN C K) := by
  refine F.ok sc_Need_value_for (fun vs H Q E h => ?_) (fun cdv A outer s H vs Q E hr h => ?_)
  · obtain ⟨st, nv, k, n, rs, rfl, _⟩ := h
    rfl
  · obtain ⟨st, nv, k, n, rs, rfl, ⟨dx, r, ps, hn, hR, _⟩, ok, hk, q⟩ := h
    refine ⟨_, PSs.nox (pss_cons (ps_if (PW.pt (pw_or (pt_cmpR op_isN (pv 1) pe_non (nomark _)) (pw_or1 (pt_cmpR op_isN (pe_fld (pv 0) rfl) pe_non (nomark _))))) (pss_one (ps_ret (pe_fld (pv 0) rfl))) pss_nil)
      (pss_one (ps_ret (pe_cl c_value_at hr (by decide) (by rfl) (pa_cons (pe_fld (pv 0) rfl) (pa_cons (pe_fld (pv 0) rfl) (pa_cons (pv 1) pa_nil))))))), ?_⟩
    cases st with
    | none =>
      cases k with
      | none =>
        walk_at "go"
        exact q
      | some i =>
        walk_at "go"
        exact q
    | some s =>
      cases k with
      | none =>
        walk_at "go"
        exact q
      | some i =>
        walk_at "go"
        refine ⟨_, _, s, i, r, ps, rs, rfl, hR, ok.1, ?_⟩
        exact q
theorem ok_call (F : FnM K "__call__" "Need.__call__" s_Need___call__ f fd) (me_value_for : Met P w K mg base 2 C "value_for" (spCallN C K)) : FnOk P w K mg base CX0 3 f fd P_Need___call__ (spCallN C K) := by
  refine F.ok sc_Need___call__ (fun vs H Q E h => ?_) (fun cdv A outer s H vs Q E hr h => ?_)
  · obtain ⟨st, nv, k, n, rs, rfl, _⟩ := h
    rfl
  · obtain ⟨st, nv, k, n, rs, rfl, hN, ok, hk, q⟩ := h
    have hN2 := hN
    obtain ⟨dx, r, ps, hn, hR, _⟩ := hN2
    refine ⟨_, PSs.nox (pss_cut (ps_if (PW.pt (pw_and (pt_cmpR op_notN (pv 1) pe_non (nomark _)) (pw_and1 (pt_cmpR op_lt (pv 1) pe_int (nomark _))))) (pss_one ps_never) pss_nil)
      (pss_one (ps_ret (pe_me me_value_for (pv 0) hr (by decide) (pa_cons (pv 1) pa_nil))))), ?_⟩
    refine cut_stay ?_ ?_
    · cases k with
      | none =>
        walk_at "go"
        rfl
      | some i =>
        walk_at "go"
        refine ite2 (fun e => ?_) (fun e => ?_)
        · have := of_decide_eq_true e
          have := hk i rfl
          omega
        · exact ⟨rfl, rfl⟩
    walk_at "go"
    refine ⟨n, dx, _, rfl, hn, rfl, ?_⟩
    walk_at "go"
    exact ⟨st, nv, k, n, rs, rfl, hN, ok, hk, q⟩
end
end Z
set_option pp.maxSteps 700
set_option Elab.async false
set_option linter.all false
set_option maxRecDepth 100000
set_option maxHeartbeats 4000000
namespace Z
open Nd
open PySem PySem.Spec PyProof.Rows L2
open C8 (pss_cut tCut)
local macro_rules | `(tactic| walk_at "num") => `(tactic| first | rfl | omega | decide | exact Nat.le_of_lt (small1000 (by simp)) | exact ⟨by omega, by omega⟩ | exact ⟨by omega, by omega, by omega⟩ | exact ⟨by decide, by decide, by decide⟩ | exact Or.inl ⟨by omega, by omega⟩ | exact Or.inr ⟨by omega, by omega⟩)
local macro_rules | `(tactic| walk_at "go") => `(tactic| repeat (first | refine ⟨_, rfl, ?_⟩ | refine ⟨_, _, rfl, rfl, ?_⟩ | refine ⟨_, _, rfl, ?_⟩ | (refine ⟨_, _, rfl, rfl, ?_, ?_⟩; focus walk_at "num") | refine Or.inl ⟨_, rfl, ?_⟩ | refine ⟨_, _, _, _, rfl, rfl, (by assumption), (by rfl), ?_⟩ | refine ⟨_, _, _, _, _, rfl, (by assumption), (by assumption), (by assumption), (by rfl), ?_⟩ | refine ⟨rfl, ?_⟩ | (refine And.intro ?_ ?_; focus walk_at "num")))
/-! ### == of pairs, of needs -/
def oD : Option Int → PyData
  | none => .none
  | some i => .int i
def pairD (c : Bool) (q : Int × Option Int) : PyData := match c with
  | true => .list [.int q.1, oD q.2]
  | false => .tuple [.int q.1, oD q.2]
def risD (b c : Bool) (rs : Rs) : PyData := match b with
  | true => .list (rs.map (pairD c))
  | false => .tuple (rs.map (pairD c))
theorem dp_o {K : PySem.W.Frag} {H : Hp} : ∀ o : Option Int, Dp K H (oV o) (oD o)
  | none => .non
  | some i => .int i
theorem dpa_pair {K : PySem.W.Frag} {H : Hp} (q : Int × Option Int) : DpAll K H [.int q.1, oV q.2] [.int q.1, oD q.2] := .cons (.int _) (.cons (dp_o _) .nil)
theorem dp_pair {c : Bool} {K : PySem.W.Frag} {H : Hp} {p : Addr} {q : Int × Option Int} (h : SqK c K H p [.int q.1, oV q.2]) : Dp K H (.ref p) (pairD c q) := by
  cases c
  · exact dp_sq (b := false) h (dpa_pair q)
  · exact dp_sq (b := true) h (dpa_pair q)
theorem dpa_ris {c : Bool} {K : PySem.W.Frag} {H : Hp} : ∀ (ps : List Addr) (rs : Rs), ps.length = rs.length → (∀ (i : Nat) (p : Addr) (q : Int × Option Int), ps[i]? = some p → rs[i]? = some q → SqK c K H p [.int q.1, oV q.2]) → DpAll K H (ps.map V.ref) (rs.map (pairD c))
  | [], [], _, _ => .nil
  | p :: ps, r :: rs, hl, h => .cons (dp_pair (h 0 p r rfl rfl)) (dpa_ris ps rs (by simpa using hl) fun i q s h1 h2 => h (i + 1) q s h1 h2)
theorem Ris.dp {b c : Bool} {K : PySem.W.Frag} {H : Hp} {a : Addr} {ps : List Addr} {rs : Rs} (m : Ris b c K H a ps rs) : Dp K H (.ref a) (risD b c rs) := by
  cases b
  · exact dp_sq (b := false) m.1 (dpa_ris ps rs m.2.1 m.2.2)
  · exact dp_sq (b := true) m.1 (dpa_ris ps rs m.2.1 m.2.2)
theorem shaped_pair (c : Bool) (q : Int × Option Int) : SeqAt.shaped (pairD c q) = true := by
  obtain ⟨l, h⟩ := q
  cases c <;> cases h <;> rfl
theorem dep_pair (c : Bool) (q : Int × Option Int) : (pairD c q).depth = 1 := by
  obtain ⟨l, h⟩ := q
  cases c <;> cases h <;> rfl
theorem lay_ris (c : Bool) : ∀ rs : Rs, PyData.canLayAll0 (rs.map (pairD c)) = true
  | [] => rfl
  | n :: r => by
    rw [List.map_cons, PyData.canLayAll0, lay_ris c r, SeqAt.canLay_of_shaped (shaped_pair c n)]
    rfl
theorem dep_ris (c : Bool) : ∀ rs : Rs, PyData.depthAll (rs.map (pairD c)) ≤ 1
  | [] => Nat.zero_le _
  | n :: r => by
    rw [List.map_cons, PyData.depthAll]
    have h := dep_ris c r
    have h2 := dep_pair c n
    omega
theorem shaped_ris (b c : Bool) (rs : Rs) : SeqAt.shaped (risD b c rs) = true := by
  have h := dep_ris c rs
  unfold SeqAt.shaped risD
  cases b
  · show (PyData.canLayAll0 (rs.map (pairD c)) && decide (PyData.depthAll (rs.map (pairD c)) + 1 ≤ 64)) = true
    rw [lay_ris, decide_eq_true (by omega)]
    rfl
  · show (PyData.canLayAll0 (rs.map (pairD c)) && decide (PyData.depthAll (rs.map (pairD c)) + 1 ≤ 64)) = true
    rw [lay_ris, decide_eq_true (by omega)]
    rfl
section
variable {P : Program} {w : World} {K : PySem.W.Frag} {mg : Str → Option Value} {base : Heap} {f C : Addr} {fd : FuncData}
def spEq (C : Addr) (K : PySem.W.Frag) : Sp := fun vs H Q _ => ∃ (st nv : Option Int) (n m : Addr) (rs : Rs), vs = [.ref n, .ref m] ∧ NeedAt C K H n st rs nv ∧ NeedAt C K H m st rs nv ∧ Q (.bl true) H
theorem ok_eq (F : FnM K "__eq__" "Need.__eq__" s_Need___eq__ f fd) (isC : C8.InsC K C) (m_isinstance : mg "isinstance" = none) (g_Need : mg "Need" = some (.ref C)) (cls : Cls K C) (n_start : NoAttr K C "start") (n_rises : NoAttr K C "rises") (n_never : NoAttr K C "never") : FnOk P w K mg base CX0 1 f fd P_Need___eq__ (spEq C K) := by
  refine F.ok sc_Need___eq__ (fun vs H Q E h => ?_) (fun cdv A outer s H vs Q E hr h => ?_)
  · obtain ⟨st, nv, n, m, rs, rfl, _⟩ := h
    rfl
  · obtain ⟨st, nv, n, m, rs, rfl, ⟨dx, r, ps, hn, hR, _⟩, ⟨dx', r', ps', hm, hR', _⟩, q⟩ := h
    refine ⟨_, PSs.nox (pss_one (ps_ret (pe_and (pe_callB (C8.call_isC isC) (by rfl) m_isinstance (by decide +kernel) (pa_cons (pv 1) (pa_cons (pe_glob (by rfl) g_Need relv_ref) pa_nil))) (pe_and (pe_cmpR op_eq (pe_fld (pv 0) rfl) (pe_fld (pv 1) rfl) (nomark _)) (pe_and (pe_cmpR (op_eqD hr.units) (pe_fld (pv 0) rfl) (pe_fld (pv 1) rfl) (nomark _)) (pe_one (pe_cmpR op_eq (pe_fld (pv 0) rfl) (pe_fld (pv 1) rfl) (nomark _)))))))), ?_⟩
    walk_at "go"
    refine ⟨m, dx', _, rfl, hm, ?_⟩
    walk_at "go"
    refine ⟨(by cases st <;> rfl), ?_⟩
    walk_at "go"
    refine ite2 (fun _ => ?_) (fun e => absurd (decide_eq_true rfl) e)
    walk_at "go"
    refine same2 (d := risD false false rs) hR.dp hR'.dp (shaped_ris _ _ _) ?_
    rw [eqv_same (shaped_ris _ _ _)]
    walk_at "go"
    refine ⟨(by cases nv <;> rfl), ?_⟩
    rw [decide_eq_true rfl]
    walk_at "go"
    exact q
end
end Z
set_option pp.maxSteps 700
set_option Elab.async false
set_option linter.all false
set_option maxRecDepth 100000
set_option maxHeartbeats 4000000
namespace Z
open Nd
open PySem PySem.Spec PyProof.Rows L2
open C8 (pss_cut tCut)
local macro_rules | `(tactic| walk_at "num") => `(tactic| first | rfl | omega | decide | exact Nat.le_of_lt (small1000 (by simp)) | exact ⟨by omega, by omega⟩ | exact ⟨by omega, by omega, by omega⟩ | exact ⟨by decide, by decide, by decide⟩ | exact Or.inl ⟨by omega, by omega⟩ | exact Or.inr ⟨by omega, by omega⟩)
local macro_rules | `(tactic| walk_at "go") => `(tactic| repeat (first | refine ⟨_, rfl, ?_⟩ | refine ⟨_, _, rfl, rfl, ?_⟩ | refine ⟨_, _, rfl, ?_⟩ | (refine ⟨_, _, rfl, rfl, ?_, ?_⟩; focus walk_at "num") | refine Or.inl ⟨_, rfl, ?_⟩ | refine ⟨_, _, _, _, rfl, rfl, (by assumption), (by rfl), ?_⟩ | refine ⟨_, _, _, _, _, rfl, (by assumption), (by assumption), (by assumption), (by rfl), ?_⟩ | refine ⟨rfl, ?_⟩ | (refine And.intro ?_ ?_; focus walk_at "num")))
abbrev s_value : Stmt := topS 29
abbrev N_value : List Str := ["_law_need_here", "_law_k", "_law_value_here", "_law_pair"]
abbrev P_value : List Str := ["_law_need_here", "_law_k"]
theorem sc_value : FnScope N_value P_value (defScope s_value) := ⟨rfl, rfl, rfl, by decide +kernel, rfl, by decide +kernel, by decide +kernel⟩
abbrev s_same : Stmt := topS 30
abbrev N_same : List Str := ["_law_told", "_law_due"]
abbrev P_same : List Str := ["_law_told", "_law_due"]
theorem sc_same : FnScope N_same P_same (defScope s_same) := ⟨rfl, rfl, rfl, by decide +kernel, rfl, by decide +kernel, by decide +kernel⟩
abbrev s_at_most : Stmt := topS 31
abbrev N_at_most : List Str := ["_law_a", "_law_b"]
abbrev P_at_most : List Str := ["_law_a", "_law_b"]
theorem sc_at_most : FnScope N_at_most P_at_most (defScope s_at_most) := ⟨rfl, rfl, rfl, by decide +kernel, rfl, by decide +kernel, by decide +kernel⟩
abbrev s_make : Stmt := topS 32
abbrev N_make : List Str := ["_law_need_here"]
abbrev P_make : List Str := ["_law_need_here"]
theorem sc_make : FnScope N_make P_make (defScope s_make) := ⟨rfl, rfl, rfl, by decide +kernel, rfl, by decide +kernel, by decide +kernel⟩
theorem ris_nil {c : Bool} {K : PySem.W.Frag} {H : Hp} {a : Addr} (h : SqT K H a []) : Ris false c K H a [] [] := ⟨h, rfl, fun i p q h => nomatch h⟩
theorem ris_one {c : Bool} {K : PySem.W.Frag} {H : Hp} {a p : Addr} {x : Int} {y : Option Int} (h : SqT K H a [.ref p]) (h2 : SqK c K H p [.int x, oV y]) : Ris false c K H a [p] [(x, y)] := by
  refine ⟨h, rfl, fun i p2 q h3 h4 => ?_⟩
  cases i with
  | zero =>
    obtain rfl := Option.some.inj h3
    obtain rfl := Option.some.inj h4
    exact h2
  | succ i => cases h3
section
variable {P : Program} {w : World} {K : PySem.W.Frag} {mg : Str → Option Value} {base : Heap} {f C : Addr} {fd : FuncData}
/-- the law's own need: a list [start, rises, never] -/
def NL (K : PySem.W.Frag) (H : Hp) (l : Addr) (st : Option Int) (rs : Rs) (nv : Option Int) : Prop := ∃ t ps, SqL K H l [oV st, .ref t, oV nv] ∧ Ris false false K H t ps rs
theorem NL.mono {K : PySem.W.Frag} {H H' : Hp} {l : Addr} {st nv : Option Int} {rs : Rs} (s : Same H H') (h : NL K H l st rs nv) : NL K H' l st rs nv := by
  obtain ⟨t, ps, e, h2⟩ := h
  exact ⟨t, ps, s.seq e, h2.mono s⟩
/-! ### _law_value -/
def spLV (K : PySem.W.Frag) : Sp := fun vs H Q _ => ∃ (st nv k : Option Int) (l : Addr) (rs : Rs), vs = [.ref l, oV k] ∧ NL K H l st rs nv ∧ Q (oV (val st rs nv k)) H
theorem ok_value (F : FnP K "_law_value" s_value f fd) : FnOk P w K mg base CX0 1 f fd P_value (spLV K) := by
  refine F.ok sc_value (fun vs H Q E h => ?_) (fun cdv A outer s H vs Q E hr h => ?_)
  · obtain ⟨st, nv, k, l, rs, rfl, _⟩ := h
    rfl
  · obtain ⟨st, nv, k, l, rs, rfl, ⟨t, ps, hl, hR⟩, q⟩ := h
    refine ⟨_, PSs.nox (pss_cons (ps_if (PW.pt (pw_or (pt_cmpR op_isN (pv 1) pe_non (nomark _)) (pw_or1 (pt_cmpR op_isN (pe_ix ix_list (pv 0) pe_int (fun _ _ => rfl)) pe_non (nomark _))))) (pss_one (ps_ret (pe_ix ix_list (pv 0) pe_int (fun _ _ => rfl)))) pss_nil)
      (pss_cons (ps_set (i := 2) sc_value.nd rfl (by first | exact .inl rfl | exact .inr rfl) (pe_ix ix_list (pv 0) pe_int (fun _ _ => rfl)))
      (pss_cons (ps_for PassesOwn.never rfl (pi_tup (pe_ix ix_list (pv 0) pe_int (fun _ _ => rfl))) (pg_name (i := 3) sc_value.nd rfl (by first | exact .inl rfl | exact .inr rfl))
        (pss_one (ps_if (PW.pt (pw_and (pt_cmpR op_gt (pv 1) (pe_ix ix_tup (pv 3) pe_int (fun _ _ => rfl)) (nomark _)) (pw_and1 (PW.pt (pw_or (pt_cmpR op_isN (pe_ix ix_tup (pv 3) pe_int (fun _ _ => rfl)) pe_non (nomark _)) (pw_or1 (pt_cmpR op_lt (pv 1) (pe_ix ix_tup (pv 3) pe_int (fun _ _ => rfl)) (nomark _)))))))) (pss_one (ps_set (i := 2) sc_value.nd rfl (by first | exact .inl rfl | exact .inr rfl) (pe_op op_sub (pe_op op_add (pv 2) (pv 1)) (pe_ix ix_tup (pv 3) pe_int (fun _ _ => rfl))))) (pss_one (ps_if (pt_cmpR op_gt (pv 1) (pe_ix ix_tup (pv 3) pe_int (fun _ _ => rfl)) (nomark _)) (pss_one (ps_set (i := 2) sc_value.nd rfl (by first | exact .inl rfl | exact .inr rfl) (pe_op op_sub (pe_op op_add (pv 2) (pe_ix ix_tup (pv 3) pe_int (fun _ _ => rfl))) (pe_ix ix_tup (pv 3) pe_int (fun _ _ => rfl))))) pss_nil)))))
      (pss_one (ps_ret (pv 2)))))), ?_⟩
    cases st with
    | none =>
      cases k with
      | none =>
        walk_at "go"
        exact q
      | some i =>
        walk_at "go"
        exact q
    | some s =>
      cases k with
      | none =>
        walk_at "go"
        exact q
      | some k =>
        walk_at "go"
        refine ⟨⟨_, hR.1⟩, ?_⟩
        refine for_prs hR (fun i σ H1 => H1 = H ∧ ∃ (x : Int) (v3 : Option V), x = s + Fs (rs.take i) k ∧ σ = [some (.ref l), some (.int k), some (.int x), v3]) ⟨rfl, s, none, ?_, rfl⟩ ?_ ?_ ?_
        · rw [List.take_zero, Fs_nil, Int.add_zero]
        · rintro i σ H1 ⟨rfl, _⟩
          exact Same.refl _
        · rintro i p lo h σ H1 hi hp ⟨rfl, x, v3, ex, rfl⟩
          have hp : SqT K H1 p [.int lo, oV h] := hp
          have et := Fs_take (k := k) hi
          walk_at "go"
          refine ite2 (fun e => ?_) (fun e => ?_)
          · have hk : lo < k := of_decide_eq_true e
            cases h with
            | none =>
              rw [rise_none (by omega)] at et
              walk_at "go"
              refine ⟨_, _, ?_, rfl⟩
              omega
            | some y =>
              rw [rise_some (by omega)] at et
              walk_at "go"
              refine ite2 (fun e2 => ?_) (fun e2 => ?_)
              · have hx : k < y := of_decide_eq_true e2
                rw [if_pos hx] at et
                walk_at "go"
                refine ⟨_, _, ?_, rfl⟩
                omega
              · have hx : ¬ k < y := fun z => e2 (decide_eq_true z)
                rw [if_neg hx] at et
                walk_at "go"
                refine ite2 (fun e3 => ?_) (fun e3 => absurd (decide_eq_true hk) e3)
                walk_at "go"
                refine ⟨_, _, ?_, rfl⟩
                omega
          · have hk : ¬ lo < k := fun z => e (decide_eq_true z)
            rw [rise_zero (show k ≤ (lo, h).1 by show k ≤ lo; omega)] at et
            walk_at "go"
            refine ite2 (fun e3 => absurd (of_decide_eq_true e3) hk) (fun e3 => ?_)
            refine ⟨rfl, _, _, ?_, rfl⟩
            omega
        · rintro σ H1 ⟨rfl, x, v3, ex, rfl⟩
          rw [List.take_length] at ex
          walk_at "go"
          rw [ex]
          exact q
/-! ### _law_same, _law_at_most -/
def spSame : Sp := fun vs H Q _ => ∃ a : Option Int, vs = [oV a, oV a] ∧ Q (.bl true) H
theorem ok_same (F : FnP K "_law_same" s_same f fd) (m_isinstance : mg "isinstance" = none) (m_int : mg "int" = none) (m_bool : mg "bool" = none) : FnOk P w K mg base CX0 1 f fd P_same spSame := by
  refine F.ok sc_same (fun vs H Q E h => ?_) (fun cdv A outer s H vs Q E hr h => ?_)
  · obtain ⟨a, rfl, _⟩ := h
    rfl
  · obtain ⟨a, rfl, q⟩ := h
    refine ⟨_, PSs.nox (pss_cons (ps_if (pt_cmpR op_isN (pv 1) pe_non (nomark _)) (pss_one (ps_ret (pe_cmpR op_isN (pv 0) pe_non (nomark _)))) pss_nil)
      (pss_one (ps_ret (pe_and (pe_callB call_isi (by rfl) m_isinstance (by decide +kernel) (pa_cons (pv 0) (pa_cons (pe_bltn (v := .ty "int") (by rfl) m_int (by decide +kernel) rfl) pa_nil))) (pe_and (pe_not (pe_callB call_isi (by rfl) m_isinstance (by decide +kernel) (pa_cons (pv 0) (pa_cons (pe_bltn (v := .ty "bool") (by rfl) m_bool (by decide +kernel) rfl) pa_nil)))) (pe_one (pe_cmpR op_eq (pv 0) (pv 1) (nomark _)))))))), ?_⟩
    cases a with
    | none =>
      walk_at "go"
      exact q
    | some i =>
      walk_at "go"
      refine isi (c := "int") (b := true) (.int i) (by decide +kernel) ?_
      walk_at "go"
      refine isi (c := "bool") (b := false) (.int i) (by decide +kernel) ?_
      walk_at "go"
      rw [decide_eq_true rfl]
      exact q
def am : Option Int → Option Int → Bool
  | _, none => true
  | none, some _ => false
  | some x, some y => decide (x ≤ y)
def spAm : Sp := fun vs H Q _ => ∃ a b : Option Int, vs = [oV a, oV b] ∧ Q (.bl (am a b)) H
theorem ok_at_most (F : FnP K "_law_at_most" s_at_most f fd) : FnOk P w K mg base CX0 1 f fd P_at_most spAm := by
  refine F.ok sc_at_most (fun vs H Q E h => ?_) (fun cdv A outer s H vs Q E hr h => ?_)
  · obtain ⟨a, b, rfl, _⟩ := h
    rfl
  · obtain ⟨a, b, rfl, q⟩ := h
    refine ⟨_, PSs.nox (pss_cons (ps_if (pt_cmpR op_isN (pv 1) pe_non (nomark _)) (pss_one (ps_ret pe_bl)) pss_nil)
      (pss_one (ps_ret (pe_and (pe_cmpR op_notN (pv 0) pe_non (nomark _)) (pe_one (pe_cmpR op_le (pv 0) (pv 1) (nomark _))))))), ?_⟩
    cases b with
    | none =>
      walk_at "go"
      cases a <;> exact q
    | some y =>
      cases a with
      | none =>
        walk_at "go"
        exact q
      | some x =>
        walk_at "go"
        exact q
/-! ### _law_make, _law_sound -/
def spMake (C : Addr) (K : PySem.W.Frag) : Sp := fun vs H Q _ => ∃ (st nv : Option Int) (l : Addr) (rs : Rs), vs = [.ref l] ∧ NL K H l st rs nv ∧ Ok st rs nv ∧ rs.length ≤ 100000 ∧ ∀ n H', Same H H' → NeedAt C K H' n st rs nv → Q (.ref n) H'
theorem ok_make (F : FnP K "_law_make" s_make f fd) (k_Need : Mak P w K mg base 2 "Need" (spNeed C K)) : FnOk P w K mg base CX0 4 f fd P_make (spMake C K) := by
  refine F.ok sc_make (fun vs H Q E h => ?_) (fun cdv A outer s H vs Q E hr h => ?_)
  · obtain ⟨st, nv, l, rs, rfl, _⟩ := h
    rfl
  · obtain ⟨st, nv, l, rs, rfl, ⟨t, ps, hl, hR⟩, ok, hb, q⟩ := h
    refine ⟨_, PSs.nox (pss_one (ps_ret (pe_mk k_Need hr (by decide) (by rfl) (pa_cons (pe_ix ix_list (pv 0) pe_int (fun _ _ => rfl)) (pa_cons (pe_ix ix_list (pv 0) pe_int (fun _ _ => rfl)) (pa_cons (pe_ix ix_list (pv 0) pe_int (fun _ _ => rfl)) pa_nil)))))), ?_⟩
    walk_at "go"
    exact ⟨false, false, st, nv, t, ps, rs, rfl, hR, hb, ok, fun n H' s1 _ h1 => q n H' s1 h1⟩
end
end Z
set_option pp.maxSteps 700
set_option Elab.async false
set_option linter.all false
set_option maxRecDepth 100000
set_option maxHeartbeats 4000000
namespace Z
open Nd
open PySem PySem.Spec PyProof.Rows L2
open C8 (pss_cut tCut)
local macro_rules | `(tactic| walk_at "num") => `(tactic| first | rfl | omega | decide | exact Nat.le_of_lt (small1000 (by simp)) | exact ⟨by omega, by omega⟩ | exact ⟨by omega, by omega, by omega⟩ | exact ⟨by decide, by decide, by decide⟩ | exact Or.inl ⟨by omega, by omega⟩ | exact Or.inr ⟨by omega, by omega⟩)
local macro_rules | `(tactic| walk_at "go") => `(tactic| repeat (first | refine ⟨_, rfl, ?_⟩ | refine ⟨_, _, rfl, rfl, ?_⟩ | refine ⟨_, _, rfl, ?_⟩ | (refine ⟨_, _, rfl, rfl, ?_, ?_⟩; focus walk_at "num") | refine Or.inl ⟨_, rfl, ?_⟩ | refine ⟨_, _, _, _, rfl, rfl, (by assumption), (by rfl), ?_⟩ | refine ⟨_, _, _, _, _, rfl, (by assumption), (by assumption), (by assumption), (by rfl), ?_⟩ | refine ⟨rfl, ?_⟩ | (refine And.intro ?_ ?_; focus walk_at "num")))
def LOk (st : Option Int) (rs : Rs) (nv : Option Int) : Prop := Ok st rs nv ∧ rs.length ≤ 10 ∧ (∀ s, st = some s → bnd s rs ≤ 10 ^ 39) ∧ ∀ v, nv = some v → v ≤ 10 ^ 40
theorem LOk.good {st nv : Option Int} {rs : Rs} (h : LOk st rs nv) : Good (-1) rs := by
  cases st with
  | none =>
    have : rs = [] := h.1.1
    rw [this]
    trivial
  | some s => exact h.1.1
theorem LOk.nv {rs : Rs} {nv : Option Int} (h : LOk none rs nv) : nv = none := by
  cases nv with
  | none => rfl
  | some v =>
    obtain ⟨t, e, _⟩ := h.1.2.2 v rfl
    cases e
theorem good_at : ∀ {rs : Rs} {e : Int} {i : Nat} {l : Int} {h : Option Int}, Good e rs → rs[i]? = some (l, h) → e < l ∧ ∀ y, h = some y → l < y
  | [], _, i, _, _, _, z => by cases i <;> cases z
  | (l, none) :: r, e, 0, _, _, g, z => by
    cases z
    exact ⟨g.1, nofun⟩
  | (l, some x) :: r, e, 0, _, _, g, z => by
    cases z
    exact ⟨g.1, fun y hy => by cases hy; exact g.2.1⟩
  | (l, none) :: r, e, i + 1, _, _, g, z => by
    have : r = [] := g.2
    subst this
    cases i <;> cases z
  | (l, some x) :: r, e, i + 1, _, _, g, z => by
    have g1 := g.1
    have g2 := g.2.1
    have ih := good_at (i := i) g.2.2 z
    exact ⟨by omega, ih.2⟩
end Z
set_option pp.maxSteps 700
set_option Elab.async false
set_option linter.all false
set_option maxRecDepth 100000
set_option maxHeartbeats 4000000
namespace Z
open Nd
open PySem PySem.Spec PyProof.Rows L2
open C8 (pss_cut tCut)
local macro_rules | `(tactic| walk_at "num") => `(tactic| first | rfl | omega | decide | exact Nat.le_of_lt (small1000 (by simp)) | exact ⟨by omega, by omega⟩ | exact ⟨by omega, by omega, by omega⟩ | exact ⟨by decide, by decide, by decide⟩ | exact Or.inl ⟨by omega, by omega⟩ | exact Or.inr ⟨by omega, by omega⟩)
local macro_rules | `(tactic| walk_at "go") => `(tactic| repeat (first | refine ⟨_, rfl, ?_⟩ | refine ⟨_, _, rfl, rfl, ?_⟩ | refine ⟨_, _, rfl, ?_⟩ | (refine ⟨_, _, rfl, rfl, ?_, ?_⟩; focus walk_at "num") | refine Or.inl ⟨_, rfl, ?_⟩ | refine ⟨_, _, _, _, rfl, rfl, (by assumption), (by rfl), ?_⟩ | refine ⟨_, _, _, _, _, rfl, (by assumption), (by assumption), (by assumption), (by rfl), ?_⟩ | refine ⟨rfl, ?_⟩ | (refine And.intro ?_ ?_; focus walk_at "num")))
abbrev s_need : Stmt := topS 28
abbrev N_need : List Str := ["_law_draws_here", "_law_place", "_law_kind", "_law_start", "_law_rises", "_law_top", "_law_edge", "_law_k", "_law_width", "_law_never"]
abbrev P_need : List Str := ["_law_draws_here", "_law_place"]
theorem sc_need : FnScope N_need P_need (defScope s_need) := ⟨rfl, rfl, rfl, by decide +kernel, rfl, by decide +kernel, by decide +kernel⟩
/-! ### closed pairs, ending before z -/
def Gd : Int → Rs → Int → Prop
  | e, [], z => e < z
  | e, (l, some h) :: r, z => e < l ∧ l < h ∧ Gd h r z
  | _, (_, none) :: _, _ => False
theorem Gd.good : ∀ {rs : Rs} {e z : Int}, Gd e rs z → Good e rs
  | [], _, _, _ => trivial
  | (_, some _) :: _, _, _, g => ⟨g.1, g.2.1, g.2.2.good⟩
  | (_, none) :: _, _, _, g => by cases g
theorem Gd.snoc : ∀ {rs : Rs} {e z h z' : Int}, Gd e rs z → z < h → h < z' → Gd e (rs ++ [(z, some h)]) z'
  | [], _, _, _, _, g, a, b => ⟨g, a, b⟩
  | (_, some _) :: _, _, _, _, _, g, a, b => ⟨g.1, g.2.1, g.2.2.snoc a b⟩
  | (_, none) :: _, _, _, _, _, g, _, _ => by cases g
theorem Gd.opened : ∀ {rs : Rs} {e z l : Int} {h : Option Int}, Gd e (rs ++ [(l, h)]) z → Good e (rs ++ [(l, none)])
  | [], _, _, _, some _, g => ⟨g.1, rfl⟩
  | [], _, _, _, none, g => by cases g
  | (_, some _) :: _, _, _, _, _, g => ⟨g.1, g.2.1, g.2.2.opened⟩
  | (_, none) :: _, _, _, _, _, g => by cases g
theorem top_snoc : ∀ {rs : Rs} {e z t T h : Int}, Gd e rs z → top t rs = some T → top t (rs ++ [(z, some h)]) = some (T + h - z)
  | [], _, z, t, T, h, _, e => by
    cases e
    rfl
  | (_, some _) :: r, _, _, _, _, _, g, e => top_snoc (rs := r) g.2.2 e
  | (_, none) :: _, _, _, _, _, _, g, _ => by cases g
theorem bnd_closed : ∀ {rs : Rs} {e z t T : Int}, Gd e rs z → top t rs = some T → bnd t rs = T
  | [], _, _, _, _, _, e => Option.some.inj e
  | (_, some _) :: r, _, _, _, _, g, e => bnd_closed (rs := r) g.2.2 e
  | (_, none) :: _, _, _, _, _, g, _ => by cases g
theorem bnd_open : ∀ {rs : Rs} {e z t T l : Int} {h : Option Int}, Gd e (rs ++ [(l, h)]) z → top t (rs ++ [(l, h)]) = some T → bnd t (rs ++ [(l, none)]) ≤ max T l ∧ l < z
  | [], e, z, t, T, l, some h, g, k => by
    have k : t + h - l = T := Option.some.inj k
    have g1 := g.2.1
    have g2 : h < z := g.2.2
    show (if l > t then l else t) ≤ _ ∧ _
    split <;> omega
  | [], _, _, _, _, _, none, g, _ => by cases g
  | (_, some _) :: r, _, _, _, _, _, _, g, k => bnd_open (rs := r) g.2.2 k
  | (_, none) :: _, _, _, _, _, _, _, g, _ => by cases g
/-! ### the draws -/
structure Tk (K : PySem.W.Frag) (a p : Addr) (ds : List Int) (n : Nat) (H0 H1 : Hp) : Prop where
  hA : H1 a = some (.lst (ds.map V.int))
  hd : Dr n ds
  ne : a ≠ p
  sb : SB p H0 H1
  pl : ∃ m : Nat, H1 p = some (.lst [.int (m : Int)])
theorem Tk.more {K : PySem.W.Frag} {a p : Addr} {ds : List Int} {n : Nat} {H0 H1 H2 : Hp} (t : Tk K a p ds n H0 H1) (s : Same H1 H2) : Tk K a p ds n H0 H2 := by
  obtain ⟨m, e⟩ := t.pl
  exact ⟨s _ _ t.hA, t.hd, t.ne, t.sb.trans (Z.Same.sb s), m, s _ _ e⟩
theorem Tk.mut {K : PySem.W.Frag} {a p q : Addr} {ds : List Int} {n : Nat} {H0 H1 : Hp} {o : HO} (t : Tk K a p ds n H0 H1) (h : H0 q = none) (h2 : SB q H1 (upd H1 q o)) (nq : q ≠ p) (na : upd H1 q o a = some (.lst (ds.map V.int))) : Tk K a p ds n H0 (upd H1 q o) := by
  obtain ⟨m, e⟩ := t.pl
  refine ⟨na, t.hd, t.ne, fun b u n1 n2 => ?_, m, h2 _ _ nq.symm e⟩
  exact h2 _ _ (ne_of_none n2 h) (t.sb b u n1 n2)
theorem Tk.next {K : PySem.W.Frag} {a p : Addr} {ds : List Int} {n m : Nat} {H0 H1 : Hp} (t : Tk K a p ds n H0 H1) (e : H1 p = some (.lst [.int (m : Int)])) : Tk K a p ds n H0 (upd H1 p (.lst [.int ((m + 1 : Nat) : Int)])) ∧ SB p H1 (upd H1 p (.lst [.int ((m + 1 : Nat) : Int)])) := by
  have sb : SB p H1 (upd H1 p (.lst [.int ((m + 1 : Nat) : Int)])) := SB.upd (Z.Same.sb (Same.refl H1))
  exact ⟨⟨sb _ _ t.ne t.hA, t.hd, t.ne, t.sb.trans sb, m + 1, upd_same⟩, sb⟩
/-! ### the list of pairs while it grows -/
def RisH (H : Hp) (a : Addr) (ps : List Addr) (rs : Rs) : Prop := H a = some (.lst (ps.map V.ref)) ∧ ps.length = rs.length ∧ ∀ (i : Nat) (p : Addr) (q : Int × Option Int), ps[i]? = some p → rs[i]? = some q → H p = some (.tup [.int q.1, oV q.2])
theorem RisH.sb {H H' : Hp} {a p : Addr} {ps : List Addr} {rs : Rs} {xs : List V} (s : SB p H H') (ne : a ≠ p) (hp : H p = some (.lst xs)) (r : RisH H a ps rs) : RisH H' a ps rs := ⟨s _ _ ne r.1, r.2.1, fun i q z h1 h2 => by
  have e := r.2.2 i q z h1 h2
  refine s _ _ (fun w => ?_) e
  rw [w, hp] at e
  cases e⟩
theorem RisH.more {H H' : Hp} {a : Addr} {ps : List Addr} {rs : Rs} (s : Same H H') (r : RisH H a ps rs) : RisH H' a ps rs := ⟨s _ _ r.1, r.2.1, fun i q z h1 h2 => s _ _ (r.2.2 i q z h1 h2)⟩
theorem RisH.ris {K : PySem.W.Frag} {H : Hp} {a : Addr} {ps : List Addr} {rs : Rs} (r : RisH H a ps rs) : Ris true false K H a ps rs := ⟨SqL.of r.1, r.2.1, fun i q z h1 h2 => .inl (.inl (r.2.2 i q z h1 h2))⟩
theorem RisH.snoc {H : Hp} {a T : Addr} {ps : List Addr} {rs : Rs} {x : Int} {y : Option Int} (r : RisH H a ps rs) (hT : H T = some (.tup [.int x, oV y])) : RisH (upd H a (.lst (ps.map V.ref ++ [.ref T]))) a (ps ++ [T]) (rs ++ [(x, y)]) := by
  have ne : ∀ {q : Addr} {xs : List V}, H q = some (.tup xs) → q ≠ a := fun e w => by
    rw [w, r.1] at e
    cases e
  refine ⟨by rw [upd_same, List.map_append]; rfl, by rw [List.length_append, List.length_append, r.2.1]; rfl, fun i q z h1 h2 => ?_⟩
  by_cases hlt : i < ps.length
  · rw [List.getElem?_append_left hlt] at h1
    rw [List.getElem?_append_left (by rw [← r.2.1]; exact hlt)] at h2
    have e := r.2.2 i q z h1 h2
    rw [upd_ne (ne e)]
    exact e
  · rw [List.getElem?_append_right (by omega)] at h1
    rw [List.getElem?_append_right (by rw [← r.2.1]; omega)] at h2
    have h3 : i - ps.length = 0 := by
      have := (List.getElem?_eq_some_iff.mp h1).1
      simp at this
      omega
    rw [h3] at h1
    rw [← r.2.1, h3] at h2
    obtain rfl : T = q := Option.some.inj h1
    obtain rfl := Option.some.inj h2
    rw [upd_ne (ne hT)]
    exact hT
theorem cut_last (xs : List V) (v : V) : cutV (xs ++ [v]) none (some (-1)) = xs := by
  unfold cutV
  have h0 : HT.sIx (xs ++ [v]).length 0 none = 0 := rfl
  have h1 : HT.sIx (xs ++ [v]).length (xs ++ [v]).length (some (-1)) = xs.length := by
    rw [List.length_append]
    show HT.sIx (xs.length + 1) (xs.length + 1) (some (-1)) = xs.length
    unfold HT.sIx
    simp
    omega
  rw [h0, h1]
  simp
section
variable {P : Program} {w : World} {K : PySem.W.Frag} {mg : Str → Option Value} {base : Heap} {f C : Addr} {fd : FuncData}
def spLN (K : PySem.W.Frag) : Sp := fun vs H Q _ => ∃ (a p : Addr) (n : Nat) (ds : List Int), vs = [.ref a, .ref p] ∧ Tk K a p ds n H H ∧ ∀ l H' st rs nv, SB p H H' → NL K H' l st rs nv → LOk st rs nv → Q (.ref l) H'
theorem ok_need (F : FnP K "_law_need" s_need f fd) (m_int : mg "int" = none) (m_range : mg "range" = none) (m_len : mg "len" = none) (m_tuple : mg "tuple" = none) (c_take : Cal P w K mg base 1 "_law_take" (spTake K)) : FnOk P w K mg base CX0 2 f fd P_need (spLN K) := by
  refine F.ok sc_need (fun vs H Q E h => ?_) (fun cdv A outer s H vs Q E hr h => ?_)
  · obtain ⟨a, p, n, ds, rfl, _⟩ := h
    rfl
  · obtain ⟨a, p, n, ds, rfl, hT, q⟩ := h
    have hS := hT.hA
    refine ⟨_, PSs.nox (pss_cons (ps_set (i := 2) sc_need.nd rfl (by first | exact .inl rfl | exact .inr rfl) (pe_cl c_take hr (by decide) (by rfl) (pa_cons (pv 0) (pa_cons (pv 1) pa_nil))))
      (pss_cons (ps_if (pt_cmpR op_eq (pe_op op_mod (pe_callTy call_int1 (by rfl) m_int (by decide +kernel) (pa_cons (pv 2) pa_nil)) pe_int) pe_int (nomark _)) (pss_one (ps_ret (pe_lst (pa_cons pe_non (pa_cons (pe_tup pa_nil) (pa_cons pe_non pa_nil)))))) pss_nil)
      (pss_cons (ps_set (i := 3) sc_need.nd rfl (by first | exact .inl rfl | exact .inr rfl) (pe_op op_mod (pe_callTy call_int1 (by rfl) m_int (by decide +kernel) (pa_cons (pe_cl c_take hr (by decide) (by rfl) (pa_cons (pv 0) (pa_cons (pv 1) pa_nil))) pa_nil)) pe_int))
      (pss_cut (ps_if (pt_cmpR op_eq (pe_op op_mod (pe_callTy call_int1 (by rfl) m_int (by decide +kernel) (pa_cons (pe_op op_fdiv (pv 2) pe_int) pa_nil)) pe_int) pe_int (nomark _)) (pss_one (ps_set (i := 3) sc_need.nd rfl (by first | exact .inl rfl | exact .inr rfl) (pe_op op_add (pv 3) (pe_op op_pow pe_int pe_int)))) pss_nil)
      (pss_cons (ps_set (i := 4) sc_need.nd rfl (by first | exact .inl rfl | exact .inr rfl) (pe_lst pa_nil))
      (pss_cons (ps_set (i := 5) sc_need.nd rfl (by first | exact .inl rfl | exact .inr rfl) (pv 3))
      (pss_cons (ps_set (i := 6) sc_need.nd rfl (by first | exact .inl rfl | exact .inr rfl) (pe_op op_mod (pe_callTy call_int1 (by rfl) m_int (by decide +kernel) (pa_cons (pe_cl c_take hr (by decide) (by rfl) (pa_cons (pv 0) (pa_cons (pv 1) pa_nil))) pa_nil)) pe_int))
      (pss_cons (ps_for PassesOwn.never rfl (pi_range1 (by rfl) m_range (pa_cons (pe_op op_mod (pe_callTy call_int1 (by rfl) m_int (by decide +kernel) (pa_cons (pe_cl c_take hr (by decide) (by rfl) (pa_cons (pv 0) (pa_cons (pv 1) pa_nil))) pa_nil)) pe_int) pa_nil)) (pg_name (i := 7) sc_need.nd rfl (by first | exact .inl rfl | exact .inr rfl))
        (pss_cons (ps_set (i := 8) sc_need.nd rfl (by first | exact .inl rfl | exact .inr rfl) (pe_op op_add pe_int (pe_op op_mod (pe_callTy call_int1 (by rfl) m_int (by decide +kernel) (pa_cons (pe_cl c_take hr (by decide) (by rfl) (pa_cons (pv 0) (pa_cons (pv 1) pa_nil))) pa_nil)) pe_int)))
      (pss_cut (ps_if (pt_cmpR op_eq (pe_op op_mod (pe_callTy call_int1 (by rfl) m_int (by decide +kernel) (pa_cons (pe_op op_fdiv (pv 2) pe_int) pa_nil)) pe_int) pe_int (nomark _)) (pss_one (ps_set (i := 8) sc_need.nd rfl (by first | exact .inl rfl | exact .inr rfl) (pe_op op_mul (pv 8) (pe_op op_pow pe_int pe_int)))) pss_nil)
      (pss_cons (ps_expr (pe_bm PySem.F.plainAttrs_list PySem.F.slot_list_append PySem.F.type_list_append mt_append (pv 4) (pa_cons (pe_tup (pa_cons (pv 6) (pa_cons (pe_op op_add (pv 6) (pv 8)) pa_nil))) pa_nil)))
      (pss_cons (ps_set (i := 5) sc_need.nd rfl (by first | exact .inl rfl | exact .inr rfl) (pe_op op_add (pv 5) (pv 8)))
      (pss_one (ps_set (i := 6) sc_need.nd rfl (by first | exact .inl rfl | exact .inr rfl) (pe_op op_add (pe_op op_add (pe_op op_add (pv 6) (pv 8)) pe_int) (pe_op op_mod (pe_callTy call_int1 (by rfl) m_int (by decide +kernel) (pa_cons (pe_cl c_take hr (by decide) (by rfl) (pa_cons (pv 0) (pa_cons (pv 1) pa_nil))) pa_nil)) pe_int)))))))))
      (pss_cut (ps_if (PW.pt (pw_and (pt_cmpR op_gt (pe_callB call_len_seq (by rfl) m_len PySem.boot_len (pa_cons (pv 4) pa_nil)) pe_int (nomark _)) (pw_and1 (pt_cmpR op_eq (pe_op op_mod (pe_callTy call_int1 (by rfl) m_int (by decide +kernel) (pa_cons (pe_op op_fdiv (pv 2) pe_int) pa_nil)) pe_int) pe_int (nomark _))))) (pss_one (ps_ret (pe_lst (pa_cons (pv 3) (pa_cons (pe_callTy call_tuple_of (by rfl) m_tuple (by decide +kernel) (pa_cons (pe_op op_cat (pe_slice sl_list (pv 4) po_none (po_some (pe_un un_neg pe_int))) (pe_lst (pa_cons (pe_tup (pa_cons (pe_ix ix_tup (pe_ix ix_list (pv 4) (pe_un un_neg pe_int) (fun _ _ => rfl)) pe_int (fun _ _ => rfl)) (pa_cons pe_non pa_nil))) pa_nil))) pa_nil)) (pa_cons pe_non pa_nil)))))) pss_nil)
      (pss_cons (ps_set (i := 9) sc_need.nd rfl (by first | exact .inl rfl | exact .inr rfl) pe_non)
      (pss_cut (ps_if (pt_cmpR op_eq (pe_op op_mod (pe_callTy call_int1 (by rfl) m_int (by decide +kernel) (pa_cons (pe_op op_fdiv (pv 2) pe_int) pa_nil)) pe_int) pe_int (nomark _)) (pss_one (ps_set (i := 9) sc_need.nd rfl (by first | exact .inl rfl | exact .inr rfl) (pe_op op_add (pv 5) (pe_op op_mod (pe_callTy call_int1 (by rfl) m_int (by decide +kernel) (pa_cons (pe_cl c_take hr (by decide) (by rfl) (pa_cons (pv 0) (pa_cons (pv 1) pa_nil))) pa_nil)) pe_int)))) pss_nil)
      (pss_one (ps_ret (pe_lst (pa_cons (pv 3) (pa_cons (pe_callTy call_tuple_of (by rfl) m_tuple (by decide +kernel) (pa_cons (pv 4) pa_nil)) (pa_cons (pv 9) pa_nil))))))))))))))))), ?_⟩
    walk_at "go"
    obtain ⟨m, em⟩ := hT.pl
    refine ⟨a, p, n, m, ds, rfl, SqL.of hT.hA, hT.hd, em, hT.ne, fun kd kd1 kd2 => ?_⟩
    obtain ⟨hT', sbkd⟩ := hT.next em
    generalize eH : upd H p (.lst [.int ((m + 1 : Nat) : Int)]) = H1 at hT' sbkd ⊢
    have hT0 := hT
    clear hT
    have hT := hT'
    clear hT'
    walk_at "go"
    refine ite2 (fun e => ?_) (fun e => ?_)
    · walk_at "go"
      intro t nt
      walk_at "go"
      intro l nl
      have s1 := same_new (o := .tup []) nt
      have s2 := same_new (o := .lst [.non, .ref t, .non]) nl
      refine q l _ none [] none ((hT.more s1).more s2).sb ⟨t, [], SqL.of upd_same, ris_nil (.inl (.inl (s2 _ _ upd_same)))⟩ ⟨⟨rfl, nofun, nofun⟩, by decide, nofun, nofun⟩
    · walk_at "go"
      obtain ⟨m, em⟩ := hT.pl
      refine ⟨a, p, n, m, ds, rfl, SqL.of hT.hA, hT.hd, em, hT.ne, fun ra ra1 ra2 => ?_⟩
      obtain ⟨hT', sbra⟩ := hT.next em
      generalize eH : upd H1 p (.lst [.int ((m + 1 : Nat) : Int)]) = H2 at hT' sbra ⊢
      have hT0 := hT
      clear hT
      have hT := hT'
      clear hT'
      walk_at "go"
      refine ⟨fun σ' H' => H' = H2 ∧ ∃ st : Int, 0 ≤ st ∧ st ≤ 2 * 10 ^ 30 ∧ σ' = [some (.ref a), some (.ref p), some (.int kd), some (.int st), none, none, none, none, none, none], ?_, ?_⟩
      · walk_at "go"
        refine ite2 (fun e => ?_) (fun e => ?_)
        · walk_at "go"
          have e30 : (10 : Int) ^ Int.toNat 30 = 1000000000000000000000000000000 := by decide
          exact ⟨_, by omega, by omega, rfl⟩
        · exact ⟨rfl, _, by omega, by omega, rfl⟩
      · rintro σ' H' ⟨rfl, st, b1, b2, rfl⟩
        walk_at "go"
        intro R nR
        have Rp : R ≠ p := by
          obtain ⟨m, em⟩ := hT.pl
          exact (ne_of_none em nR).symm
        have nR0 : H R = none := by
          cases e : H R with
          | none => rfl
          | some o =>
            have := hT.sb _ _ Rp e
            rw [this] at nR
            cases nR
        have aR : a ≠ R := ne_of_none hT.hA nR
        have hT0 := hT
        clear hT
        have hT := hT0.more (same_new (o := .lst []) nR)
        have hRR : RisH (upd H' R (.lst [])) R [] [] := ⟨upd_same, rfl, fun i p q h => nomatch h⟩
        generalize eR : upd H' R (.lst []) = H3 at hT hRR ⊢
        walk_at "go"
        obtain ⟨m, em⟩ := hT.pl
        refine ⟨a, p, n, m, ds, rfl, SqL.of hT.hA, hT.hd, em, hT.ne, fun rb rb1 rb2 => ?_⟩
        obtain ⟨hT', sbrb⟩ := hT.next em
        generalize eH : upd H3 p (.lst [.int ((m + 1 : Nat) : Int)]) = H4 at hT' sbrb ⊢
        have hT0 := hT
        clear hT
        have hT := hT'
        clear hT'
        walk_at "go"
        have hR4 := hRR.sb sbrb Rp em
        obtain ⟨m, em⟩ := hT.pl
        refine ⟨a, p, n, m, ds, rfl, SqL.of hT.hA, hT.hd, em, hT.ne, fun rc rc1 rc2 => ?_⟩
        obtain ⟨hT', sbrc⟩ := hT.next em
        generalize eH : upd H4 p (.lst [.int ((m + 1 : Nat) : Int)]) = H5 at hT' sbrc ⊢
        have hT0 := hT
        clear hT
        have hT := hT'
        clear hT'
        have hR5 := hR4.sb sbrc Rp em
        walk_at "go"
        refine for_gen (n := (rc % 6).toNat) (fun i σ H6 => ∃ (ps : List Addr) (rs : Rs) (T ed : Int) (v7 v8 : Option V), Tk K a p ds n H H6 ∧ RisH H6 R ps rs ∧ rs.length = i ∧ Gd (-1) rs ed ∧ top st rs = some T ∧ 0 ≤ T ∧ T ≤ 2 * 10 ^ 30 + i * 10 ^ 21 ∧ 0 ≤ ed ∧ ed ≤ 10 + i * 10 ^ 21 ∧ σ = [some (.ref a), some (.ref p), some (.int kd), some (.int st), some (.ref R), some (.int T), some (.int ed), v7, v8, none]) ⟨[], [], st, _, none, none, hT, hR5, rfl, ?_, rfl, b1, by omega, ?_, ?_, rfl⟩ (fun i σ H6 hi _ => hi) (fun σ H6 _ => Nat.le_refl _) ?_ ?_
        · show -1 < rb % 6
          omega
        · omega
        · omega
        · rintro i σ H6 x H7 hi ⟨ps, rs, T, ed, v7, v8, hT, hRi, hlen, hgd, htop, t1, t2, d1, d2, rfl⟩ ⟨rfl, rfl⟩
          walk_at "go"
          obtain ⟨m, em⟩ := hT.pl
          refine ⟨a, p, n, m, ds, rfl, SqL.of hT.hA, hT.hd, em, hT.ne, fun wa wa1 wa2 => ?_⟩
          obtain ⟨hT', sbwa⟩ := hT.next em
          generalize eH : upd H7 p (.lst [.int ((m + 1 : Nat) : Int)]) = H8 at hT' sbwa ⊢
          have hT0 := hT
          clear hT
          have hT := hT'
          clear hT'
          have hR8 := hRi.sb sbwa Rp em
          walk_at "go"
          refine ⟨fun σ' H9 => H9 = H8 ∧ ∃ wd : Int, 1 ≤ wd ∧ wd ≤ 6 * 10 ^ 20 ∧ σ' = [some (.ref a), some (.ref p), some (.int kd), some (.int st), some (.ref R), some (.int T), some (.int ed), some (.int (0 + (i : Int))), some (.int wd), none], ?_, ?_⟩
          · walk_at "go"
            refine ite2 (fun e => ?_) (fun e => ?_)
            · walk_at "go"
              have e20 : (10 : Int) ^ Int.toNat 20 = 100000000000000000000 := by decide
              refine ⟨_, ?_, ?_, rfl⟩ <;> rw [e20] <;> omega
            · exact ⟨rfl, _, by omega, by omega, rfl⟩
          · rintro σ' H9 ⟨rfl, wd, w1, w2, rfl⟩
            walk_at "go"
            refine ⟨.inl ⟨rfl, _, .inl (.inl hR8.1)⟩, ?_⟩
            walk_at "go"
            intro T0 nT0
            walk_at "go"
            have s9 : Same H9 (upd H9 T0 (.tup [.int ed, .int (ed + wd)])) := same_new nT0
            have hR9 := hR8.more s9
            have i5 : i < 6 := by omega
            refine ⟨_, _, _, rfl, rfl, hR9.1, ?_, ?_⟩
            · rw [List.length_map, hR9.2.1, hlen]
              exact Nat.lt_of_lt_of_le i5 (by decide)
            have hR10 := hR9.snoc (y := some (ed + wd)) upd_same
            have hT10 : Tk K a p ds n H (upd (upd H9 T0 (.tup [.int ed, .int (ed + wd)])) R (.lst (ps.map V.ref ++ [.ref T0]))) := by
              have h1 := hT.more s9
              have h2 : SB R (upd H9 T0 (.tup [.int ed, .int (ed + wd)])) (upd (upd H9 T0 (.tup [.int ed, .int (ed + wd)])) R (.lst (ps.map V.ref ++ [.ref T0]))) := SB.upd (Z.Same.sb (Same.refl _))
              exact h1.mut nR0 h2 Rp (h2 _ _ aR h1.hA)
            have hT0 := hT
            clear hT
            have hT := hT10
            generalize eX : upd (upd H9 T0 (.tup [.int ed, .int (ed + wd)])) R (.lst (ps.map V.ref ++ [.ref T0])) = H10 at hT hR10 ⊢
            walk_at "go"
            obtain ⟨m, em⟩ := hT.pl
            refine ⟨a, p, n, m, ds, rfl, SqL.of hT.hA, hT.hd, em, hT.ne, fun wb wb1 wb2 => ?_⟩
            obtain ⟨hT', sbwb⟩ := hT.next em
            generalize eH : upd H10 p (.lst [.int ((m + 1 : Nat) : Int)]) = H11 at hT' sbwb ⊢
            have hT0 := hT
            clear hT
            have hT := hT'
            clear hT'
            have hR11 := hR10.sb sbwb Rp em
            walk_at "go"
            refine ⟨_, _, _, _, _, _, hT, hR11, ?_, hgd.snoc (h := ed + wd) (by omega) (z' := ed + wd + 1 + wb % 6) (by omega), (top_snoc hgd htop).trans ?_, ?_, ?_, ?_, ?_, rfl⟩
            · rw [List.length_append, hlen]
              rfl
            · rw [show T + (ed + wd) - ed = T + wd by omega]
            · omega
            · omega
            · omega
            · omega
        · rintro σ H6 ⟨ps, rs, T, ed, v7, v8, hT, hRi, hlen, hgd, htop, t1, t2, d1, d2, rfl⟩
          have i5 : (rc % 6).toNat < 6 := by omega
          have e30 : (10 : Int) ^ 30 = 1000000000000000000000000000000 := by decide
          have e21 : (10 : Int) ^ 21 = 1000000000000000000000 := by decide
          have t3 : T ≤ 10 ^ 39 := by
            rw [e30, e21] at t2
            have e39 : (10 : Int) ^ 39 = 1000000000000000000000000000000000000000 := by decide
            omega
          have d3 : ed ≤ 10 ^ 39 := by
            rw [e21] at d2
            have e39 : (10 : Int) ^ 39 = 1000000000000000000000000000000000000000 := by decide
            omega
          refine cut_stay ?_ ?_
          · walk_at "go"
            refine ⟨R, _, rfl, .inl (SqL.of hRi.1), ?_⟩
            rw [List.length_map, hRi.2.1]
            walk_at "go"
            refine ite2 (fun e => ?_) (fun e => ?_)
            · have hl : 0 < rs.length := by
                have := of_decide_eq_true e
                omega
              walk_at "go"
              refine ite2 (fun e2 => ?_) (fun e2 => ?_)
              · rcases List.eq_nil_or_concat rs with rfl | ⟨r, ⟨x, h⟩, e3⟩
                · cases hl
                rw [List.concat_eq_append] at e3
                subst e3
                obtain ⟨ps', pl, rfl⟩ : ∃ qs q, ps = qs ++ [q] := by
                  rcases List.eq_nil_or_concat ps with e | ⟨qs, q, e⟩
                  · have := hRi.2.1
                    rw [e, List.length_append] at this
                    simp at this
                  · exact ⟨qs, q, by rw [e, List.concat_eq_append]⟩
                have el : ps'.length = r.length := by
                  have := hRi.2.1
                  rw [List.length_append, List.length_append] at this
                  simpa using this
                have epl : H6 pl = some (.tup [.int x, oV h]) := hRi.2.2 r.length pl (x, h) (by rw [List.getElem?_append_right (by omega), el, Nat.sub_self]; rfl) (by rw [List.getElem?_append_right (by omega), Nat.sub_self]; rfl)
                walk_at "go"
                refine ⟨R, _, rfl, SqL.of hRi.1, fun c1 nc1 => ?_⟩
                have ec : cutV ((ps' ++ [pl]).map V.ref) none (some (-1)) = ps'.map V.ref := by
                  rw [List.map_append]
                  exact cut_last _ _
                rw [ec]
                have s1 := same_new (o := .lst (ps'.map V.ref)) nc1
                have hpl : SqT K _ pl [.int x, oV h] := .inl (.inl (s1 _ _ epl))
                walk_at "go"
                refine ⟨R, _, _, _, rfl, rfl, SqL.of (s1 _ _ hRi.1), (by rw [List.map_append]; exact atI_last _ _), ?_⟩
                walk_at "go"
                intro c2 nc2
                have s2 := same_new (o := .tup [.int x, .non]) nc2
                walk_at "go"
                intro c3 nc3
                have s3 := same_new (o := .lst [.ref c2]) nc3
                walk_at "go"
                refine ⟨c1, c3, _, _, rfl, rfl, s3 _ _ (s2 _ _ upd_same), upd_same, ?_, fun c4 nc4 => ?_⟩
                · rw [List.length_map, el]
                  rw [List.length_append] at hlen
                  exact Nat.le_trans (show r.length + 1 ≤ 1000 by omega) (by decide)
                have s4 := same_new (o := .lst (ps'.map V.ref ++ [.ref c2])) nc4
                walk_at "go"
                refine ⟨c4, _, rfl, .inl ⟨.inl (.inl upd_same), fun t nt => ?_⟩⟩
                have s5 := same_new (o := .tup (ps'.map V.ref ++ [.ref c2])) nt
                walk_at "go"
                intro l nl
                have s6 := same_new (o := .lst [.int st, .ref t, .non]) nl
                have s16 := s1.trans (s2.trans (s3.trans (s4.trans (s5.trans s6))))
                obtain ⟨g1, g2⟩ := bnd_open hgd htop
                refine q l _ (some st) (r ++ [(x, none)]) none (hT.more s16).sb ⟨t, ps' ++ [c2], SqL.of upd_same, .inl (.inl ?_), ?_, ?_⟩ ⟨⟨hgd.opened, fun s hs => by cases hs; exact b1, nofun⟩, ?_, fun s hs => ?_, nofun⟩
                · rw [List.map_append]
                  exact s6 _ _ upd_same
                · rw [List.length_append, List.length_append, el]
                  rfl
                · intro i p1 q1 h1 h2
                  by_cases hlt : i < ps'.length
                  · rw [List.getElem?_append_left hlt] at h1
                    rw [List.getElem?_append_left (by rw [← el]; exact hlt)] at h2
                    exact .inl (.inl (s16 _ _ (hRi.2.2 i p1 q1 (by rw [List.getElem?_append_left hlt]; exact h1) (by rw [List.getElem?_append_left (by rw [← el]; exact hlt)]; exact h2))))
                  · rw [List.getElem?_append_right (by omega)] at h1
                    rw [List.getElem?_append_right (by omega)] at h2
                    have h3 : i - ps'.length = 0 := by
                      have := (List.getElem?_eq_some_iff.mp h1).1
                      simp at this
                      omega
                    rw [h3] at h1
                    rw [← el, h3] at h2
                    obtain rfl : c2 = p1 := Option.some.inj h1
                    obtain rfl := Option.some.inj h2
                    exact .inl (.inl (s6 _ _ (s5 _ _ (s4 _ _ (s3 _ _ upd_same)))))
                · rw [List.length_append] at hlen ⊢
                  have : ([(x, (none : Option Int))]).length = 1 := rfl
                  have : ([(x, h)]).length = 1 := rfl
                  omega
                · cases hs
                  have e39 : (10 : Int) ^ 39 = 1000000000000000000000000000000000000000 := by decide
                  have e40 : (10 : Int) ^ 39 = 1000000000000000000000000000000000000000 := by decide
                  rw [e40]
                  rw [e39] at t3 d3
                  omega
              · exact ⟨rfl, rfl⟩
            · walk_at "go"
              rfl
          · walk_at "go"
            refine ⟨fun σ' H7 => ∃ nv : Option Int, Tk K a p ds n H H7 ∧ RisH H7 R ps rs ∧ (∀ v, nv = some v → T ≤ v ∧ v ≤ T + 5) ∧ σ' = [some (.ref a), some (.ref p), some (.int kd), some (.int st), some (.ref R), some (.int T), some (.int ed), v7, v8, some (oV nv)], ?_, ?_⟩
            · walk_at "go"
              refine ite2 (fun e => ?_) (fun e => ?_)
              · walk_at "go"
                obtain ⟨m, em⟩ := hT.pl
                refine ⟨a, p, n, m, ds, rfl, SqL.of hT.hA, hT.hd, em, hT.ne, fun na na1 na2 => ?_⟩
                obtain ⟨hT', sbna⟩ := hT.next em
                generalize eH : upd H6 p (.lst [.int ((m + 1 : Nat) : Int)]) = H7 at hT' sbna ⊢
                have hT0 := hT
                clear hT
                have hT := hT'
                clear hT'
                have hR7 := hRi.sb sbna Rp em
                walk_at "go"
                exact ⟨some (T + na % 5), hT, hR7, fun v hv => by cases hv; exact ⟨by omega, by omega⟩, rfl⟩
              · exact ⟨none, hT, hRi, nofun, rfl⟩
            · rintro σ' H7 ⟨nv, hT, hR7, hnv, rfl⟩
              walk_at "go"
              refine ⟨R, _, rfl, .inl ⟨.inl (.inl hR7.1), fun t nt => ?_⟩⟩
              walk_at "go"
              intro l nl
              have s1 : Same H7 (upd H7 t (.tup (ps.map V.ref))) := same_new nt
              have s2 := same_new (o := .lst [.int st, .ref t, oV nv]) nl
              have r1 : Ris true false K H7 R ps rs := hR7.ris
              have r2 : Ris false false K (upd H7 t (.tup (ps.map V.ref))) t ps rs := ⟨.inl (.inl upd_same), hR7.2.1, fun i p q h1 h2 => Z.Same.sqK s1 (r1.2.2 i p q h1 h2)⟩
              refine q l _ (some st) rs nv ((hT.more s1).more s2).sb ⟨t, ps, SqL.of upd_same, r2.mono s2⟩ ⟨⟨hgd.good, fun s hs => by cases hs; exact b1, fun v hv => ⟨T, htop, (hnv v hv).1⟩⟩, by omega, fun s hs => ?_, fun v hv => ?_⟩
              · cases hs
                rw [bnd_closed hgd htop]
                exact Int.le_trans t3 (by decide)
              · have := (hnv v hv).2
                have e40 : (10 : Int) ^ 40 = 10000000000000000000000000000000000000000 := by decide
                have e39 : (10 : Int) ^ 39 = 1000000000000000000000000000000000000000 := by decide
                rw [e40]
                rw [e39] at t3
                omega
end
end Z
set_option pp.maxSteps 700
set_option Elab.async false
set_option linter.all false
set_option maxRecDepth 100000
set_option maxHeartbeats 4000000
namespace Z
open Nd
open PySem PySem.Spec PyProof.Rows L2
open C8 (pss_cut tCut)
local macro_rules | `(tactic| walk_at "num") => `(tactic| first | rfl | omega | decide | exact Nat.le_of_lt (small1000 (by simp)) | exact ⟨by omega, by omega⟩ | exact ⟨by omega, by omega, by omega⟩ | exact ⟨by decide, by decide, by decide⟩ | exact Or.inl ⟨by omega, by omega⟩ | exact Or.inr ⟨by omega, by omega⟩)
local macro_rules | `(tactic| walk_at "go") => `(tactic| repeat (first | refine ⟨_, rfl, ?_⟩ | refine ⟨_, _, rfl, rfl, ?_⟩ | refine ⟨_, _, rfl, ?_⟩ | (refine ⟨_, _, rfl, rfl, ?_, ?_⟩; focus walk_at "num") | refine Or.inl ⟨_, rfl, ?_⟩ | refine ⟨_, _, _, _, rfl, rfl, (by assumption), (by rfl), ?_⟩ | refine ⟨_, _, _, _, _, rfl, (by assumption), (by assumption), (by assumption), (by rfl), ?_⟩ | refine ⟨rfl, ?_⟩ | (refine And.intro ?_ ?_; focus walk_at "num")))
abbrev s_low_edge : Stmt := topS 14
abbrev N_low_edge : List Str := ["rises", "k", "low", "high"]
abbrev P_low_edge : List Str := ["rises", "k"]
theorem sc_low_edge : FnScope N_low_edge P_low_edge (defScope s_low_edge) := ⟨rfl, rfl, rfl, by decide +kernel, rfl, by decide +kernel, by decide +kernel⟩
abbrev s_high_edge : Stmt := topS 15
abbrev N_high_edge : List Str := ["rises", "k", "low", "high"]
abbrev P_high_edge : List Str := ["rises", "k"]
theorem sc_high_edge : FnScope N_high_edge P_high_edge (defScope s_high_edge) := ⟨rfl, rfl, rfl, by decide +kernel, rfl, by decide +kernel, by decide +kernel⟩
theorem drop_of {rs : Rs} {i : Nat} {p : Int × Option Int} (h : rs[i]? = some p) : rs.drop i = p :: rs.drop (i + 1) := by
  obtain ⟨hi, e⟩ := List.getElem?_eq_some_iff.mp h
  rw [← e]
  exact List.drop_eq_getElem_cons hi
section
variable {P : Program} {w : World} {K : PySem.W.Frag} {mg : Str → Option Value} {base : Heap} {f C : Addr} {fd : FuncData}
def spLE (K : PySem.W.Frag) : Sp := fun vs H Q _ => ∃ (b c : Bool) (k : Int) (r : Addr) (ps : List Addr) (rs : Rs), vs = [.ref r, .int k] ∧ Ris b c K H r ps rs ∧ Q (.int (lowE rs k)) H
theorem ok_low_edge (F : FnP K "low_edge" s_low_edge f fd) : FnOk P w K mg base CX0 1 f fd P_low_edge (spLE K) := by
  refine F.ok sc_low_edge (fun vs H Q E h => ?_) (fun cdv A outer s H vs Q E hr h => ?_)
  · obtain ⟨b, c, k, r, ps, rs, rfl, _⟩ := h
    rfl
  · obtain ⟨b, c, k, r, ps, rs, rfl, hR, q⟩ := h
    refine ⟨_, PSs.nox (pss_cons (ps_for PassesOwn.never rfl (pi_seq (pv 0)) (pg_or (pg_unl rfl (pgs_cons (pg_name (i := 2) sc_low_edge.nd rfl (by first | exact .inl rfl | exact .inr rfl)) (pgs_cons (pg_name (i := 3) sc_low_edge.nd rfl (by first | exact .inl rfl | exact .inr rfl)) pgs_nil))) (pg_tup rfl (pgs_cons (pg_name (i := 2) sc_low_edge.nd rfl (by first | exact .inl rfl | exact .inr rfl)) (pgs_cons (pg_name (i := 3) sc_low_edge.nd rfl (by first | exact .inl rfl | exact .inr rfl)) pgs_nil))))
        (pss_one (ps_if (PW.pt (pw_and (pt_cmpR op_lt (pv 2) (pv 1) (nomark _)) (pw_and1 (PW.pt (pw_or (pt_cmpR op_isN (pv 3) pe_non (nomark _)) (pw_or1 (pt_cmpR op_le (pv 1) (pv 3) (nomark _)))))))) (pss_one (ps_ret (pv 2))) pss_nil)))
      (pss_one (ps_ret (pv 1)))), ?_⟩
    refine for_pairs (j := 0) hR (Same.refl H) (by rfl) (fun i σ H1 => H1 = H ∧ lowE rs k = lowE (rs.drop i) k ∧ ∃ v2 v3 : Option V, σ = [some (.ref r), some (.int k), v2, v3]) ⟨rfl, rfl, none, none, rfl⟩ ?_ ?_ ?_
    · rintro i σ H1 ⟨rfl, _⟩
      exact Same.refl _
    · rintro i l h σ H1 hi ⟨rfl, e0, v2, v3, rfl⟩
      rw [drop_of hi, lowE] at e0
      dsimp only [List.set]
      walk_at "go"
      refine ite2 (fun c1 => ?_) (fun c1 => ?_)
      · have c1 : l < k := of_decide_eq_true c1
        cases h with
        | none =>
          rw [if_pos (by unfold inL; simp; exact c1)] at e0
          rw [e0] at q
          walk_at "go"
          exact q
        | some y =>
          walk_at "go"
          refine ite2 (fun c2 => ?_) (fun c2 => ?_)
          · have c2 : k ≤ y := of_decide_eq_true c2
            rw [if_pos (by unfold inL; simp; exact ⟨c1, c2⟩)] at e0
            rw [e0] at q
            walk_at "go"
            exact q
          · have c2 : ¬ k ≤ y := fun z => c2 (decide_eq_true z)
            rw [if_neg (by unfold inL; simp; omega)] at e0
            exact ⟨rfl, e0, _, _, rfl⟩
      · have c1 : ¬ l < k := fun z => c1 (decide_eq_true z)
        rw [if_neg (by unfold inL; simp; omega)] at e0
        exact ⟨rfl, e0, _, _, rfl⟩
    · rintro σ H1 ⟨rfl, e0, v2, v3, rfl⟩
      rw [List.drop_length, lowE] at e0
      rw [e0] at q
      walk_at "go"
      exact q
def spHE (K : PySem.W.Frag) : Sp := fun vs H Q _ => ∃ (b c : Bool) (k : Int) (r : Addr) (ps : List Addr) (rs : Rs), vs = [.ref r, .int k] ∧ Ris b c K H r ps rs ∧ Q (oV (hiE rs k)) H
theorem ok_high_edge (F : FnP K "high_edge" s_high_edge f fd) : FnOk P w K mg base CX0 1 f fd P_high_edge (spHE K) := by
  refine F.ok sc_high_edge (fun vs H Q E h => ?_) (fun cdv A outer s H vs Q E hr h => ?_)
  · obtain ⟨b, c, k, r, ps, rs, rfl, _⟩ := h
    rfl
  · obtain ⟨b, c, k, r, ps, rs, rfl, hR, q⟩ := h
    refine ⟨_, PSs.nox (pss_cons (ps_for PassesOwn.never rfl (pi_seq (pv 0)) (pg_or (pg_unl rfl (pgs_cons (pg_name (i := 2) sc_high_edge.nd rfl (by first | exact .inl rfl | exact .inr rfl)) (pgs_cons (pg_name (i := 3) sc_high_edge.nd rfl (by first | exact .inl rfl | exact .inr rfl)) pgs_nil))) (pg_tup rfl (pgs_cons (pg_name (i := 2) sc_high_edge.nd rfl (by first | exact .inl rfl | exact .inr rfl)) (pgs_cons (pg_name (i := 3) sc_high_edge.nd rfl (by first | exact .inl rfl | exact .inr rfl)) pgs_nil))))
        (pss_one (ps_if (PW.pt (pw_and (pt_cmpR op_le (pv 2) (pv 1) (nomark _)) (pw_and1 (PW.pt (pw_or (pt_cmpR op_isN (pv 3) pe_non (nomark _)) (pw_or1 (pt_cmpR op_lt (pv 1) (pv 3) (nomark _)))))))) (pss_one (ps_ret (pv 3))) pss_nil)))
      (pss_one (ps_ret (pv 1)))), ?_⟩
    refine for_pairs (j := 0) hR (Same.refl H) (by rfl) (fun i σ H1 => H1 = H ∧ hiE rs k = hiE (rs.drop i) k ∧ ∃ v2 v3 : Option V, σ = [some (.ref r), some (.int k), v2, v3]) ⟨rfl, rfl, none, none, rfl⟩ ?_ ?_ ?_
    · rintro i σ H1 ⟨rfl, _⟩
      exact Same.refl _
    · rintro i l h σ H1 hi ⟨rfl, e0, v2, v3, rfl⟩
      rw [drop_of hi, hiE] at e0
      dsimp only [List.set]
      walk_at "go"
      refine ite2 (fun c1 => ?_) (fun c1 => ?_)
      · have c1 : l ≤ k := of_decide_eq_true c1
        cases h with
        | none =>
          rw [if_pos (by unfold inH; simp; exact c1)] at e0
          rw [e0] at q
          walk_at "go"
          exact q
        | some y =>
          walk_at "go"
          refine ite2 (fun c2 => ?_) (fun c2 => ?_)
          · have c2 : k < y := of_decide_eq_true c2
            rw [if_pos (by unfold inH; simp; exact ⟨c1, c2⟩)] at e0
            rw [e0] at q
            walk_at "go"
            exact q
          · have c2 : ¬ k < y := fun z => c2 (decide_eq_true z)
            rw [if_neg (by unfold inH; simp; omega)] at e0
            exact ⟨rfl, e0, _, _, rfl⟩
      · have c1 : ¬ l ≤ k := fun z => c1 (decide_eq_true z)
        rw [if_neg (by unfold inH; simp; omega)] at e0
        exact ⟨rfl, e0, _, _, rfl⟩
    · rintro σ H1 ⟨rfl, e0, v2, v3, rfl⟩
      rw [List.drop_length, hiE] at e0
      rw [e0] at q
      walk_at "go"
      exact q
end
end Z
set_option pp.maxSteps 700
set_option Elab.async false
set_option linter.all false
set_option maxRecDepth 100000
set_option maxHeartbeats 4000000
namespace Z
open Nd
open PySem PySem.Spec PyProof.Rows L2
open C8 (pss_cut tCut)
local macro_rules | `(tactic| walk_at "num") => `(tactic| first | rfl | omega | decide | exact Nat.le_of_lt (small1000 (by simp)) | exact ⟨by omega, by omega⟩ | exact ⟨by omega, by omega, by omega⟩ | exact ⟨by decide, by decide, by decide⟩ | exact Or.inl ⟨by omega, by omega⟩ | exact Or.inr ⟨by omega, by omega⟩)
local macro_rules | `(tactic| walk_at "go") => `(tactic| repeat (first | refine ⟨_, rfl, ?_⟩ | refine ⟨_, _, rfl, rfl, ?_⟩ | refine ⟨_, _, rfl, ?_⟩ | (refine ⟨_, _, rfl, rfl, ?_, ?_⟩; focus walk_at "num") | refine Or.inl ⟨_, rfl, ?_⟩ | refine ⟨_, _, _, _, rfl, rfl, (by assumption), (by rfl), ?_⟩ | refine ⟨_, _, _, _, _, rfl, (by assumption), (by assumption), (by assumption), (by rfl), ?_⟩ | refine ⟨rfl, ?_⟩ | (refine And.intro ?_ ?_; focus walk_at "num")))
abbrev s_rounds_up : Stmt := topS 19
abbrev N_rounds_up : List Str := ["need", "k", "purse", "value", "count", "gain", "steps", "edge"]
abbrev P_rounds_up : List Str := ["need", "k", "purse"]
theorem sc_rounds_up : FnScope N_rounds_up P_rounds_up (defScope s_rounds_up) := ⟨rfl, rfl, rfl, by decide +kernel, rfl, by decide +kernel, by decide +kernel⟩
theorem lgW {x : Int} (h0 : 0 ≤ x) (h : x ≤ 10 ^ 101) : x.natAbs.log2 < 340 := by
  by_cases z : x.natAbs = 0
  · rw [z]
    decide
  · rw [Nat.log2_lt z]
    have : (10 : Nat) ^ 101 < 2 ^ 340 := by decide +kernel
    omega
section
variable {P : Program} {w : World} {K : PySem.W.Frag} {mg : Str → Option Value} {base : Heap} {f C : Addr} {fd : FuncData}
/-- the fields of needs -/
structure NeK (K : PySem.W.Frag) (C : Addr) : Prop where
  cls : Cls K C
  ns : NoAttr K C "start"
  nr : NoAttr K C "rises"
  nn : NoAttr K C "never"
def spRu (C : Addr) (K : PySem.W.Frag) : Sp := fun vs H Q _ => ∃ (n : Addr) (st : Option Int) (rs : Rs) (nv k : Option Int) (purse : Int), vs = [.ref n, oV k, .int purse] ∧ NeedAt C K H n st rs nv ∧ NdW st rs nv ∧ (∀ v, k = some v → 0 ≤ v) ∧ purse ≤ 10 ^ 100 ∧ ∀ r, UpO st rs nv k purse r → Q (oV r) H
theorem ok_rounds_up (F : FnP K "rounds_up" s_rounds_up f fd) (ne : NeK K C) (m_int : mg "int" = none) (m_min : mg "min" = none) (c_value_at : Cal P w K mg base 1 "value_at" (spValueAt K)) (c_high_edge : Cal P w K mg base 1 "high_edge" (spHE K)) : FnOk P w K mg base CX0 2 f fd P_rounds_up (spRu C K) := by
  refine F.ok sc_rounds_up (fun vs H Q E h => ?_) (fun cdv A outer s H vs Q E hr h => ?_)
  · obtain ⟨n, st, rs, nv, k, purse, rfl, _⟩ := h
    rfl
  · obtain ⟨n, st, rs, nv, k, purse, rfl, hN, ndw, h2, h3, q⟩ := h
    refine ⟨_, PSs.nox (pss_cons (ps_if (pt_cmpR op_isN (pv 1) pe_non (nomark _)) (pss_one (ps_ret pe_int)) pss_nil)
      (pss_cons (ps_par (i := 3) (j := 4) (by rfl) sc_rounds_up.nd rfl rfl (by decide) rfl rfl (pa_cons (pv 1) (pa_cons pe_int pa_nil)) (by rfl))
      (pss_cons (ps_while PassesOwn.never (pt_cmpR op_le (pv 3) (pv 2) (nomark _))
        (pss_cons (ps_if (pt_cmpR op_isN (pe_fld (pv 0) rfl) pe_non (nomark _)) (pss_one (ps_ret (pe_op op_add (pv 4) pe_int))) pss_nil)
      (pss_cons (ps_set (i := 5) sc_rounds_up.nd rfl (by first | exact .inl rfl | exact .inr rfl) (pe_op op_sub (pe_cl c_value_at hr (by decide) (by rfl) (pa_cons (pe_fld (pv 0) rfl) (pa_cons (pe_fld (pv 0) rfl) (pa_cons (pv 3) pa_nil)))) (pv 3)))
      (pss_cons (ps_if (pt_cmpR op_le (pv 5) pe_int (nomark _)) (pss_one (ps_ret pe_non)) pss_nil)
      (pss_cons (ps_set (i := 6) sc_rounds_up.nd rfl (by first | exact .inl rfl | exact .inr rfl) (pe_op op_add (pe_op op_fdivW (pe_op op_sub (pv 2) (pv 3)) (pv 5)) pe_int))
      (pss_cons (ps_set (i := 7) sc_rounds_up.nd rfl (by first | exact .inl rfl | exact .inr rfl) (pe_cl c_high_edge hr (by decide) (by rfl) (pa_cons (pe_fld (pv 0) rfl) (pa_cons (pv 3) pa_nil))))
      (pss_cut (ps_if (pt_cmpR op_notN (pv 7) pe_non (nomark _)) (pss_one (ps_set (i := 6) sc_rounds_up.nd rfl (by first | exact .inl rfl | exact .inr rfl) (pe_callB (call_min2 rfl) (by rfl) m_min (by decide +kernel) (pa_cons (pe_callTy call_int1 (by rfl) m_int (by decide +kernel) (pa_cons (pv 6) pa_nil)) (pa_cons (pe_op op_add (pe_op op_fdivW (pe_op op_sub (pv 7) (pv 3)) (pv 5)) pe_int) pa_nil))))) pss_nil)
      (pss_cons (ps_set (i := 3) sc_rounds_up.nd rfl (by first | exact .inl rfl | exact .inr rfl) (pe_op op_add (pv 3) (pe_op op_mulW (pv 5) (pv 6))))
      (pss_one (ps_set (i := 4) sc_rounds_up.nd rfl (by first | exact .inl rfl | exact .inr rfl) (pe_op op_add (pv 4) (pv 6))))))))))))
      (pss_one (ps_ret (pv 4)))))), ?_⟩
    obtain ⟨dx, r, ps, en, hR, er⟩ := id hN
    obtain ⟨gd, hs, hnv0, hnvB⟩ := id ndw
    cases k with
    | none =>
      walk_at "go"
      exact q (some 0) ⟨Int.le_refl _, fun i hi => absurd hi (by omega), fun z => z⟩
    | some k =>
    have h2 := h2 k rfl
    cases st with
    | none =>
      have hnv := hnv0 rfl
      subst hnv
      walk_at "go"
      refine ⟨fun m σ J => J = H ∧ m = 0 ∧ σ = [some (.ref n), some (.int k), some (.int purse), some (.int k), some (.int 0), none, none, none], ⟨_, rfl, rfl, rfl⟩, ?_⟩
      rintro m σ J ⟨rfl, rfl, rfl⟩
      walk_at "go"
      refine ite2 (fun e => ?_) (fun e => ?_)
      · have e : k ≤ purse := of_decide_eq_true e
        refine ⟨fun _ _ => False, fun _ _ z => z.elim, ?_⟩
        walk_at "go"
        refine ⟨n, C, dx, _, _, rfl, en, ne.cls, ne.ns, rfl, ?_⟩
        walk_at "go"
        refine q (some 1) ⟨by omega, fun i hi => ?_, fun z => ?_⟩
        · obtain rfl : i = 0 := by omega
          exact ⟨e, by rw [itO_no]; exact fun z => z⟩
        · rw [show (1 : Int).toNat = 0 + 1 from rfl, itO_no] at z
          exact z
      · have e : ¬ k ≤ purse := fun z => e (decide_eq_true z)
        walk_at "go"
        exact q (some 0) ⟨Int.le_refl _, fun i hi => absurd hi (by omega), e⟩
    | some s =>
    obtain ⟨h0, h1⟩ := hs s rfl
    replace q : ∀ r, UpR s rs k purse r → Q (oV r) H := fun r hr => q r (hr.o gd)
    walk_at "go"
    refine ⟨fun m σ J => J = H ∧ ∃ (v : Int) (c : Nat) (u5 u6 u7 : Option V), m = (purse + 1 - v).toNat ∧ 0 ≤ v ∧ Upw s rs k purse c v ∧ σ = [some (.ref n), some (.int k), some (.int purse), some (.int v), some (.int (c : Int)), u5, u6, u7], ⟨_, rfl, k, 0, none, none, none, rfl, h2, ⟨rfl, fun i hi => absurd hi (Nat.not_lt_zero i), fun i hi => absurd hi (Nat.not_lt_zero i)⟩, rfl⟩, ?_⟩
    rintro m σ J ⟨rfl, v, c, u5, u6, u7, rfl, hv, up, rfl⟩
    walk_at "go"
    refine ite2 (fun e => ?_) (fun e => ?_)
    · have e : v ≤ purse := of_decide_eq_true e
      refine ⟨fun σ J' => J' = J ∧ ∃ (v' : Int) (c' : Nat) (u5 u6 u7 : Option V), v < v' ∧ Upw s rs k purse c' v' ∧ σ = [some (.ref n), some (.int k), some (.int purse), some (.int v'), some (.int (c' : Int)), u5, u6, u7], ?_, ?_⟩
      · rintro σ' H' ⟨rfl, v', c', u5, u6, u7, hv', up', rfl⟩
        exact ⟨(purse + 1 - v').toNat, by omega, rfl, v', c', u5, u6, u7, rfl, by omega, up', rfl⟩
      walk_at "go"
      refine ⟨n, C, dx, _, _, rfl, en, ne.cls, ne.ns, rfl, ?_⟩
      walk_at "go"
      refine ⟨n, C, dx, _, _, rfl, en, ne.cls, ne.ns, rfl, ?_⟩
      walk_at "go"
      refine ⟨n, C, dx, _, _, rfl, en, ne.cls, ne.nr, rfl, ?_⟩
      walk_at "go"
      refine ⟨false, false, s, v, r, ps, rs, rfl, hR, gd, ?_⟩
      have hF := Fs_slope (x := -1) (y := v) (by omega) gd
      have hz : Fs rs (-1) = 0 := Fs_zero gd (Int.le_refl _)
      generalize hgn : s + Fs rs v - v = g
      walk_at "go"
      rw [show (fun i j : Int => V.int (i - j)) (s + Fs rs v) v = V.int g from congrArg V.int hgn]
      dsimp only [List.set]
      walk_at "go"
      refine ite2 (fun c1 => ?_) (fun c1 => ?_)
      · have c1 : g ≤ 0 := by rw [← hgn]; exact of_decide_eq_true c1
        walk_at "go"
        refine q none ⟨c, up.low, ?_, ?_⟩
        · rw [up.val]; exact e
        · rw [itF_succ, up.val]; omega
      · have c1 : ¬ g ≤ 0 := fun z => c1 (decide_eq_true (by rw [hgn]; exact z))
        have c1 : 0 < g := by omega
        have lgg := lgW (x := g) (by omega) (by omega)
        walk_at "go"
        refine ⟨n, C, dx, _, _, rfl, en, ne.cls, ne.nr, rfl, ?_⟩
        walk_at "go"
        refine ⟨false, false, v, r, ps, rs, rfl, hR, ?_⟩
        have hq0 : 0 ≤ (purse - v) / g := Int.ediv_nonneg (by omega) (by omega)
        have hqb : (purse - v) / g ≤ purse - v := Int.ediv_le_self _ (by omega)
        obtain ⟨t0, et0⟩ : ∃ t0 : Nat, (purse - v) / g + 1 = (t0 : Int) := ⟨((purse - v) / g + 1).toNat, by omega⟩
        rw [show (fun i j : Int => V.int (i + j)) ((purse - v) / g) 1 = V.int (t0 : Int) from congrArg V.int et0]
        dsimp only [List.set]
        walk_at "go"
        refine ⟨fun σ J' => J' = J ∧ ∃ (t : Nat) (u7 : Option V), 1 ≤ t ∧ (t : Int) ≤ (purse - v) / g + 1 ∧ (∀ x, hiE rs v = some x → (t : Int) ≤ (x - v) / g + 1) ∧ σ = [some (.ref n), some (.int k), some (.int purse), some (.int v), some (.int (c : Int)), some (.int g), some (.int (t : Int)), u7], ?_, ?_⟩
        · have hx0 := (slope_up (v := v) gd).1
          cases hE : hiE rs v with
          | none =>
            walk_at "go"
            exact ⟨t0, _, by omega, by omega, fun x hx => (by first | cases hx | (rw [hE] at hx; cases hx)), rfl⟩
          | some x =>
            have hx := hx0 x hE
            have hq1 : 0 ≤ (x - v) / g := Int.ediv_nonneg (by omega) (by omega)
            walk_at "go"
            obtain ⟨t1, et1⟩ : ∃ t1 : Nat, (if (x - v) / g + 1 < (t0 : Int) then (x - v) / g + 1 else (t0 : Int)) = (t1 : Int) := ⟨((if (x - v) / g + 1 < (t0 : Int) then (x - v) / g + 1 else (t0 : Int))).toNat, by split <;> omega⟩
            refine ⟨t1, _, ?_, ?_, fun y hy => ?_, by rw [← et1]; rfl⟩
            · split at et1 <;> omega
            · split at et1 <;> omega
            · first
                | rw [hE] at hy
                | skip
              injection hy with hy
              rw [← hy]
              split at et1 <;> omega
        · rintro σ J' ⟨rfl, t, u7, ht1, ht2, ht3, rfl⟩
          have lgt := lgW (x := (t : Int)) (by omega) (by omega)
          have st := up.step gd e hgn c1 ht3 ht2
          have hgt : 0 < g * (t : Int) := Int.mul_pos c1 (by omega)
          walk_at "go"
          refine ⟨show g.natAbs.log2 + (t : Int).natAbs.log2 < 1000000 by omega, ?_⟩
          walk_at "go"
          exact ⟨v + g * t, c + t, _, _, _, by omega, st, rfl⟩
    · have e : ¬ v ≤ purse := fun z => e (decide_eq_true z)
      walk_at "go"
      refine q (some (c : Int)) ⟨by omega, fun i hi => ⟨up.low i (by omega), up.inc i (by omega)⟩, ?_⟩
      rw [Int.toNat_natCast, up.val]
      omega
end
end Z
set_option pp.maxSteps 700
set_option Elab.async false
set_option linter.all false
set_option maxRecDepth 100000
set_option maxHeartbeats 4000000
namespace Z
open Nd
open PySem PySem.Spec PyProof.Rows L2
open C8 (pss_cut tCut)
local macro_rules | `(tactic| walk_at "num") => `(tactic| first | rfl | omega | decide | exact Nat.le_of_lt (small1000 (by simp)) | exact ⟨by omega, by omega⟩ | exact ⟨by omega, by omega, by omega⟩ | exact ⟨by decide, by decide, by decide⟩ | exact Or.inl ⟨by omega, by omega⟩ | exact Or.inr ⟨by omega, by omega⟩)
local macro_rules | `(tactic| walk_at "go") => `(tactic| repeat (first | refine ⟨_, rfl, ?_⟩ | refine ⟨_, _, rfl, rfl, ?_⟩ | refine ⟨_, _, rfl, ?_⟩ | (refine ⟨_, _, rfl, rfl, ?_, ?_⟩; focus walk_at "num") | refine Or.inl ⟨_, rfl, ?_⟩ | refine ⟨_, _, _, _, rfl, rfl, (by assumption), (by rfl), ?_⟩ | refine ⟨_, _, _, _, _, rfl, (by assumption), (by assumption), (by assumption), (by rfl), ?_⟩ | refine ⟨rfl, ?_⟩ | (refine And.intro ?_ ?_; focus walk_at "num")))
abbrev s_rounds_down : Stmt := topS 18
abbrev N_rounds_down : List Str := ["need", "k", "purse", "value", "count", "drop", "steps"]
abbrev P_rounds_down : List Str := ["need", "k", "purse"]
theorem sc_rounds_down : FnScope N_rounds_down P_rounds_down (defScope s_rounds_down) := ⟨rfl, rfl, rfl, by decide +kernel, rfl, by decide +kernel, by decide +kernel⟩
section
variable {P : Program} {w : World} {K : PySem.W.Frag} {mg : Str → Option Value} {base : Heap} {f C : Addr} {fd : FuncData}
def spRd (C : Addr) (K : PySem.W.Frag) : Sp := fun vs H Q _ => ∃ (n : Addr) (st : Option Int) (rs : Rs) (nv k : Option Int) (purse : Int), vs = [.ref n, oV k, .int purse] ∧ NeedAt C K H n st rs nv ∧ NdW st rs nv ∧ (∀ v, k = some v → 0 ≤ v ∧ v ≤ 10 ^ 100) ∧ 0 ≤ purse ∧ ∀ r, DnO st rs nv k purse r → Q (oV r) H
theorem ok_rounds_down (F : FnP K "rounds_down" s_rounds_down f fd) (ne : NeK K C) (m_int : mg "int" = none) (m_min : mg "min" = none) (c_value_at : Cal P w K mg base 1 "value_at" (spValueAt K)) (c_low_edge : Cal P w K mg base 1 "low_edge" (spLE K)) : FnOk P w K mg base CX0 2 f fd P_rounds_down (spRd C K) := by
  refine F.ok sc_rounds_down (fun vs H Q E h => ?_) (fun cdv A outer s H vs Q E hr h => ?_)
  · obtain ⟨n, st, rs, nv, k, purse, rfl, _⟩ := h
    rfl
  · obtain ⟨n, st, rs, nv, k, purse, rfl, hN, ndw, hk, hp0, q⟩ := h
    refine ⟨_, PSs.nox (pss_cons (ps_par (i := 3) (j := 4) (by rfl) sc_rounds_down.nd rfl rfl (by decide) rfl rfl (pa_cons (pv 1) (pa_cons pe_int pa_nil)) (by rfl))
      (pss_cut (ps_if (pt_cmpR op_isN (pv 3) pe_non (nomark _)) (pss_one (ps_par (i := 3) (j := 4) (by rfl) sc_rounds_down.nd rfl rfl (by decide) rfl rfl (pa_cons (pe_fld (pv 0) rfl) (pa_cons pe_int pa_nil)) (by rfl))) pss_nil)
      (pss_cons (ps_if (pt_cmpR op_isN (pv 3) pe_non (nomark _)) (pss_one (ps_ret pe_non)) pss_nil)
      (pss_cons (ps_while PassesOwn.never (pt_cmpR op_gt (pv 3) (pv 2) (nomark _))
        (pss_cons (ps_set (i := 5) sc_rounds_down.nd rfl (by first | exact .inl rfl | exact .inr rfl) (pe_ifExp (pt_cmpR op_isN (pe_fld (pv 0) rfl) pe_non (nomark _)) pe_int (pe_op op_sub (pv 3) (pe_cl c_value_at hr (by decide) (by rfl) (pa_cons (pe_fld (pv 0) rfl) (pa_cons (pe_fld (pv 0) rfl) (pa_cons (pv 3) pa_nil)))))))
      (pss_cons (ps_if (pt_cmpR op_le (pv 5) pe_int (nomark _)) (pss_one (ps_ret pe_non)) pss_nil)
      (pss_cons (ps_set (i := 6) sc_rounds_down.nd rfl (by first | exact .inl rfl | exact .inr rfl) (pe_op op_add (pe_op op_fdivW (pe_op op_sub (pv 3) (pe_cl c_low_edge hr (by decide) (by rfl) (pa_cons (pe_fld (pv 0) rfl) (pa_cons (pv 3) pa_nil)))) (pv 5)) pe_int))
      (pss_cons (ps_set (i := 6) sc_rounds_down.nd rfl (by first | exact .inl rfl | exact .inr rfl) (pe_callB (call_min2 rfl) (by rfl) m_min (by decide +kernel) (pa_cons (pe_callTy call_int1 (by rfl) m_int (by decide +kernel) (pa_cons (pv 6) pa_nil)) (pa_cons (pe_op op_sub pe_int (pe_op op_fdivW (pe_op op_sub (pv 2) (pv 3)) (pv 5))) pa_nil))))
      (pss_cons (ps_set (i := 3) sc_rounds_down.nd rfl (by first | exact .inl rfl | exact .inr rfl) (pe_op op_sub (pv 3) (pe_op op_mulW (pv 5) (pv 6))))
      (pss_one (ps_set (i := 4) sc_rounds_down.nd rfl (by first | exact .inl rfl | exact .inr rfl) (pe_op op_add (pv 4) (pv 6))))))))))
      (pss_one (ps_ret (pv 4))))))), ?_⟩
    obtain ⟨dx, r, ps, en, hR, er⟩ := id hN
    obtain ⟨gd, hs, hnv0, hnv⟩ := id ndw
    cases st with
    | none =>
      have hnv := hnv0 rfl
      subst hnv
      cases k with
      | none =>
        walk_at "go"
        refine ⟨fun σ J => J = H ∧ σ = [some (.ref n), some .non, some (.int purse), some .non, some (.int 1), none, none], ?_, ?_⟩
        · walk_at "go"
          refine ⟨n, C, dx, _, _, rfl, en, ne.cls, ne.nn, rfl, ?_⟩
          walk_at "go"
          rfl
        rintro σ J ⟨rfl, rfl⟩
        walk_at "go"
        exact q none DnO.never
      | some k =>
        walk_at "go"
        refine ⟨fun σ J => J = H ∧ σ = [some (.ref n), some (.int k), some (.int purse), some (.int k), some (.int 0), none, none], ?_, ?_⟩
        · walk_at "go"
          rfl
        rintro σ J ⟨rfl, rfl⟩
        walk_at "go"
        refine ⟨fun m σ J' => J' = J ∧ m = 0 ∧ σ = [some (.ref n), some (.int k), some (.int purse), some (.int k), some (.int 0), none, none], ⟨_, rfl, rfl, rfl⟩, ?_⟩
        rintro m σ J' ⟨rfl, rfl, rfl⟩
        walk_at "go"
        refine ite2 (fun e => ?_) (fun e => ?_)
        · have e : purse < k := of_decide_eq_true e
          refine ⟨fun _ _ => False, fun _ _ z => z.elim, ?_⟩
          walk_at "go"
          refine ⟨n, C, dx, _, _, rfl, en, ne.cls, ne.ns, rfl, ?_⟩
          walk_at "go"
          refine q none fun i => ?_
          cases i with
          | zero => exact Int.not_le.mpr e
          | succ i => rw [itO_no]; exact fun z => z
        · have e : ¬ purse < k := fun z => e (decide_eq_true z)
          walk_at "go"
          exact q (some 0) ⟨Int.le_refl _, fun i hi => absurd hi (by omega), Int.not_lt.mp e⟩
    | some s =>
    obtain ⟨h0, h1⟩ := hs s rfl
    walk_at "go"
    refine ⟨fun σ J => J = H ∧ ∃ (v : Option Int) (c0 : Nat), ((∃ x, k = some x ∧ v = some x ∧ c0 = 0) ∨ (k = none ∧ nv = v ∧ c0 = 1)) ∧ σ = [some (.ref n), some (oV k), some (.int purse), some (oV v), some (.int (c0 : Int)), none, none], ?_, ?_⟩
    · cases k with
      | none =>
        walk_at "go"
        refine ⟨n, C, dx, _, _, rfl, en, ne.cls, ne.nn, rfl, ?_⟩
        walk_at "go"
        exact ⟨nv, 1, .inr ⟨rfl, rfl, rfl⟩, rfl⟩
      | some v =>
        walk_at "go"
        exact ⟨some v, 0, .inl ⟨v, rfl, rfl, rfl⟩, rfl⟩
    rintro σ J ⟨rfl, v, c0, hv, rfl⟩
    cases v with
    | none =>
      walk_at "go"
      rcases hv with ⟨x, _, z, _⟩ | ⟨rfl, rfl, _⟩
      · cases z
      · exact q none DnO.never
    | some v0 =>
      have hv0 : 0 ≤ v0 ∧ v0 ≤ 10 ^ 100 := by
        rcases hv with ⟨x, z1, z2, _⟩ | ⟨_, z1, _⟩
        · exact hk _ (by rw [z1, z2])
        · exact hnv _ z1
      have fin : ∀ r', DnR s rs v0 purse r' → Q (oV (r'.map (· + (c0 : Int)))) J := fun r' hr' => by
        rcases hv with ⟨x, rfl, z2, rfl⟩ | ⟨rfl, rfl, rfl⟩
        · cases z2
          have := (hr'.o (nv := nv) gd)
          cases r' with
          | none => exact q _ this
          | some z =>
            refine q _ ?_
            show DnO (some s) rs nv (some v0) purse (some (z + 0))
            rw [Int.add_zero]
            exact this
        · exact q _ (hr'.o gd).late
      walk_at "go"
      refine ite2 (fun e => absurd e (by simp [oV])) (fun _ => ?_)
      walk_at "go"
      refine ⟨fun m σ J' => J' = J ∧ ∃ (v : Int) (c : Nat) (u5 u6 : Option V), m = (v - purse).toNat ∧ v ≤ v0 ∧ Dnw s rs v0 purse c v ∧ σ = [some (.ref n), some (oV k), some (.int purse), some (.int v), some (.int ((c : Int) + c0)), u5, u6], ⟨_, rfl, v0, 0, none, none, rfl, Int.le_refl _, ⟨rfl, fun i hi => absurd hi (Nat.not_lt_zero i), fun i hi => absurd hi (Nat.not_lt_zero i)⟩, by simp [oV]⟩, ?_⟩
      rintro m σ J' ⟨rfl, v, c, u5, u6, rfl, hv, up, rfl⟩
      walk_at "go"
      refine ite2 (fun e => ?_) (fun e => ?_)
      · have e : purse < v := of_decide_eq_true e
        refine ⟨fun σ J2 => J2 = J' ∧ ∃ (v' : Int) (c' : Nat) (u5 u6 : Option V), v' < v ∧ Dnw s rs v0 purse c' v' ∧ σ = [some (.ref n), some (oV k), some (.int purse), some (.int v'), some (.int ((c' : Int) + c0)), u5, u6], ?_, ?_⟩
        · rintro σ' H' ⟨rfl, v', c', u5, u6, hv', up', rfl⟩
          exact ⟨(v' - purse).toNat, by omega, rfl, v', c', u5, u6, rfl, by omega, up', rfl⟩
        walk_at "go"
        refine ⟨n, C, dx, _, _, rfl, en, ne.cls, ne.ns, rfl, ?_⟩
        walk_at "go"
        refine ⟨n, C, dx, _, _, rfl, en, ne.cls, ne.ns, rfl, ?_⟩
        walk_at "go"
        refine ⟨n, C, dx, _, _, rfl, en, ne.cls, ne.nr, rfl, ?_⟩
        walk_at "go"
        refine ⟨false, false, s, v, r, ps, rs, rfl, hR, gd, ?_⟩
        have hF := Fs_slope (x := -1) (y := v) (by omega) gd
        have hz : Fs rs (-1) = 0 := Fs_zero gd (Int.le_refl _)
        generalize hgn : v - (s + Fs rs v) = d
        walk_at "go"
        rw [show (fun i j : Int => V.int (i - j)) v (s + Fs rs v) = V.int d from congrArg V.int hgn]
        dsimp only [List.set]
        walk_at "go"
        refine ite2 (fun c1 => ?_) (fun c1 => ?_)
        · have c1 : d ≤ 0 := by rw [← hgn]; exact of_decide_eq_true c1
          walk_at "go"
          refine fin none ⟨c, up.hih, ?_, ?_⟩
          · rw [up.val]; exact e
          · rw [itF_succ, up.val]; omega
        · have c1 : ¬ d ≤ 0 := fun z => c1 (decide_eq_true (by rw [hgn]; exact z))
          have c1 : 0 < d := by omega
          have lgd := lgW (x := d) (by omega) (by omega)
          have lo := (slope_dn (v := v) gd).1
          walk_at "go"
          refine ⟨n, C, dx, _, _, rfl, en, ne.cls, ne.nr, rfl, ?_⟩
          walk_at "go"
          refine ⟨false, false, v, r, ps, rs, rfl, hR, ?_⟩
          have hq0 : 0 ≤ (v - lowE rs v) / d := Int.ediv_nonneg (by omega) (by omega)
          have hq1 : (purse - v) / d < 0 := Int.ediv_neg_of_neg_of_pos (by omega) c1
          have hq2 : purse - v ≤ (purse - v) / d := by
            have := Int.ediv_mul_le (purse - v) (show d ≠ 0 by omega)
            have h5 := Int.lt_ediv_add_one_mul_self (purse - v) c1
            have h6 : (purse - v) / d * d ≤ (purse - v) / d * 1 := Int.mul_le_mul_of_nonpos_left (by omega) (by omega)
            rw [Int.add_mul, Int.one_mul] at h5
            by_cases z : purse - v ≤ (purse - v) / d
            · exact z
            · exfalso
              have h7 : (purse - v) / d ≤ purse - v - 1 := by omega
              have h8 : ((purse - v) / d + 1) * d ≤ ((purse - v) / d + 1) * 1 := Int.mul_le_mul_of_nonpos_left (by omega) (by omega)
              rw [Int.add_mul, Int.one_mul] at h8
              omega
          walk_at "go"
          obtain ⟨t, et, ht1, ht2, ht3⟩ : ∃ t : Nat, (if 0 - (purse - v) / d < (v - lowE rs v) / d + 1 then 0 - (purse - v) / d else (v - lowE rs v) / d + 1) = (t : Int) ∧ 1 ≤ t ∧ (t : Int) ≤ (v - lowE rs v) / d + 1 ∧ (t : Int) ≤ 0 - (purse - v) / d := by
            split
            · exact ⟨(0 - (purse - v) / d).toNat, by omega, by omega, by omega, by omega⟩
            · exact ⟨((v - lowE rs v) / d + 1).toNat, by omega, by omega, by omega, by omega⟩
          rw [et]
          dsimp only [List.set]
          have lgt := lgW (x := (t : Int)) (by omega) (by omega)
          have st := up.step gd e hgn c1 ht2 ht3
          have hdt : 0 < d * (t : Int) := Int.mul_pos c1 (by omega)
          refine ⟨show d.natAbs.log2 + (t : Int).natAbs.log2 < 1000000 by omega, ?_⟩
          walk_at "go"
          exact ⟨v - d * t, c + t, _, _, by omega, st, by rw [show ((c + t : Nat) : Int) + (c0 : Int) = (c : Int) + (c0 : Int) + (t : Int) by omega]; rfl⟩
      · have e : ¬ purse < v := fun z => e (decide_eq_true z)
        walk_at "go"
        refine fin (some (c : Int)) ⟨by omega, fun i hi => ⟨up.hih i (by omega), up.dec i (by omega)⟩, ?_⟩
        rw [Int.toNat_natCast, up.val]
        omega
end
end Z
set_option pp.maxSteps 700
set_option Elab.async false
set_option linter.all false
set_option maxRecDepth 100000
set_option maxHeartbeats 4000000
namespace Z
open Nd
open PySem PySem.Spec PyProof.Rows L2
open C8 (pss_cut tCut)
local macro_rules | `(tactic| walk_at "num") => `(tactic| first | rfl | omega | decide | exact Nat.le_of_lt (small1000 (by simp)) | exact ⟨by omega, by omega⟩ | exact ⟨by omega, by omega, by omega⟩ | exact ⟨by decide, by decide, by decide⟩ | exact Or.inl ⟨by omega, by omega⟩ | exact Or.inr ⟨by omega, by omega⟩)
local macro_rules | `(tactic| walk_at "go") => `(tactic| repeat (first | refine ⟨_, rfl, ?_⟩ | refine ⟨_, _, rfl, rfl, ?_⟩ | refine ⟨_, _, rfl, ?_⟩ | (refine ⟨_, _, rfl, rfl, ?_, ?_⟩; focus walk_at "num") | refine Or.inl ⟨_, rfl, ?_⟩ | refine ⟨_, _, _, _, rfl, rfl, (by assumption), (by rfl), ?_⟩ | refine ⟨_, _, _, _, _, rfl, (by assumption), (by assumption), (by assumption), (by rfl), ?_⟩ | refine ⟨rfl, ?_⟩ | (refine And.intro ?_ ?_; focus walk_at "num")))
abbrev s_lowest_of : Stmt := topS 16
abbrev N_lowest_of : List Str := ["need", "k", "limit", "value", "left", "drop", "steps"]
abbrev P_lowest_of : List Str := ["need", "k", "limit"]
theorem sc_lowest_of : FnScope N_lowest_of P_lowest_of (defScope s_lowest_of) := ⟨rfl, rfl, rfl, by decide +kernel, rfl, by decide +kernel, by decide +kernel⟩
section
variable {P : Program} {w : World} {K : PySem.W.Frag} {mg : Str → Option Value} {base : Heap} {f C : Addr} {fd : FuncData}
def spLo (C : Addr) (K : PySem.W.Frag) : Sp := fun vs H Q _ => ∃ (n : Addr) (st : Option Int) (rs : Rs) (nv k : Option Int) (lim : Nat), vs = [.ref n, oV k, .int (lim : Int)] ∧ NeedAt C K H n st rs nv ∧ NdW st rs nv ∧ (∀ v, k = some v → 0 ≤ v ∧ v ≤ 10 ^ 100) ∧ (lim : Int) ≤ 10 ^ 100 ∧ ∀ r, LoO st rs nv k lim r → Q (oV r) H
theorem ok_lowest_of (F : FnP K "lowest_of" s_lowest_of f fd) (ne : NeK K C) (m_int : mg "int" = none) (m_min : mg "min" = none) (c_value_at : Cal P w K mg base 1 "value_at" (spValueAt K)) (c_low_edge : Cal P w K mg base 1 "low_edge" (spLE K)) : FnOk P w K mg base CX0 2 f fd P_lowest_of (spLo C K) := by
  refine F.ok sc_lowest_of (fun vs H Q E h => ?_) (fun cdv A outer s H vs Q E hr h => ?_)
  · obtain ⟨n, st, rs, nv, k, lim, rfl, _⟩ := h
    rfl
  · obtain ⟨n, st, rs, nv, k, lim, rfl, hN, ndw, hk, hl, q⟩ := h
    refine ⟨_, PSs.nox (pss_cons (ps_par (i := 3) (j := 4) (by rfl) sc_lowest_of.nd rfl rfl (by decide) rfl rfl (pa_cons (pv 1) (pa_cons (pv 2) pa_nil)) (by rfl))
      (pss_cut (ps_if (PW.pt (pw_and (pt_cmpR op_isN (pv 3) pe_non (nomark _)) (pw_and1 (pt_cmpR op_gt (pv 4) pe_int (nomark _))))) (pss_one (ps_par (i := 3) (j := 4) (by rfl) sc_lowest_of.nd rfl rfl (by decide) rfl rfl (pa_cons (pe_fld (pv 0) rfl) (pa_cons (pe_op op_sub (pv 4) pe_int) pa_nil)) (by rfl))) pss_nil)
      (pss_cons (ps_if (PW.pt (pw_or (pt_cmpR op_isN (pv 3) pe_non (nomark _)) (pw_or1 (pt_cmpR op_isN (pe_fld (pv 0) rfl) pe_non (nomark _))))) (pss_one (ps_ret (pv 3))) pss_nil)
      (pss_cons (ps_while PassesOwn.never (pt_cmpR op_gt (pv 4) pe_int (nomark _))
        (pss_cons (ps_set (i := 5) sc_lowest_of.nd rfl (by first | exact .inl rfl | exact .inr rfl) (pe_op op_sub (pv 3) (pe_cl c_value_at hr (by decide) (by rfl) (pa_cons (pe_fld (pv 0) rfl) (pa_cons (pe_fld (pv 0) rfl) (pa_cons (pv 3) pa_nil))))))
      (pss_cons (ps_if (pt_cmpR op_le (pv 5) pe_int (nomark _)) (pss_one ps_break) pss_nil)
      (pss_cons (ps_set (i := 6) sc_lowest_of.nd rfl (by first | exact .inl rfl | exact .inr rfl) (pe_callB (call_min2 rfl) (by rfl) m_min (by decide +kernel) (pa_cons (pe_callTy call_int1 (by rfl) m_int (by decide +kernel) (pa_cons (pv 4) pa_nil)) (pa_cons (pe_op op_add (pe_op op_fdivW (pe_op op_sub (pv 3) (pe_cl c_low_edge hr (by decide) (by rfl) (pa_cons (pe_fld (pv 0) rfl) (pa_cons (pv 3) pa_nil)))) (pv 5)) pe_int) pa_nil))))
      (pss_cons (ps_set (i := 3) sc_lowest_of.nd rfl (by first | exact .inl rfl | exact .inr rfl) (pe_op op_sub (pv 3) (pe_op op_mulW (pv 5) (pv 6))))
      (pss_one (ps_set (i := 4) sc_lowest_of.nd rfl (by first | exact .inl rfl | exact .inr rfl) (pe_op op_sub (pv 4) (pv 6)))))))))
      (pss_one (ps_ret (pv 3))))))), ?_⟩
    obtain ⟨dx, r, ps, en, hR, er⟩ := id hN
    obtain ⟨gd, hs, hnv0, hnv⟩ := id ndw
    walk_at "go"
    refine ⟨fun σ J => J = H ∧ ∃ (v : Option Int) (l : Nat), l ≤ lim ∧ ((∃ x, v = some x ∧ 0 ≤ x ∧ x ≤ 10 ^ 100 ∧ ∀ r, LoO st rs nv v l r → LoO st rs nv k lim r) ∨ (v = none ∧ LoO st rs nv k lim none)) ∧ σ = [some (.ref n), some (oV k), some (.int (lim : Int)), some (oV v), some (.int (l : Int)), none, none], ?_, ?_⟩
    · cases k with
      | none =>
        walk_at "go"
        refine ite2 (fun e => ?_) (fun e => ?_)
        · have e : (0 : Int) < lim := of_decide_eq_true e
          walk_at "go"
          refine ⟨n, C, dx, _, _, rfl, en, ne.cls, ne.nn, rfl, ?_⟩
          walk_at "go"
          refine ⟨nv, lim - 1, by omega, ?_, by rw [show ((lim - 1 : Nat) : Int) = (lim : Int) - 1 by omega]; rfl⟩
          cases hv : nv with
          | none => exact .inr ⟨rfl, LoO.end_⟩
          | some v =>
            have hv2 := hnv v hv
            refine .inl ⟨v, rfl, hv2.1, hv2.2, fun r hr => ?_⟩
            cases hst : st with
            | none =>
              have := hnv0 hst
              rw [hv] at this
              cases this
            | some s0 =>
              rw [hst] at hr
              have := hr.late
              rw [show lim - 1 + 1 = lim by omega] at this
              exact this
        · have e : ¬ (0 : Int) < lim := fun z => e (decide_eq_true z)
          obtain rfl : lim = 0 := by omega
          exact ⟨rfl, none, 0, Nat.le_refl _, .inr ⟨rfl, LoO.zero⟩, rfl⟩
      | some v =>
        have hv2 := hk v rfl
        walk_at "go"
        exact ⟨some v, lim, Nat.le_refl _, .inl ⟨v, rfl, hv2.1, hv2.2, fun r hr => hr⟩, rfl⟩
    rintro σ J ⟨rfl, v, l0, hl0, hv, rfl⟩
    rcases hv with ⟨x, rfl, x0, x1, hx⟩ | ⟨rfl, hx⟩
    · cases st with
      | none =>
        walk_at "go"
        refine ⟨n, C, dx, _, _, rfl, en, ne.cls, ne.ns, rfl, ?_⟩
        walk_at "go"
        have := hnv0 rfl
        subst this
        exact q _ (hx _ LoO.no)
      | some s =>
      obtain ⟨h0, h1⟩ := hs s rfl
      walk_at "go"
      refine ⟨n, C, dx, _, _, rfl, en, ne.cls, ne.ns, rfl, ?_⟩
      walk_at "go"
      have fin : ∀ v, LoF s rs x l0 v → Q (.int v) J := fun v hv => q (some v) (hx _ hv.o)
      refine ⟨fun m σ J' => J' = J ∧ ∃ (v : Int) (c l : Nat) (u5 u6 : Option V), l = m ∧ v ≤ x ∧ c + l = l0 ∧ Dw s rs x c v ∧ σ = [some (.ref n), some (oV k), some (.int (lim : Int)), some (.int v), some (.int (l : Int)), u5, u6], ⟨_, rfl, x, 0, l0, none, none, rfl, Int.le_refl _, Nat.zero_add _, ⟨rfl, fun i hi => absurd hi (Nat.not_lt_zero i)⟩, rfl⟩, ?_⟩
      rintro m σ J' ⟨rfl, v, c, l, u5, u6, rfl, hv, hcl, up, rfl⟩
      walk_at "go"
      refine ite2 (fun e => ?_) (fun e => ?_)
      · have e : (0 : Int) < l := of_decide_eq_true e
        refine ⟨fun σ J2 => J2 = J' ∧ ∃ (v' : Int) (c' l' : Nat) (u5 u6 : Option V), l' < l ∧ v' ≤ x ∧ c' + l' = l0 ∧ Dw s rs x c' v' ∧ σ = [some (.ref n), some (oV k), some (.int (lim : Int)), some (.int v'), some (.int (l' : Int)), u5, u6], ?_, ?_⟩
        · rintro σ' H' ⟨rfl, v', c', l', u5, u6, hl', hv', hcl', up', rfl⟩
          exact ⟨l', hl', rfl, v', c', l', u5, u6, rfl, hv', hcl', up', rfl⟩
        walk_at "go"
        refine ⟨n, C, dx, _, _, rfl, en, ne.cls, ne.ns, rfl, ?_⟩
        walk_at "go"
        refine ⟨n, C, dx, _, _, rfl, en, ne.cls, ne.nr, rfl, ?_⟩
        walk_at "go"
        refine ⟨false, false, s, v, r, ps, rs, rfl, hR, gd, ?_⟩
        have hz : Fs rs (-1) = 0 := Fs_zero gd (Int.le_refl _)
        have hF0 : 0 ≤ Fs rs v := (Fs_slope (x := v) (y := v) (Int.le_refl _) gd).1
        generalize hgn : v - (s + Fs rs v) = d
        walk_at "go"
        rw [show (fun i j : Int => V.int (i - j)) v (s + Fs rs v) = V.int d from congrArg V.int hgn]
        dsimp only [List.set]
        walk_at "go"
        refine ite2 (fun c1 => ?_) (fun c1 => ?_)
        · have c1 : d ≤ 0 := by rw [← hgn]; exact of_decide_eq_true c1
          walk_at "go"
          exact fin _ (up.lo gd (by omega) (.inr (by omega)))
        · have c1 : ¬ d ≤ 0 := fun z => c1 (decide_eq_true (by rw [hgn]; exact z))
          have c1 : 0 < d := by omega
          have lgd := lgW (x := d) (by omega) (by omega)
          have lo := (slope_dn (v := v) gd).1
          walk_at "go"
          refine ⟨n, C, dx, _, _, rfl, en, ne.cls, ne.nr, rfl, ?_⟩
          walk_at "go"
          refine ⟨false, false, v, r, ps, rs, rfl, hR, ?_⟩
          have hq0 : 0 ≤ (v - lowE rs v) / d := Int.ediv_nonneg (by omega) (by omega)
          walk_at "go"
          obtain ⟨t, et, ht1, ht2, ht3⟩ : ∃ t : Nat, (if (v - lowE rs v) / d + 1 < (l : Int) then (v - lowE rs v) / d + 1 else (l : Int)) = (t : Int) ∧ 1 ≤ t ∧ (t : Int) ≤ (v - lowE rs v) / d + 1 ∧ t ≤ l := by
            split
            · exact ⟨((v - lowE rs v) / d + 1).toNat, by omega, by omega, by omega, by omega⟩
            · exact ⟨l, by omega, by omega, by omega, by omega⟩
          rw [et]
          dsimp only [List.set]
          have lgt := lgW (x := (t : Int)) (by omega) (by omega)
          have st := up.step gd hgn c1 ht2
          have hdt : 0 < d * (t : Int) := Int.mul_pos c1 (by omega)
          refine ⟨show d.natAbs.log2 + (t : Int).natAbs.log2 < 1000000 by omega, ?_⟩
          walk_at "go"
          exact ⟨v - d * t, c + t, l - t, _, _, by omega, by omega, by omega, st, by rw [show ((l - t : Nat) : Int) = (l : Int) - t by omega]; rfl⟩
      · have e : ¬ (0 : Int) < l := fun z => e (decide_eq_true z)
        walk_at "go"
        exact fin _ (up.lo gd (by omega) (.inl (by omega)))
    · walk_at "go"
      exact q none hx
end
end Z
set_option pp.maxSteps 700
set_option Elab.async false
set_option linter.all false
set_option maxRecDepth 100000
set_option maxHeartbeats 4000000
namespace Z
open Nd
open PySem PySem.Spec PyProof.Rows L2
open C8 (pss_cut tCut)
local macro_rules | `(tactic| walk_at "num") => `(tactic| first | rfl | omega | decide | exact Nat.le_of_lt (small1000 (by simp)) | exact ⟨by omega, by omega⟩ | exact ⟨by omega, by omega, by omega⟩ | exact ⟨by decide, by decide, by decide⟩ | exact Or.inl ⟨by omega, by omega⟩ | exact Or.inr ⟨by omega, by omega⟩)
local macro_rules | `(tactic| walk_at "go") => `(tactic| repeat (first | refine ⟨_, rfl, ?_⟩ | refine ⟨_, _, rfl, rfl, ?_⟩ | refine ⟨_, _, rfl, ?_⟩ | (refine ⟨_, _, rfl, rfl, ?_, ?_⟩; focus walk_at "num") | refine Or.inl ⟨_, rfl, ?_⟩ | refine ⟨_, _, _, _, rfl, rfl, (by assumption), (by rfl), ?_⟩ | refine ⟨_, _, _, _, _, rfl, (by assumption), (by assumption), (by assumption), (by rfl), ?_⟩ | refine ⟨rfl, ?_⟩ | (refine And.intro ?_ ?_; focus walk_at "num")))
abbrev s_highest_of : Stmt := topS 17
abbrev N_highest_of : List Str := ["need", "k", "limit", "value", "left", "gain", "edge", "steps"]
abbrev P_highest_of : List Str := ["need", "k", "limit"]
theorem sc_highest_of : FnScope N_highest_of P_highest_of (defScope s_highest_of) := ⟨rfl, rfl, rfl, by decide +kernel, rfl, by decide +kernel, by decide +kernel⟩
section
variable {P : Program} {w : World} {K : PySem.W.Frag} {mg : Str → Option Value} {base : Heap} {f C : Addr} {fd : FuncData}
def spHi (C : Addr) (K : PySem.W.Frag) : Sp := fun vs H Q _ => ∃ (n : Addr) (st : Option Int) (rs : Rs) (nv k : Option Int) (lim : Nat), vs = [.ref n, oV k, .int (lim : Int)] ∧ NeedAt C K H n st rs nv ∧ NdW st rs nv ∧ (∀ v, k = some v → 0 ≤ v) ∧ (lim : Int) ≤ 10 ^ 100 ∧ ∀ r, HiO st rs nv k lim r → Q (oV r) H
theorem ok_highest_of (F : FnP K "highest_of" s_highest_of f fd) (ne : NeK K C) (m_int : mg "int" = none) (m_min : mg "min" = none) (c_value_at : Cal P w K mg base 1 "value_at" (spValueAt K)) (c_high_edge : Cal P w K mg base 1 "high_edge" (spHE K)) : FnOk P w K mg base CX0 2 f fd P_highest_of (spHi C K) := by
  refine F.ok sc_highest_of (fun vs H Q E h => ?_) (fun cdv A outer s H vs Q E hr h => ?_)
  · obtain ⟨n, st, rs, nv, k, lim, rfl, _⟩ := h
    rfl
  · obtain ⟨n, st, rs, nv, k, lim, rfl, hN, ndw, hk, hl, q⟩ := h
    refine ⟨_, PSs.nox (pss_cons (ps_if (PW.pt (pw_or (pt_cmpR op_isN (pv 1) pe_non (nomark _)) (pw_or1 (pt_cmpR op_eq (pv 2) pe_int (nomark _))))) (pss_one (ps_ret (pv 1))) pss_nil)
      (pss_cons (ps_if (pt_cmpR op_isN (pe_fld (pv 0) rfl) pe_non (nomark _)) (pss_one (ps_ret pe_non)) pss_nil)
      (pss_cons (ps_par (i := 3) (j := 4) (by rfl) sc_highest_of.nd rfl rfl (by decide) rfl rfl (pa_cons (pv 1) (pa_cons (pv 2) pa_nil)) (by rfl))
      (pss_cons (ps_while PassesOwn.never (pt_cmpR op_gt (pv 4) pe_int (nomark _))
        (pss_cons (ps_set (i := 5) sc_highest_of.nd rfl (by first | exact .inl rfl | exact .inr rfl) (pe_op op_sub (pe_cl c_value_at hr (by decide) (by rfl) (pa_cons (pe_fld (pv 0) rfl) (pa_cons (pe_fld (pv 0) rfl) (pa_cons (pv 3) pa_nil)))) (pv 3)))
      (pss_cons (ps_if (pt_cmpR op_le (pv 5) pe_int (nomark _)) (pss_one ps_break) pss_nil)
      (pss_cons (ps_set (i := 6) sc_highest_of.nd rfl (by first | exact .inl rfl | exact .inr rfl) (pe_cl c_high_edge hr (by decide) (by rfl) (pa_cons (pe_fld (pv 0) rfl) (pa_cons (pv 3) pa_nil))))
      (pss_cons (ps_set (i := 7) sc_highest_of.nd rfl (by first | exact .inl rfl | exact .inr rfl) (pe_ifExp (pt_cmpR op_isN (pv 6) pe_non (nomark _)) (pv 4) (pe_callB (call_min2 rfl) (by rfl) m_min (by decide +kernel) (pa_cons (pe_callTy call_int1 (by rfl) m_int (by decide +kernel) (pa_cons (pv 4) pa_nil)) (pa_cons (pe_op op_add (pe_op op_fdivW (pe_op op_sub (pv 6) (pv 3)) (pv 5)) pe_int) pa_nil)))))
      (pss_cons (ps_set (i := 3) sc_highest_of.nd rfl (by first | exact .inl rfl | exact .inr rfl) (pe_op op_add (pv 3) (pe_op op_mulW (pv 5) (pv 7))))
      (pss_one (ps_set (i := 4) sc_highest_of.nd rfl (by first | exact .inl rfl | exact .inr rfl) (pe_op op_sub (pv 4) (pv 7))))))))))
      (pss_one (ps_ret (pv 3))))))), ?_⟩
    obtain ⟨dx, r, ps, en, hR, er⟩ := id hN
    obtain ⟨gd, hs, hnv0, hnv⟩ := id ndw
    cases k with
    | none =>
      walk_at "go"
      exact q none HiO.top
    | some x =>
    have x0 := hk x rfl
    walk_at "go"
    refine ite2 (fun e => ?_) (fun e => ?_)
    · have e : (lim : Int) = 0 := by
        have := of_decide_eq_true e
        injection this
      obtain rfl : lim = 0 := by omega
      walk_at "go"
      exact q (some x) HiO.zero
    have e : ¬ (lim : Int) = 0 := fun z => e (decide_eq_true (congrArg V.int z))
    cases st with
    | none =>
      walk_at "go"
      refine ⟨n, C, dx, _, _, rfl, en, ne.cls, ne.ns, rfl, ?_⟩
      walk_at "go"
      obtain ⟨l, rfl⟩ : ∃ l, lim = l + 1 := ⟨lim - 1, by omega⟩
      have := hnv0 rfl
      subst this
      exact q none HiO.no
    | some s =>
    obtain ⟨h0, h1⟩ := hs s rfl
    walk_at "go"
    refine ⟨n, C, dx, _, _, rfl, en, ne.cls, ne.ns, rfl, ?_⟩
    walk_at "go"
    have fin : ∀ v, HiF s rs x lim v → Q (.int v) H := fun v hv => q (some v) hv.o
    refine ⟨fun m σ J' => J' = H ∧ ∃ (v : Int) (c l : Nat) (u5 u6 u7 : Option V), l = m ∧ 0 ≤ v ∧ c + l = lim ∧ Uw s rs x c v ∧ σ = [some (.ref n), some (.int x), some (.int (lim : Int)), some (.int v), some (.int (l : Int)), u5, u6, u7], ⟨_, rfl, x, 0, lim, none, none, none, rfl, x0, Nat.zero_add _, ⟨rfl, fun i hi => absurd hi (Nat.not_lt_zero i)⟩, rfl⟩, ?_⟩
    rintro m σ J' ⟨rfl, v, c, l, u5, u6, u7, rfl, hv, hcl, up, rfl⟩
    walk_at "go"
    refine ite2 (fun e => ?_) (fun e => ?_)
    · have e : (0 : Int) < l := of_decide_eq_true e
      refine ⟨fun σ J2 => J2 = J' ∧ ∃ (v' : Int) (c' l' : Nat) (u5 u6 u7 : Option V), l' < l ∧ 0 ≤ v' ∧ c' + l' = lim ∧ Uw s rs x c' v' ∧ σ = [some (.ref n), some (.int x), some (.int (lim : Int)), some (.int v'), some (.int (l' : Int)), u5, u6, u7], ?_, ?_⟩
      · rintro σ' H' ⟨rfl, v', c', l', u5, u6, u7, hl', hv', hcl', up', rfl⟩
        exact ⟨l', hl', rfl, v', c', l', u5, u6, u7, rfl, hv', hcl', up', rfl⟩
      walk_at "go"
      refine ⟨n, C, dx, _, _, rfl, en, ne.cls, ne.ns, rfl, ?_⟩
      walk_at "go"
      refine ⟨n, C, dx, _, _, rfl, en, ne.cls, ne.nr, rfl, ?_⟩
      walk_at "go"
      refine ⟨false, false, s, v, r, ps, rs, rfl, hR, gd, ?_⟩
      have hF := Fs_slope (x := -1) (y := v) (by omega) gd
      have hz : Fs rs (-1) = 0 := Fs_zero gd (Int.le_refl _)
      generalize hgn : s + Fs rs v - v = g
      walk_at "go"
      rw [show (fun i j : Int => V.int (i - j)) (s + Fs rs v) v = V.int g from congrArg V.int hgn]
      dsimp only [List.set]
      walk_at "go"
      refine ite2 (fun c1 => ?_) (fun c1 => ?_)
      · have c1 : g ≤ 0 := by rw [← hgn]; exact of_decide_eq_true c1
        walk_at "go"
        exact fin _ (up.hi gd (by omega) (.inr (by omega)))
      · have c1 : ¬ g ≤ 0 := fun z => c1 (decide_eq_true (by rw [hgn]; exact z))
        have c1 : 0 < g := by omega
        have lgg := lgW (x := g) (by omega) (by omega)
        walk_at "go"
        refine ⟨n, C, dx, _, _, rfl, en, ne.cls, ne.nr, rfl, ?_⟩
        walk_at "go"
        refine ⟨false, false, v, r, ps, rs, rfl, hR, ?_⟩
        have hx0 := (slope_up (v := v) gd).1
        have main : ∀ t : Nat, 1 ≤ t → t ≤ l → (∀ x, hiE rs v = some x → (t : Int) ≤ (x - v) / g + 1) → (t : Int).natAbs.log2 < 340 ∧ 0 < g * (t : Int) ∧ Uw s rs x (c + t) (v + g * t) := fun t h1 h2 h3 =>
          ⟨lgW (x := (t : Int)) (by omega) (by omega), Int.mul_pos c1 (by omega), up.step gd hgn c1 h3⟩
        cases hE : hiE rs v with
        | none =>
          obtain ⟨lgt, hgt, st⟩ := main l (by omega) (Nat.le_refl _) (fun x hx => by rw [hE] at hx; cases hx)
          walk_at "go"
          refine ⟨show g.natAbs.log2 + (l : Int).natAbs.log2 < 1000000 by omega, ?_⟩
          walk_at "go"
          exact ⟨v + g * l, c + l, 0, _, _, _, by omega, by omega, by omega, st, by rw [show ((0 : Nat) : Int) = (l : Int) - l by omega]; rfl⟩
        | some y =>
          have hx := hx0 y hE
          have hq1 : 0 ≤ (y - v) / g := Int.ediv_nonneg (by omega) (by omega)
          walk_at "go"
          obtain ⟨t, et, ht1, ht2, ht3⟩ : ∃ t : Nat, (if (y - v) / g + 1 < (l : Int) then (y - v) / g + 1 else (l : Int)) = (t : Int) ∧ 1 ≤ t ∧ (t : Int) ≤ (y - v) / g + 1 ∧ t ≤ l := by
            split
            · exact ⟨((y - v) / g + 1).toNat, by omega, by omega, by omega, by omega⟩
            · exact ⟨l, by omega, by omega, by omega, by omega⟩
          rw [et]
          dsimp only [List.set]
          obtain ⟨lgt, hgt, st⟩ := main t ht1 ht3 (fun x hx => by rw [hE] at hx; cases hx; exact ht2)
          refine ⟨show g.natAbs.log2 + (t : Int).natAbs.log2 < 1000000 by omega, ?_⟩
          walk_at "go"
          exact ⟨v + g * t, c + t, l - t, _, _, _, by omega, by omega, by omega, st, by rw [show ((l - t : Nat) : Int) = (l : Int) - t by omega]; rfl⟩
    · have e : ¬ (0 : Int) < l := fun z => e (decide_eq_true z)
      walk_at "go"
      exact fin _ (up.hi gd (by omega) (.inl (by omega)))
end
end Z
set_option Elab.async false
set_option linter.all false
set_option maxRecDepth 100000
set_option maxHeartbeats 4000000
namespace Z
open PySem PySem.Spec PyProof.Rows L2
/-! ### comprehensions that give ints, over a list of ints and over a range -/
theorem lc_ofs {K : PySem.W.Frag} {J : It} {D : Addr} {n : Nat} {H0 : Hp} {i : Nat} {te : TE} {vs : List Nat} {σ : L2.St} {Qd : Hp → Prop} (g : Nat → Int) (xv : Nat → V) (hn : n ≤ 1000000) (nD : H0 D = none)
    (hgo : ∀ k H1, k < n → Same H0 H1 → J.go k H1) (hst : ∀ H1, Same H0 H1 → J.stop n H1) (hy : ∀ k H1 x H2, k < n → Same H0 H1 → J.yld k H1 x H2 → H2 = H1 ∧ x = xv k)
    (hw : ∀ k, wipe ((wipe σ vs).set i (some (xv k))) vs = wipe σ vs)
    (ht : ∀ k H1 (Q : VK), k < n → Same H0 H1 → (∀ H2, Same H1 H2 → Q (.int (g k)) H2) → te ((wipe σ vs).set i (some (xv k))) H1 Q)
    (hd : ∀ H1, Same H0 H1 → H1 D = some (.lst (((List.range n).map g).map V.int)) → Qd H1) : lcW J (gName i) tYes te vs σ D Qd H0 := by
  refine lc_gen (n := n) (fun k H1 => Same H0 H1 ∧ H1 D = some (.lst (((List.range k).map g).map V.int))) ⟨same_new nD, upd_same⟩ (fun k H1 hk p => hgo k H1 hk p.1) (fun H1 p => hst H1 p.1) ?_ (fun H1 p => hd H1 p.1 p.2)
  rintro k H1 x H2 hk ⟨s, e⟩ y
  obtain ⟨rfl, rfl⟩ := hy k H1 x H2 hk s y
  refine ⟨hw k, ?_⟩
  refine ht k _ _ hk s (fun H3 s3 => ⟨_, s3 _ _ e, ?_, Z.Same.mut (s.trans s3) nD, ?_⟩)
  · rw [List.length_map, List.length_map, List.length_range]
    exact Nat.lt_of_lt_of_le hk (Nat.le_trans hn (by decide))
  · rw [upd_same, List.range_succ, List.map_append, List.map_append]
    rfl
theorem lc_rng {K : PySem.W.Frag} {lo : Int} {D : Addr} {n : Nat} {H0 : Hp} {i : Nat} {te : TE} {vs : List Nat} {σ : L2.St} {Qd : Hp → Prop} (g : Nat → Int) (hn : n ≤ 1000000) (nD : H0 D = none) (hw : ∀ k : Nat, wipe ((wipe σ vs).set i (some (.int (lo + k)))) vs = wipe σ vs)
    (ht : ∀ (k : Nat) H1 (Q : VK), k < n → Same H0 H1 → (∀ H2, Same H1 H2 → Q (.int (g k)) H2) → te ((wipe σ vs).set i (some (.int (lo + k)))) H1 Q)
    (hd : ∀ H1, Same H0 H1 → H1 D = some (.lst (((List.range n).map g).map V.int)) → Qd H1) : lcW (Itr lo n) (gName i) tYes te vs σ D Qd H0 :=
  lc_ofs (K := K) g (fun k => .int (lo + k)) hn nD (fun k H1 hk _ => hk) (fun H1 _ => Nat.le_refl _) (fun k H1 x H2 _ _ y => y) hw ht hd
theorem lc_lst {K : PySem.W.Frag} {a D : Addr} {xs : List Int} {H0 : Hp} {i : Nat} {te : TE} {vs : List Nat} {σ : L2.St} {Qd : Hp → Prop} (hS : SqL K H0 a (xs.map V.int)) (g : Int → Int) (hn : xs.length ≤ 1000000) (nD : H0 D = none) (hw : ∀ x : Int, wipe ((wipe σ vs).set i (some (.int x))) vs = wipe σ vs)
    (ht : ∀ x H1 (Q : VK), x ∈ xs → Same H0 H1 → (∀ H2, Same H1 H2 → Q (.int (g x)) H2) → te ((wipe σ vs).set i (some (.int x))) H1 Q)
    (hd : ∀ H1, Same H0 H1 → H1 D = some (.lst ((xs.map g).map V.int)) → Qd H1) : lcW (Itl K a) (gName i) tYes te vs σ D Qd H0 := by
  have ex : ∀ k, k < xs.length → (xs.map V.int)[k]? = some (.int (xs.getD k 0)) := fun k hk => by
    rw [List.getElem?_map, List.getD_eq_getElem?_getD, List.getElem?_eq_getElem hk]
    rfl
  refine lc_ofs (K := K) (n := xs.length) (fun k => g (xs.getD k 0)) (fun k => .int (xs.getD k 0)) hn nD (fun k H1 hk s => ⟨_, _, s.seq hS, ex k hk⟩) (fun H1 s => ⟨_, s.seq hS, by rw [List.length_map]; exact Nat.le_refl _⟩) (fun k H1 x H2 hk s y => ⟨y.1, Option.some.inj ((y.2 _ (s.seq hS)).symm.trans (ex k hk))⟩) (fun k => hw _) (fun k H1 Q hk s q => ht _ H1 Q ?_ s q) (fun H1 s e => hd H1 s ?_)
  · rw [List.getD_eq_getElem?_getD, List.getElem?_eq_getElem hk]
    exact List.getElem_mem hk
  · rw [e]
    congr 2
    congr 1
    apply List.ext_getElem
    · rw [List.length_map, List.length_map, List.length_range]
    · intro k h1 h2
      rw [List.length_map] at h2
      rw [List.getElem_map, List.getElem_map, List.getElem_range, List.getD_eq_getElem?_getD, List.getElem?_eq_getElem h2]
      rfl
/-- for x in xs, ints -/
theorem for_lst {K : PySem.W.Frag} {a : Addr} {xs : List Int} {H0 H : Hp} {i : Nat} {tb : TS} {D : Ends} {σ : L2.St} (hS : SqL K H0 a (xs.map V.int)) (Pv : Nat → L2.St → Hp → Prop) (h0 : Pv 0 σ H) (hq : ∀ k σ H1, Pv k σ H1 → Same H0 H1)
    (hs : ∀ (k : Nat) (x : Int) (σ : L2.St) (H1 : Hp), xs[k]? = some x → Pv k σ H1 → tb { D with nx := Pv (k + 1), ct := Pv (k + 1), bk := D.nx } (σ.set i (some (.int x))) H1)
    (hd : ∀ σ H1, Pv xs.length σ H1 → D.nx σ H1) : forW (Itl K a) (gName i) tb D σ H := by
  have ex : ∀ k, k < xs.length → (xs.map V.int)[k]? = some (.int (xs.getD k 0)) := fun k hk => by
    rw [List.getElem?_map, List.getD_eq_getElem?_getD, List.getElem?_eq_getElem hk]
    rfl
  refine for_gen (n := xs.length) Pv h0 (fun k σ H1 hk p => ⟨_, _, (hq k σ H1 p).seq hS, ex k hk⟩) (fun σ H1 p => ⟨_, (hq _ σ H1 p).seq hS, by rw [List.length_map]; exact Nat.le_refl _⟩) ?_ hd
  intro k σ H1 x H2 hk p y
  obtain ⟨rfl, e⟩ := y
  have e2 := Option.some.inj ((e _ ((hq k σ _ p).seq hS)).symm.trans (ex k hk))
  subst e2
  refine hs k _ σ _ ?_ p
  rw [List.getD_eq_getElem?_getD, List.getElem?_eq_getElem hk]
  rfl
/-- for x in xs, any values -/
theorem for_vs {K : PySem.W.Frag} {a : Addr} {xs : List V} {H0 H : Hp} {i : Nat} {tb : TS} {D : Ends} {σ : L2.St} (hS : SqL K H0 a xs) (Pv : Nat → L2.St → Hp → Prop) (h0 : Pv 0 σ H) (hq : ∀ k σ H1, Pv k σ H1 → Same H0 H1)
    (hs : ∀ (k : Nat) (x : V) (σ : L2.St) (H1 : Hp), xs[k]? = some x → Pv k σ H1 → tb { D with nx := Pv (k + 1), ct := Pv (k + 1), bk := D.nx } (σ.set i (some x)) H1)
    (hd : ∀ σ H1, Pv xs.length σ H1 → D.nx σ H1) : forW (Itl K a) (gName i) tb D σ H := by
  refine for_gen (n := xs.length) Pv h0 (fun k σ H1 hk p => ⟨_, _, (hq k σ H1 p).seq hS, List.getElem?_eq_getElem hk⟩) (fun σ H1 p => ⟨_, (hq _ σ H1 p).seq hS, Nat.le_refl _⟩) ?_ hd
  intro k σ H1 x H2 hk p y
  obtain ⟨rfl, e⟩ := y
  exact hs k x σ _ (e _ ((hq k σ _ p).seq hS)) p
theorem pe_fld_K {X : Cx} {K : PySem.W.Frag} {e : Expr} {f : Str} {pos : Pos} {ta : TE} (h : X.K = K) (he : PE X e ta) (hb : attributeBase e f X.env (eval e X.env) = eval e X.env) : PE X (.Attribute e f pos) (tFld K ta f) := by
  subst h
  exact pe_fld he hb
/-! ### reads -/
theorem at_nat {xs : List Int} {i : Int} (h0 : 0 ≤ i) (h1 : i < xs.length) : atI (xs.map V.int) i = some (.int (xs.getD i.toNat 0)) := by
  have hk : i.toNat < xs.length := by omega
  rw [show i = ((i.toNat : Nat) : Int) by omega, List.getD_eq_getElem?_getD, Int.toNat_natCast, List.getElem?_eq_getElem hk]
  exact at_map (List.getElem?_eq_getElem hk)
theorem rd_at {K : PySem.W.Frag} {H : Hp} {a : Addr} {xs : List Int} {i : Int} {R : V → Prop} (h : SqL K H a (xs.map V.int)) (h0 : 0 ≤ i) (h1 : i < xs.length) (q : R (.int (xs.getD i.toNat 0))) : ∃ a' ys j v, V.ref a = .ref a' ∧ V.int i = .int j ∧ SqL K H a' ys ∧ atI ys j = some v ∧ R v := ⟨a, _, i, _, rfl, rfl, h, at_nat h0 h1, q⟩
theorem rd_atT {K : PySem.W.Frag} {H : Hp} {a : Addr} {xs : List Int} {i : Int} {R : V → Prop} (h : SqT K H a (xs.map V.int)) (h0 : 0 ≤ i) (h1 : i < xs.length) (q : R (.int (xs.getD i.toNat 0))) : ∃ a' ys j v, V.ref a = .ref a' ∧ V.int i = .int j ∧ SqT K H a' ys ∧ atI ys j = some v ∧ R v := ⟨a, _, i, _, rfl, rfl, h, at_nat h0 h1, q⟩
end Z
set_option pp.maxSteps 700
set_option Elab.async false
set_option linter.all false
set_option maxRecDepth 100000
set_option maxHeartbeats 4000000
namespace Z
open Nd
open PySem PySem.Spec PyProof.Rows L2
open C8 (pss_cut tCut)
local macro_rules | `(tactic| walk_at "num") => `(tactic| first | rfl | omega | decide | exact Nat.le_of_lt (small1000 (by simp)) | exact ⟨by omega, by omega⟩ | exact ⟨by omega, by omega, by omega⟩ | exact ⟨by decide, by decide, by decide⟩ | exact Or.inl ⟨by omega, by omega⟩ | exact Or.inr ⟨by omega, by omega⟩)
local macro_rules | `(tactic| walk_at "go") => `(tactic| repeat (first | refine ⟨_, rfl, ?_⟩ | refine ⟨_, _, rfl, rfl, ?_⟩ | refine ⟨_, _, rfl, ?_⟩ | (refine ⟨_, _, rfl, rfl, ?_, ?_⟩; focus walk_at "num") | refine Or.inl ⟨_, rfl, ?_⟩ | refine ⟨_, _, _, _, rfl, rfl, (by assumption), (by rfl), ?_⟩ | refine ⟨_, _, _, _, _, rfl, (by assumption), (by assumption), (by assumption), (by rfl), ?_⟩ | refine ⟨rfl, ?_⟩ | (refine And.intro ?_ ?_; focus walk_at "num")))
abbrev s_Need_rounds_to_afford : Stmt := inClass (topS 23) 13
abbrev N_Need_rounds_to_afford : List Str := ["self", "needed", "purse"]
abbrev P_Need_rounds_to_afford : List Str := ["self", "needed", "purse"]
theorem sc_Need_rounds_to_afford : FnScope N_Need_rounds_to_afford P_Need_rounds_to_afford (defScope s_Need_rounds_to_afford) := ⟨rfl, rfl, rfl, by decide +kernel, rfl, by decide +kernel, by decide +kernel⟩
abbrev s_Need_rounds_to_exceed : Stmt := inClass (topS 23) 14
abbrev N_Need_rounds_to_exceed : List Str := ["self", "needed", "purse"]
abbrev P_Need_rounds_to_exceed : List Str := ["self", "needed", "purse"]
theorem sc_Need_rounds_to_exceed : FnScope N_Need_rounds_to_exceed P_Need_rounds_to_exceed (defScope s_Need_rounds_to_exceed) := ⟨rfl, rfl, rfl, by decide +kernel, rfl, by decide +kernel, by decide +kernel⟩
abbrev s_Need_lowest : Stmt := inClass (topS 23) 15
abbrev N_Need_lowest : List Str := ["self", "needed", "limit"]
abbrev P_Need_lowest : List Str := ["self", "needed", "limit"]
theorem sc_Need_lowest : FnScope N_Need_lowest P_Need_lowest (defScope s_Need_lowest) := ⟨rfl, rfl, rfl, by decide +kernel, rfl, by decide +kernel, by decide +kernel⟩
abbrev s_Need_highest : Stmt := inClass (topS 23) 16
abbrev N_Need_highest : List Str := ["self", "needed", "limit"]
abbrev P_Need_highest : List Str := ["self", "needed", "limit"]
theorem sc_Need_highest : FnScope N_Need_highest P_Need_highest (defScope s_Need_highest) := ⟨rfl, rfl, rfl, by decide +kernel, rfl, by decide +kernel, by decide +kernel⟩
abbrev s_values : Stmt := topS 33
abbrev N_values : List Str := ["_law_need_here", "_law_k", "_law_many", "_law_values_here", "_law_turn"]
abbrev P_values : List Str := ["_law_need_here", "_law_k", "_law_many"]
theorem sc_values : FnScope N_values P_values (defScope s_values) := ⟨rfl, rfl, rfl, by decide +kernel, rfl, by decide +kernel, by decide +kernel⟩
abbrev s_count_right : Stmt := topS 34
abbrev N_count_right : List Str := ["_law_told", "_law_values_here", "_law_purse", "_law_above", "_law_n", "_law_affordable"]
abbrev P_count_right : List Str := ["_law_told", "_law_values_here", "_law_purse", "_law_above"]
theorem sc_count_right : FnScope N_count_right P_count_right (defScope s_count_right) := ⟨rfl, rfl, rfl, by decide +kernel, rfl, by decide +kernel, by decide +kernel⟩

section
variable {P : Program} {w : World} {K : PySem.W.Frag} {mg : Str → Option Value} {base : Heap} {f C : Addr} {fd : FuncData}
theorem ok_afford (F : FnM K "rounds_to_afford" "Need.rounds_to_afford" s_Need_rounds_to_afford f fd) (c_rounds_down : Cal P w K mg base 2 "rounds_down" (spRd C K)) : FnOk P w K mg base CX0 3 f fd P_Need_rounds_to_afford (spRd C K) := by
  refine F.ok sc_Need_rounds_to_afford (fun vs H Q E h => ?_) (fun cdv A outer s H vs Q E hr h => ?_)
  · obtain ⟨n, st, rs, nv, k, purse, rfl, _⟩ := h
    rfl
  · obtain ⟨n, st, rs, nv, k, purse, rfl, h⟩ := h
    refine ⟨_, PSs.nox (pss_one (ps_ret (pe_cl c_rounds_down hr (by decide) (by rfl) (pa_cons (pv 0) (pa_cons (pv 1) (pa_cons (pv 2) pa_nil)))))), ?_⟩
    walk_at "go"
    exact ⟨n, st, rs, nv, k, purse, rfl, h⟩
theorem ok_exceed (F : FnM K "rounds_to_exceed" "Need.rounds_to_exceed" s_Need_rounds_to_exceed f fd) (c_rounds_up : Cal P w K mg base 2 "rounds_up" (spRu C K)) : FnOk P w K mg base CX0 3 f fd P_Need_rounds_to_exceed (spRu C K) := by
  refine F.ok sc_Need_rounds_to_exceed (fun vs H Q E h => ?_) (fun cdv A outer s H vs Q E hr h => ?_)
  · obtain ⟨n, st, rs, nv, k, purse, rfl, _⟩ := h
    rfl
  · obtain ⟨n, st, rs, nv, k, purse, rfl, h⟩ := h
    refine ⟨_, PSs.nox (pss_one (ps_ret (pe_cl c_rounds_up hr (by decide) (by rfl) (pa_cons (pv 0) (pa_cons (pv 1) (pa_cons (pv 2) pa_nil)))))), ?_⟩
    walk_at "go"
    exact ⟨n, st, rs, nv, k, purse, rfl, h⟩
theorem ok_lowest (F : FnM K "lowest" "Need.lowest" s_Need_lowest f fd) (c_lowest_of : Cal P w K mg base 2 "lowest_of" (spLo C K)) : FnOk P w K mg base CX0 3 f fd P_Need_lowest (spLo C K) := by
  refine F.ok sc_Need_lowest (fun vs H Q E h => ?_) (fun cdv A outer s H vs Q E hr h => ?_)
  · obtain ⟨n, st, rs, nv, k, lim, rfl, _⟩ := h
    rfl
  · obtain ⟨n, st, rs, nv, k, lim, rfl, h⟩ := h
    refine ⟨_, PSs.nox (pss_one (ps_ret (pe_cl c_lowest_of hr (by decide) (by rfl) (pa_cons (pv 0) (pa_cons (pv 1) (pa_cons (pv 2) pa_nil)))))), ?_⟩
    walk_at "go"
    exact ⟨n, st, rs, nv, k, lim, rfl, h⟩
theorem ok_highest (F : FnM K "highest" "Need.highest" s_Need_highest f fd) (c_highest_of : Cal P w K mg base 2 "highest_of" (spHi C K)) : FnOk P w K mg base CX0 3 f fd P_Need_highest (spHi C K) := by
  refine F.ok sc_Need_highest (fun vs H Q E h => ?_) (fun cdv A outer s H vs Q E hr h => ?_)
  · obtain ⟨n, st, rs, nv, k, lim, rfl, _⟩ := h
    rfl
  · obtain ⟨n, st, rs, nv, k, lim, rfl, h⟩ := h
    refine ⟨_, PSs.nox (pss_one (ps_ret (pe_cl c_highest_of hr (by decide) (by rfl) (pa_cons (pv 0) (pa_cons (pv 1) (pa_cons (pv 2) pa_nil)))))), ?_⟩
    walk_at "go"
    exact ⟨n, st, rs, nv, k, lim, rfl, h⟩
/-! ### the orbit as a list -/
def orb (st : Option Int) (rs : Rs) (nv k : Option Int) (n : Nat) : List (Option Int) := (List.range n).map fun i => itO st rs nv i k
theorem orb_succ {st nv k : Option Int} {rs : Rs} {n : Nat} : orb st rs nv k (n + 1) = orb st rs nv k n ++ [itO st rs nv n k] := by
  unfold orb
  rw [List.range_succ, List.map_append]
  rfl
theorem orb_get {st nv k : Option Int} {rs : Rs} {n i : Nat} {x : Option Int} (h : (orb st rs nv k n)[i]? = some x) : i < n ∧ x = itO st rs nv i k := by
  unfold orb at h
  rw [List.getElem?_map] at h
  by_cases z : i < n
  · rw [List.getElem?_range z] at h
    exact ⟨z, (Option.some.inj h).symm⟩
  · rw [List.getElem?_eq_none (by rw [List.length_range]; omega)] at h
    cases h
theorem orb_len {st nv k : Option Int} {rs : Rs} {n : Nat} : (orb st rs nv k n).length = n := by
  unfold orb
  rw [List.length_map, List.length_range]
theorem orb_at {st nv k : Option Int} {rs : Rs} {n i : Nat} (h : i < n) : (orb st rs nv k n)[i]? = some (itO st rs nv i k) := by
  unfold orb
  rw [List.getElem?_map, List.getElem?_range h]
  rfl
def spVs (K : PySem.W.Frag) : Sp := fun vs H Q _ => ∃ (st nv k : Option Int) (l : Addr) (rs : Rs) (many : Nat), vs = [.ref l, oV k, .int (many : Int)] ∧ NL K H l st rs nv ∧ many ≤ 100000 ∧ ∀ p H', Same H H' → H' p = some (.lst ((orb st rs nv k (many + 1)).map oV)) → Q (.ref p) H'
theorem ok_values (F : FnP K "_law_values" s_values f fd) (m_range : mg "range" = none) (c_value : Cal P w K mg base 1 "_law_value" (spLV K)) : FnOk P w K mg base CX0 2 f fd P_values (spVs K) := by
  refine F.ok sc_values (fun vs H Q E h => ?_) (fun cdv A outer s H vs Q E hr h => ?_)
  · obtain ⟨st, nv, k, l, rs, many, rfl, _⟩ := h
    rfl
  · obtain ⟨st, nv, k, l, rs, many, rfl, hN, hm, q⟩ := h
    refine ⟨_, PSs.nox (pss_cons (ps_set (i := 3) sc_values.nd rfl (by first | exact .inl rfl | exact .inr rfl) (pe_lst (pa_cons (pv 1) pa_nil)))
      (pss_cons (ps_for PassesOwn.never rfl (pi_range1 (by rfl) m_range (pa_cons (pv 2) pa_nil)) (pg_name (i := 4) sc_values.nd rfl (by first | exact .inl rfl | exact .inr rfl))
        (pss_one (ps_expr (pe_bm PySem.F.plainAttrs_list PySem.F.slot_list_append PySem.F.type_list_append mt_append (pv 3) (pa_cons (pe_cl c_value hr (by decide) (by rfl) (pa_cons (pv 0) (pa_cons (pe_ix ix_list (pv 3) (pe_un un_neg pe_int) (fun _ _ => rfl)) pa_nil))) pa_nil)))))
      (pss_one (ps_ret (pv 3))))), ?_⟩
    walk_at "go"
    intro p np
    walk_at "go"
    refine for_gen (n := (many : Int).toNat) (fun i σ H1 => Same H H1 ∧ H1 p = some (.lst ((orb st rs nv k (i + 1)).map oV)) ∧ ∃ v4 : Option V, σ = [some (.ref l), some (oV k), some (.int (many : Int)), some (.ref p), v4]) ⟨same_new np, upd_same, none, rfl⟩ (fun i σ H6 hi _ => hi) (fun σ H6 _ => Nat.le_refl _) ?_ ?_
    · rintro i σ H1 x H7 hi ⟨s1, e1, v4, rfl⟩ ⟨rfl, rfl⟩
      walk_at "go"
      have ea : atI ((orb st rs nv k (i + 1)).map oV) (-1) = some (oV (itO st rs nv i k)) := by
        rw [orb_succ, List.map_append]
        exact atI_last _ _
      refine ⟨.inl ⟨rfl, _, .inl (.inl e1)⟩, ?_⟩
      walk_at "go"
      refine ⟨p, _, _, _, rfl, rfl, SqL.of e1, ea, ?_⟩
      walk_at "go"
      refine ⟨st, nv, itO st rs nv i k, l, rs, rfl, hN.mono s1, ?_⟩
      walk_at "go"
      refine ⟨_, _, _, rfl, rfl, e1, ?_, ?_⟩
      · rw [List.length_map, orb_len]
        exact Nat.lt_of_lt_of_le (show i + 1 < 1000000 by omega) (by decide)
      walk_at "go"
      refine ⟨Z.Same.mut s1 np, ?_, _, rfl⟩
      rw [upd_same, orb_succ (n := i + 1), List.map_append, itO_succ]
      rfl
    · rintro σ H1 ⟨s1, e1, v4, rfl⟩
      walk_at "go"
      exact q p _ s1 e1
/-! ### counts -/
def aff (x : Option Int) (purse : Int) : Bool := match x with
  | none => false
  | some v => decide (v ≤ purse)
structure Cnt (xs : List (Option Int)) (purse : Int) (above : Bool) (told : Option Int) : Prop where
  som : ∀ n, told = some n → 0 ≤ n ∧ (∀ (i : Nat) (x : Option Int), i < n.toNat → xs[i]? = some x → aff x purse = above) ∧ ∀ x : Option Int, xs[n.toNat]? = some x → aff x purse ≠ above
  non : told = none → ∀ (i : Nat) (x : Option Int), xs[i]? = some x → aff x purse = above
def spCr (K : PySem.W.Frag) : Sp := fun vs H Q _ => ∃ (a : Addr) (xs : List (Option Int)) (told : Option Int) (purse : Int) (above : Bool), vs = [oV told, .ref a, .int purse, .bl above] ∧ SqL K H a (xs.map oV) ∧ xs.length ≤ 100000 ∧ Cnt xs purse above told ∧ Q (.bl true) H
theorem ok_count_right (F : FnP K "_law_count_right" s_count_right f fd) (m_range : mg "range" = none) (m_len : mg "len" = none) (m_isinstance : mg "isinstance" = none) (m_int : mg "int" = none) (m_bool : mg "bool" = none) (c_same : Cal P w K mg base 1 "_law_same" spSame) : FnOk P w K mg base CX0 2 f fd P_count_right (spCr K) := by
  refine F.ok sc_count_right (fun vs H Q E h => ?_) (fun cdv A outer s H vs Q E hr h => ?_)
  · obtain ⟨a, xs, told, purse, above, rfl, _⟩ := h
    rfl
  · obtain ⟨a, xs, told, purse, above, rfl, hA, hl, ct, q⟩ := h
    refine ⟨_, PSs.nox (pss_cons (ps_for PassesOwn.never rfl (pi_range1 (by rfl) m_range (pa_cons (pe_callB call_len_seq (by rfl) m_len PySem.boot_len (pa_cons (pv 1) pa_nil)) pa_nil)) (pg_name (i := 4) sc_count_right.nd rfl (by first | exact .inl rfl | exact .inr rfl))
        (pss_cons (ps_set (i := 5) sc_count_right.nd rfl (by first | exact .inl rfl | exact .inr rfl) (pe_and (pe_cmpR op_notN (pe_ix ix_list (pv 1) (pv 4) (fun _ _ => rfl)) pe_non (nomark _)) (pe_one (pe_cmpR op_le (pe_ix ix_list (pv 1) (pv 4) (fun _ _ => rfl)) (pv 2) (nomark _)))))
      (pss_one (ps_if (pt_cmpR op_ne (pv 5) (pv 3) (nomark _)) (pss_one (ps_ret (pe_cl c_same hr (by decide) (by rfl) (pa_cons (pv 0) (pa_cons (pv 4) pa_nil))))) pss_nil))))
      (pss_cons (ps_if (pt_cmpR op_isN (pv 0) pe_non (nomark _)) (pss_one (ps_ret pe_bl)) pss_nil)
      (pss_one (ps_ret (pe_and (pe_callB call_isi (by rfl) m_isinstance (by decide +kernel) (pa_cons (pv 0) (pa_cons (pe_bltn (v := .ty "int") (by rfl) m_int (by decide +kernel) rfl) pa_nil))) (pe_and (pe_not (pe_callB call_isi (by rfl) m_isinstance (by decide +kernel) (pa_cons (pv 0) (pa_cons (pe_bltn (v := .ty "bool") (by rfl) m_bool (by decide +kernel) rfl) pa_nil)))) (pe_one (pe_cmpR op_ge (pv 0) (pe_callB call_len_seq (by rfl) m_len PySem.boot_len (pa_cons (pv 1) pa_nil)) (nomark _))))))))), ?_⟩
    walk_at "go"
    refine ⟨a, _, rfl, .inl hA, ?_⟩
    rw [List.length_map]
    walk_at "go"
    refine for_gen (n := (xs.length : Int).toNat) (fun i σ H1 => H1 = H ∧ (∀ j x, j < i → xs[j]? = some x → aff x purse = above) ∧ ∃ v4 v5 : Option V, σ = [some (oV told), some (.ref a), some (.int purse), some (.bl above), v4, v5]) ⟨rfl, fun j x hj => absurd hj (Nat.not_lt_zero j), none, none, rfl⟩ (fun i σ H6 hi _ => hi) (fun σ H6 _ => Nat.le_refl _) ?_ ?_
    · rintro i σ H1 x H7 hi ⟨rfl, inv, v4, v5, rfl⟩ ⟨rfl, rfl⟩
      have hi : i < xs.length := by omega
      have ex : xs[i]? = some xs[i] := List.getElem?_eq_getElem hi
      have ea : atI (xs.map oV) (0 + (i : Int)) = some (oV xs[i]) := by
        rw [Int.zero_add]
        exact at_map ex
      generalize xs[i] = x at ex ea
      have fin : aff x purse ≠ above → Q (.bl true) H7 ∧ told = some (i : Int) := fun ne => ⟨q, by
        cases ht : told with
        | none => exact absurd (ct.non ht i x ex) ne
        | some n =>
          obtain ⟨n0, n1, n2⟩ := ct.som n ht
          have a1 : ¬ i < n.toNat := fun z => ne (n1 i x z ex)
          have a2 : ¬ n.toNat < i := fun z => n2 _ (List.getElem?_eq_getElem (show n.toNat < xs.length by omega)) (inv n.toNat _ z (List.getElem?_eq_getElem (show n.toNat < xs.length by omega)))
          rw [show n = (i : Int) by omega]⟩
      have nxt : aff x purse = above → ∀ (j : Nat) (y : Option Int), j < i + 1 → xs[j]? = some y → aff y purse = above := fun e j y hj ey => by
        by_cases z : j < i
        · exact inv j y z ey
        · obtain rfl : j = i := by omega
          rw [ex] at ey
          cases ey
          exact e
      have rb : ∀ (D : Ends) (σ : L2.St), σ = [some (oV told), some (.ref a), some (.int purse), some (.bl above), some (.int (0 + (i : Int))), some (.bl (aff x purse))] → (aff x purse = above → D.nx σ H7) → True := fun _ _ _ _ => trivial
      walk_at "go"
      refine ⟨a, _, _, _, rfl, rfl, hA, ea, ?_⟩
      cases x with
      | none =>
        walk_at "go"
        cases above with
        | false =>
          walk_at "go"
          exact ⟨nxt rfl, _, _, rfl⟩
        | true =>
          obtain ⟨q, rfl⟩ := fin Bool.false_ne_true
          walk_at "go"
          exact ⟨some i, by rw [Int.zero_add]; rfl, q⟩
      | some v =>
        walk_at "go"
        refine ⟨a, _, _, _, rfl, rfl, hA, ea, ?_⟩
        walk_at "go"
        refine ite2 (fun e => ?_) (fun e => ?_)
        · have ne : aff (some v) purse ≠ above := fun z => absurd (congrArg V.bl z) (by simpa [aff] using e)
          obtain ⟨q, rfl⟩ := fin ne
          walk_at "go"
          exact ⟨some i, by rw [Int.zero_add]; rfl, q⟩
        · have eq : aff (some v) purse = above := by simpa [aff] using e
          exact ⟨rfl, nxt eq, _, _, rfl⟩
    · rintro σ H1 ⟨rfl, inv, v4, v5, rfl⟩
      cases told with
      | none =>
        walk_at "go"
        exact q
      | some n =>
        obtain ⟨n0, n1, n2⟩ := ct.som n rfl
        have hn : (xs.length : Int) ≤ n := by
          by_cases z : n.toNat < xs.length
          · exact absurd (inv n.toNat _ (by omega) (List.getElem?_eq_getElem z)) (n2 _ (List.getElem?_eq_getElem z))
          · omega
        walk_at "go"
        refine isi (c := "int") (b := true) (.int n) (by decide +kernel) ?_
        walk_at "go"
        refine isi (c := "bool") (b := false) (.int n) (by decide +kernel) ?_
        walk_at "go"
        refine ⟨a, _, rfl, .inl hA, ?_⟩
        rw [List.length_map]
        walk_at "go"
        show Q (.bl (decide ((xs.length : Int) ≤ n))) H1
        rw [decide_eq_true hn]
        exact q
end
end Z
set_option pp.maxSteps 700
set_option Elab.async false
set_option linter.all false
set_option maxRecDepth 100000
set_option maxHeartbeats 4000000
namespace Z
open Nd
open PySem PySem.Spec PyProof.Rows L2
open C8 (pss_cut tCut)
local macro_rules | `(tactic| walk_at "num") => `(tactic| first | rfl | omega | decide | exact Nat.le_of_lt (small1000 (by simp)) | exact ⟨by omega, by omega⟩ | exact ⟨by omega, by omega, by omega⟩ | exact ⟨by decide, by decide, by decide⟩ | exact Or.inl ⟨by omega, by omega⟩ | exact Or.inr ⟨by omega, by omega⟩)
local macro_rules | `(tactic| walk_at "go") => `(tactic| repeat (first | refine ⟨_, rfl, ?_⟩ | refine ⟨_, _, rfl, rfl, ?_⟩ | refine ⟨_, _, rfl, ?_⟩ | (refine ⟨_, _, rfl, rfl, ?_, ?_⟩; focus walk_at "num") | refine Or.inl ⟨_, rfl, ?_⟩ | refine ⟨_, _, _, _, rfl, rfl, (by assumption), (by rfl), ?_⟩ | refine ⟨_, _, _, _, _, rfl, (by assumption), (by assumption), (by assumption), (by rfl), ?_⟩ | refine ⟨rfl, ?_⟩ | (refine And.intro ?_ ?_; focus walk_at "num")))
abbrev s_stuck : Stmt := topS 35
abbrev N_stuck : List Str := ["_law_values_here", "_law_purse", "_law_above", "_law_last"]
abbrev P_stuck : List Str := ["_law_values_here", "_law_purse", "_law_above"]
theorem sc_stuck : FnScope N_stuck P_stuck (defScope s_stuck) := ⟨rfl, rfl, rfl, by decide +kernel, rfl, by decide +kernel, by decide +kernel⟩
abbrev s_small : Stmt := topS 36
abbrev N_small : List Str := ["_law_f", "_law_need_here", "_law_k", "_law_purse", "_law_values_here", "_law_down", "_law_up"]
abbrev P_small : List Str := ["_law_f", "_law_need_here", "_law_k", "_law_purse"]
theorem sc_small : FnScope N_small P_small (defScope s_small) := ⟨rfl, rfl, rfl, by decide +kernel, rfl, by decide +kernel, by decide +kernel⟩
abbrev s_extremes : Stmt := topS 37
abbrev N_extremes : List Str := ["_law_f", "_law_need_here", "_law_k", "_law_limit", "_law_values_here", "_law_least", "_law_most", "_law_value_here"]
abbrev P_extremes : List Str := ["_law_f", "_law_need_here", "_law_k", "_law_limit"]
theorem sc_extremes : FnScope N_extremes P_extremes (defScope s_extremes) := ⟨rfl, rfl, rfl, by decide +kernel, rfl, by decide +kernel, by decide +kernel⟩
section
variable {P : Program} {w : World} {K : PySem.W.Frag} {mg : Str → Option Value} {base : Heap} {f C : Addr} {fd : FuncData}
def spSt (K : PySem.W.Frag) : Sp := fun vs H Q _ => ∃ (a : Addr) (ys : List V) (x0 xp xl : Option Int) (purse : Int) (above : Bool), vs = [.ref a, .int purse, .bl above] ∧ SqL K H a ys ∧ atI ys (-1) = some (oV xl) ∧ atI ys (-2) = some (oV xp) ∧ atI ys 0 = some (oV x0) ∧ (above = false → ¬ lte xp xl ∧ ¬ lte x0 xl) ∧ (above = true → ¬ lte xl xp ∧ ¬ lte xl x0) ∧ Q (.bl false) H
theorem oV_inj {a b : Option Int} (h : oV a = oV b) : a = b := by
  cases a <;> cases b <;> first | rfl | (injection h with h; rw [h]) | cases h
theorem ok_stuck (F : FnP K "_law_stuck" s_stuck f fd) : FnOk P w K mg base CX0 1 f fd P_stuck (spSt K) := by
  refine F.ok sc_stuck (fun vs H Q E h => ?_) (fun cdv A outer s H vs Q E hr h => ?_)
  · obtain ⟨a, ys, x0, xp, xl, purse, above, rfl, _⟩ := h
    rfl
  · obtain ⟨a, ys, x0, xp, xl, purse, above, rfl, hA, e1, e2, e0, c1, c2, q⟩ := h
    refine ⟨_, PSs.nox (pss_cons (ps_set (i := 3) sc_stuck.nd rfl (by first | exact .inl rfl | exact .inr rfl) (pe_ix ix_list (pv 0) (pe_un un_neg pe_int) (fun _ _ => rfl)))
      (pss_cons (ps_if (pt_cmpR op_eq (pv 3) (pe_ix ix_list (pv 0) (pe_un un_neg pe_int) (fun _ _ => rfl)) (nomark _)) (pss_one (ps_ret pe_bl)) pss_nil)
      (pss_cons (ps_if (pt_val (pv 2)) (pss_one (ps_ret (pe_and (pe_cmpR op_notN (pv 3) pe_non (nomark _)) (pe_one (pe_cmpR op_le (pv 3) (pe_ix ix_list (pv 0) pe_int (fun _ _ => rfl)) (nomark _)))))) pss_nil)
      (pss_one (ps_ret (pe_or (pe_cmpR op_isN (pv 3) pe_non (nomark _)) (pe_one (pe_and (pe_cmpR op_notN (pe_ix ix_list (pv 0) pe_int (fun _ _ => rfl)) pe_non (nomark _)) (pe_one (pe_cmpR op_gt (pv 3) (pe_ix ix_list (pv 0) pe_int (fun _ _ => rfl)) (nomark _))))))))))), ?_⟩
    have ne : xl ≠ xp := fun z => by
      subst z
      cases above
      · exact (c1 rfl).1 (lte_refl _)
      · exact (c2 rfl).1 (lte_refl _)
    walk_at "go"
    refine ⟨a, _, _, _, rfl, rfl, hA, e1, ?_⟩
    walk_at "go"
    refine ⟨a, _, _, _, rfl, rfl, hA, e2, ?_⟩
    walk_at "go"
    refine ⟨(by cases xl <;> cases xp <;> rfl), ?_⟩
    walk_at "go"
    refine ite2 (fun e => absurd (oV_inj (of_decide_eq_true e)) ne) (fun _ => ?_)
    cases above with
    | true =>
      obtain ⟨d1, d2⟩ := c2 rfl
      walk_at "go"
      cases xl with
      | none =>
        walk_at "go"
        exact q
      | some l =>
        cases x0 with
        | none => exact absurd trivial d2
        | some z =>
          have d2 : ¬ l ≤ z := d2
          walk_at "go"
          refine ⟨a, _, _, _, rfl, rfl, hA, e0, ?_⟩
          walk_at "go"
          show Q (.bl (decide (l ≤ z))) H
          rw [decide_eq_false d2]
          exact q
    | false =>
      obtain ⟨d1, d2⟩ := c1 rfl
      walk_at "go"
      cases xl with
      | none => exact absurd trivial d1
      | some l =>
        walk_at "go"
        refine ⟨a, _, _, _, rfl, rfl, hA, e0, ?_⟩
        cases x0 with
        | none =>
          walk_at "go"
          exact q
        | some z =>
          have d2 : ¬ z ≤ l := d2
          walk_at "go"
          refine ⟨a, _, _, _, rfl, rfl, hA, e0, ?_⟩
          walk_at "go"
          show Q (.bl (decide (z < l))) H
          rw [decide_eq_false (by omega)]
          exact q
/-! ### small -/
theorem aff_lte {x : Option Int} {p : Int} : aff x p = true ↔ lte x (some p) := by
  cases x with
  | none => exact ⟨fun h => Bool.noConfusion h, fun h => h.elim⟩
  | some v => exact ⟨fun h => show v ≤ p from of_decide_eq_true h, fun h => decide_eq_true (p := v ≤ p) h⟩
theorem aff_not {x : Option Int} {p : Int} : aff x p = false ↔ ¬ lte x (some p) := by
  rw [← aff_lte]
  cases aff x p <;> simp
theorem cnt_dn {st nv k r : Option Int} {rs : Rs} {purse : Int} {n : Nat} (h : DnO st rs nv k purse r) : Cnt (orb st rs nv k n) purse false r := by
  refine ⟨fun m hm => ?_, fun hm i x hx => ?_⟩
  · subst hm
    obtain ⟨h0, h1, h2⟩ := h
    refine ⟨h0, fun i x hi hx => ?_, fun x hx => ?_⟩
    · obtain ⟨_, rfl⟩ := orb_get hx
      exact aff_not.mpr (h1 i (by omega)).1
    · obtain ⟨_, rfl⟩ := orb_get hx
      rw [aff_lte.mpr h2]
      exact Bool.noConfusion
  · subst hm
    obtain ⟨_, rfl⟩ := orb_get hx
    exact aff_not.mpr (h i)
theorem cnt_up {st nv k r : Option Int} {rs : Rs} {purse : Int} {n : Nat} (h : UpO st rs nv k purse r) : Cnt (orb st rs nv k n) purse true r := by
  refine ⟨fun m hm => ?_, fun hm i x hx => ?_⟩
  · subst hm
    obtain ⟨h0, h1, h2⟩ := h
    refine ⟨h0, fun i x hi hx => ?_, fun x hx => ?_⟩
    · obtain ⟨_, rfl⟩ := orb_get hx
      exact aff_lte.mpr (h1 i (by omega)).1
    · obtain ⟨_, rfl⟩ := orb_get hx
      rw [aff_not.mpr h2]
      exact Bool.noConfusion
  · subst hm
    obtain ⟨_, rfl⟩ := orb_get hx
    exact aff_lte.mpr (h i)
theorem dn_all {st nv k : Option Int} {rs : Rs} {purse n : Int} (h : DnO st rs nv k purse (some n)) : ∀ i : Nat, (i : Int) + 1 ≤ n → ¬ lte (itO st rs nv 0 k) (itO st rs nv (i + 1) k)
  | 0, hi => (h.2.1 0 (by omega)).2
  | i + 1, hi => fun z => (h.2.1 (i + 1) (by omega)).2 (lte_trans (lte_total (dn_all h i (by omega))) z)
theorem up_all {st nv k : Option Int} {rs : Rs} {purse n : Int} (h : UpO st rs nv k purse (some n)) : ∀ i : Nat, (i : Int) + 1 ≤ n → ¬ lte (itO st rs nv (i + 1) k) (itO st rs nv 0 k)
  | 0, hi => (h.2.1 0 (by omega)).2
  | i + 1, hi => fun z => (h.2.1 (i + 1) (by omega)).2 (lte_trans z (lte_total (up_all h i (by omega))))
def spSm (C : Addr) (K : PySem.W.Frag) : Sp := fun vs H Q _ => ∃ (n l : Addr) (st : Option Int) (rs : Rs) (nv k : Option Int) (purse : Int), vs = [.ref n, .ref l, oV k, .int purse] ∧ NeedAt C K H n st rs nv ∧ NL K H l st rs nv ∧ NdW st rs nv ∧ (∀ v, k = some v → 0 ≤ v ∧ v ≤ 10 ^ 100) ∧ 0 ≤ purse ∧ purse ≤ 10 ^ 100 ∧ ∀ H', Same H H' → Q (.bl true) H'
theorem ok_small (F : FnP K "_law_small" s_small f fd) (c_values : Cal P w K mg base 2 "_law_values" (spVs K)) (c_count_right : Cal P w K mg base 2 "_law_count_right" (spCr K)) (c_stuck : Cal P w K mg base 1 "_law_stuck" (spSt K)) (me_rounds_to_afford : Met P w K mg base 3 C "rounds_to_afford" (spRd C K)) (me_rounds_to_exceed : Met P w K mg base 3 C "rounds_to_exceed" (spRu C K)) : FnOk P w K mg base CX0 4 f fd P_small (spSm C K) := by
  refine F.ok sc_small (fun vs H Q E h => ?_) (fun cdv A outer s H vs Q E hr h => ?_)
  · obtain ⟨n, l, st, rs, nv, k, purse, rfl, _⟩ := h
    rfl
  · obtain ⟨n, l, st, rs, nv, k, purse, rfl, hN, hL, ndw, hk, hp0, hp1, q⟩ := h
    refine ⟨_, PSs.nox (pss_cons (ps_set (i := 4) sc_small.nd rfl (by first | exact .inl rfl | exact .inr rfl) (pe_cl c_values hr (by decide) (by rfl) (pa_cons (pv 1) (pa_cons (pv 2) (pa_cons pe_int pa_nil)))))
      (pss_cons (ps_set (i := 5) sc_small.nd rfl (by first | exact .inl rfl | exact .inr rfl) (pe_me me_rounds_to_afford (pv 0) hr (by decide) (pa_cons (pv 2) (pa_cons (pv 3) pa_nil))))
      (pss_cons (ps_set (i := 6) sc_small.nd rfl (by first | exact .inl rfl | exact .inr rfl) (pe_me me_rounds_to_exceed (pv 0) hr (by decide) (pa_cons (pv 2) (pa_cons (pv 3) pa_nil))))
      (pss_cons (ps_if (PW.pt (pw_or (pt_not (pt_val (pe_cl c_count_right hr (by decide) (by rfl) (pa_cons (pv 5) (pa_cons (pv 4) (pa_cons (pv 3) (pa_cons pe_bl pa_nil))))))) (pw_or1 (pt_not (pt_val (pe_cl c_count_right hr (by decide) (by rfl) (pa_cons (pv 6) (pa_cons (pv 4) (pa_cons (pv 3) (pa_cons pe_bl pa_nil)))))))))) (pss_one (ps_ret pe_bl)) pss_nil)
      (pss_cut (ps_if (PW.pt (pw_and (pt_cmpR op_notN (pv 5) pe_non (nomark _)) (pw_and (pt_cmpR op_gt (pv 5) pe_int (nomark _)) (pw_and1 (pt_val (pe_cl c_stuck hr (by decide) (by rfl) (pa_cons (pv 4) (pa_cons (pv 3) (pa_cons pe_bl pa_nil))))))))) (pss_one (ps_ret pe_bl)) pss_nil)
      (pss_one (ps_ret (pe_or (pe_cmpR op_isN (pv 6) pe_non (nomark _)) (pe_or (pe_cmpR op_le (pv 6) pe_int (nomark _)) (pe_one (pe_not (pe_cl c_stuck hr (by decide) (by rfl) (pa_cons (pv 4) (pa_cons (pv 3) (pa_cons pe_bl pa_nil))))))))))))))), ?_⟩
    walk_at "go"
    refine ⟨st, nv, k, l, rs, 60, rfl, hL, by decide, fun p H1 s1 e1 => ?_⟩
    have hN1 := hN.mono s1
    obtain ⟨dx, r, ps, hn, _⟩ := id hN1
    have q1 := q H1 s1
    walk_at "go"
    refine ⟨n, dx, _, rfl, hn, rfl, ?_⟩
    walk_at "go"
    refine ⟨n, st, rs, nv, k, purse, rfl, hN1, ndw, hk, hp0, fun dn hdn => ?_⟩
    walk_at "go"
    refine ⟨n, dx, _, rfl, hn, rfl, ?_⟩
    walk_at "go"
    refine ⟨n, st, rs, nv, k, purse, rfl, hN1, ndw, fun v hv => (hk v hv).1, hp1, fun up hup => ?_⟩
    walk_at "go"
    refine ⟨p, _, dn, purse, false, rfl, SqL.of e1, by rw [orb_len]; decide, cnt_dn hdn, ?_⟩
    walk_at "go"
    refine ⟨p, _, up, purse, true, rfl, SqL.of e1, by rw [orb_len]; decide, cnt_up hup, ?_⟩
    walk_at "go"
    refine cut_stay ?_ ?_
    · cases dn with
      | none =>
        walk_at "go"
        rfl
      | some m =>
        walk_at "go"
        refine ite2 (fun e => ?_) (fun e => ?_)
        · have e : (60 : Int) < m := of_decide_eq_true e
          walk_at "go"
          refine ⟨p, _, itO st rs nv 0 k, itO st rs nv 59 k, itO st rs nv 60 k, purse, false, rfl, SqL.of e1, rfl, rfl, rfl, fun _ => ⟨(hdn.2.1 59 (by omega)).2, dn_all hdn 59 (by omega)⟩, nofun, ?_⟩
          walk_at "go"
          rfl
        · exact ⟨rfl, rfl⟩
    · cases up with
      | none =>
        walk_at "go"
        exact q1
      | some m =>
        walk_at "go"
        refine ite2 (fun e => ?_) (fun e => ?_)
        · exact q1
        · have e : ¬ m ≤ 60 := fun z => e (decide_eq_true z)
          walk_at "go"
          refine ⟨p, _, itO st rs nv 0 k, itO st rs nv 59 k, itO st rs nv 60 k, purse, true, rfl, SqL.of e1, rfl, rfl, rfl, nofun, fun _ => ⟨(hup.2.1 59 (by omega)).2, up_all hup 59 (by omega)⟩, ?_⟩
          walk_at "go"
          exact q1
def spEx (C : Addr) (K : PySem.W.Frag) : Sp := fun vs H Q _ => ∃ (n l : Addr) (st : Option Int) (rs : Rs) (nv k : Option Int) (lim : Nat), vs = [.ref n, .ref l, oV k, .int (lim : Int)] ∧ NeedAt C K H n st rs nv ∧ NL K H l st rs nv ∧ NdW st rs nv ∧ (∀ v, k = some v → 0 ≤ v ∧ v ≤ 10 ^ 100) ∧ lim ≤ 1000 ∧ ∀ H', Same H H' → Q (.bl true) H'
theorem ok_extremes (F : FnP K "_law_extremes" s_extremes f fd) (c_values : Cal P w K mg base 2 "_law_values" (spVs K)) (c_at_most : Cal P w K mg base 1 "_law_at_most" spAm) (c_same : Cal P w K mg base 1 "_law_same" spSame) (me_lowest : Met P w K mg base 3 C "lowest" (spLo C K)) (me_highest : Met P w K mg base 3 C "highest" (spHi C K)) : FnOk P w K mg base CX0 4 f fd P_extremes (spEx C K) := by
  refine F.ok sc_extremes (fun vs H Q E h => ?_) (fun cdv A outer s H vs Q E hr h => ?_)
  · obtain ⟨n, l, st, rs, nv, k, lim, rfl, _⟩ := h
    rfl
  · obtain ⟨n, l, st, rs, nv, k, lim, rfl, hN, hL, ndw, hk, hl, q⟩ := h
    refine ⟨_, PSs.nox (pss_cons (ps_set (i := 4) sc_extremes.nd rfl (by first | exact .inl rfl | exact .inr rfl) (pe_cl c_values hr (by decide) (by rfl) (pa_cons (pv 1) (pa_cons (pv 2) (pa_cons (pv 3) pa_nil)))))
      (pss_cons (ps_set (i := 5) sc_extremes.nd rfl (by first | exact .inl rfl | exact .inr rfl) (pe_ix ix_list (pv 4) pe_int (fun _ _ => rfl)))
      (pss_cons (ps_set (i := 6) sc_extremes.nd rfl (by first | exact .inl rfl | exact .inr rfl) (pe_ix ix_list (pv 4) pe_int (fun _ _ => rfl)))
      (pss_cons (ps_for PassesOwn.never rfl (pi_list (pv 4)) (pg_name (i := 7) sc_extremes.nd rfl (by first | exact .inl rfl | exact .inr rfl))
        (pss_cut (ps_if (pt_val (pe_cl c_at_most hr (by decide) (by rfl) (pa_cons (pv 7) (pa_cons (pv 5) pa_nil)))) (pss_one (ps_set (i := 5) sc_extremes.nd rfl (by first | exact .inl rfl | exact .inr rfl) (pv 7))) pss_nil)
      (pss_one (ps_if (pt_val (pe_cl c_at_most hr (by decide) (by rfl) (pa_cons (pv 6) (pa_cons (pv 7) pa_nil)))) (pss_one (ps_set (i := 6) sc_extremes.nd rfl (by first | exact .inl rfl | exact .inr rfl) (pv 7))) pss_nil))))
      (pss_one (ps_ret (pe_and (pe_cl c_same hr (by decide) (by rfl) (pa_cons (pe_me me_lowest (pv 0) hr (by decide) (pa_cons (pv 2) (pa_cons (pv 3) pa_nil))) (pa_cons (pv 5) pa_nil))) (pe_one (pe_cl c_same hr (by decide) (by rfl) (pa_cons (pe_me me_highest (pv 0) hr (by decide) (pa_cons (pv 2) (pa_cons (pv 3) pa_nil))) (pa_cons (pv 6) pa_nil))))))))))), ?_⟩
    have am_iff : ∀ a b : Option Int, am a b = true ↔ lte a b := fun a b => by
      cases b with
      | none => cases a <;> exact ⟨fun _ => trivial, fun _ => rfl⟩
      | some y =>
        cases a with
        | none => exact ⟨fun h => Bool.noConfusion h, fun h => h.elim⟩
        | some x => exact ⟨fun h => show x ≤ y from of_decide_eq_true h, fun h => decide_eq_true (p := x ≤ y) h⟩
    walk_at "go"
    refine ⟨st, nv, k, l, rs, lim, rfl, hL, by omega, fun p H1 s1 e1 => ?_⟩
    have hN1 := hN.mono s1
    obtain ⟨dx, r, ps, hn, _⟩ := id hN1
    have q1 := q H1 s1
    have e0 : atI ((orb st rs nv k (lim + 1)).map oV) 0 = some (oV k) := at_map (i := 0) (orb_at (by omega))
    walk_at "go"
    refine ⟨p, _, _, _, rfl, rfl, SqL.of e1, e0, ?_⟩
    walk_at "go"
    refine ⟨p, _, _, _, rfl, rfl, SqL.of e1, e0, ?_⟩
    walk_at "go"
    refine ⟨⟨_, SqL.of e1⟩, ?_⟩
    refine for_vs (SqL.of e1) (fun i σ H2 => H2 = H1 ∧ ∃ (lo hi : Option Int) (v7 : Option V), (∃ j, j ≤ lim ∧ itO st rs nv j k = lo) ∧ (∀ j, j < i → lte lo (itO st rs nv j k)) ∧ (∃ j, j ≤ lim ∧ itO st rs nv j k = hi) ∧ (∀ j, j < i → lte (itO st rs nv j k) hi) ∧ σ = [some (.ref n), some (.ref l), some (oV k), some (.int (lim : Int)), some (.ref p), some (oV lo), some (oV hi), v7]) ⟨rfl, k, k, none, ⟨0, by omega, rfl⟩, fun j hj => absurd hj (Nat.not_lt_zero j), ⟨0, by omega, rfl⟩, fun j hj => absurd hj (Nat.not_lt_zero j), rfl⟩ ?_ ?_ ?_
    · rintro i σ H2 ⟨rfl, _⟩
      exact Same.refl _
    · rintro i v σ H2 hi ⟨rfl, lo, hh, v7, h1, h2, h3, h4, rfl⟩
      obtain ⟨x, ex, rfl⟩ := of_map hi
      obtain ⟨ilt, rfl⟩ := orb_get ex
      dsimp only [List.set]
      refine ⟨fun σ H3 => H3 = H2 ∧ ∃ lo' : Option Int, (∃ j, j ≤ lim ∧ itO st rs nv j k = lo') ∧ (∀ j, j < i + 1 → lte lo' (itO st rs nv j k)) ∧ σ = [some (.ref n), some (.ref l), some (oV k), some (.int (lim : Int)), some (.ref p), some (oV lo'), some (oV hh), some (oV (itO st rs nv i k))], ?_, ?_⟩
      · walk_at "go"
        refine ite2 (fun e => ?_) (fun e => ?_)
        · have e := (am_iff _ _).mp e
          walk_at "go"
          refine ⟨_, ⟨i, by omega, rfl⟩, fun j hj => ?_, rfl⟩
          by_cases z : j < i
          · exact lte_trans e (h2 j z)
          · obtain rfl : j = i := by omega
            exact lte_refl _
        · have e := fun z => e ((am_iff _ _).mpr z)
          refine ⟨rfl, _, h1, fun j hj => ?_, rfl⟩
          by_cases z : j < i
          · exact h2 j z
          · obtain rfl : j = i := by omega
            exact lte_total e
      · rintro σ H3 ⟨rfl, lo', h1', h2', rfl⟩
        walk_at "go"
        refine ite2 (fun e => ?_) (fun e => ?_)
        · have e := (am_iff _ _).mp e
          walk_at "go"
          refine ⟨_, _, _, h1', h2', ⟨i, by omega, rfl⟩, fun j hj => ?_, rfl⟩
          by_cases z : j < i
          · exact lte_trans (h4 j z) e
          · obtain rfl : j = i := by omega
            exact lte_refl _
        · have e := fun z => e ((am_iff _ _).mpr z)
          refine ⟨rfl, _, _, _, h1', h2', h3, fun j hj => ?_, rfl⟩
          by_cases z : j < i
          · exact h4 j z
          · obtain rfl : j = i := by omega
            exact lte_total e
    · rintro σ H2 ⟨rfl, lo, hh, v7, h1, h2, h3, h4, rfl⟩
      rw [List.length_map, orb_len] at h2 h4
      have hlo : LoO st rs nv k lim lo := ⟨h1, fun j hj => h2 j (by omega)⟩
      have hhi : HiO st rs nv k lim hh := ⟨h3, fun j hj => h4 j (by omega)⟩
      walk_at "go"
      refine ⟨n, dx, _, rfl, hn, rfl, ?_⟩
      walk_at "go"
      refine ⟨n, st, rs, nv, k, lim, rfl, hN1, ndw, hk, ?_, fun r hr => ?_⟩
      · exact Int.le_trans (show (lim : Int) ≤ 1000 by omega) (by decide)
      obtain rfl := hr.uniq hlo
      walk_at "go"
      refine ⟨n, dx, _, rfl, hn, rfl, ?_⟩
      walk_at "go"
      refine ⟨n, st, rs, nv, k, lim, rfl, hN1, ndw, fun v hv => (hk v hv).1, ?_, fun r hr => ?_⟩
      · exact Int.le_trans (show (lim : Int) ≤ 1000 by omega) (by decide)
      obtain rfl := hr.uniq hhi
      walk_at "go"
      exact q1
end
end Z
set_option pp.maxSteps 700
set_option Elab.async false
set_option linter.all false
set_option maxRecDepth 100000
set_option maxHeartbeats 4000000
namespace Z
open Nd
open PySem PySem.Spec PyProof.Rows L2
open C8 (pss_cut tCut)
local macro_rules | `(tactic| walk_at "num") => `(tactic| first | rfl | omega | decide | exact Nat.le_of_lt (small1000 (by simp)) | exact ⟨by omega, by omega⟩ | exact ⟨by omega, by omega, by omega⟩ | exact ⟨by decide, by decide, by decide⟩ | exact Or.inl ⟨by omega, by omega⟩ | exact Or.inr ⟨by omega, by omega⟩)
local macro_rules | `(tactic| walk_at "go") => `(tactic| repeat (first | refine ⟨_, rfl, ?_⟩ | refine ⟨_, _, rfl, rfl, ?_⟩ | refine ⟨_, _, rfl, ?_⟩ | (refine ⟨_, _, rfl, rfl, ?_, ?_⟩; focus walk_at "num") | refine Or.inl ⟨_, rfl, ?_⟩ | refine ⟨_, _, _, _, rfl, rfl, (by assumption), (by rfl), ?_⟩ | refine ⟨_, _, _, _, _, rfl, (by assumption), (by assumption), (by assumption), (by rfl), ?_⟩ | refine ⟨rfl, ?_⟩ | (refine And.intro ?_ ?_; focus walk_at "num")))
abbrev s_constant : Stmt := topS 38
abbrev N_constant : List Str := ["_law_step", "_law_edge", "_law_needed", "_law_purse", "_law_limit", "_law_up", "_law_down", "_law_grown", "_law_affords"]
abbrev P_constant : List Str := ["_law_step", "_law_edge", "_law_needed", "_law_purse", "_law_limit"]
theorem sc_constant : FnScope N_constant P_constant (defScope s_constant) := ⟨rfl, rfl, rfl, by decide +kernel, rfl, by decide +kernel, by decide +kernel⟩
section
variable {P : Program} {w : World} {K : PySem.W.Frag} {mg : Str → Option Value} {base : Heap} {f C : Addr} {fd : FuncData}
theorem ris_two {c : Bool} {K : PySem.W.Frag} {H : Hp} {a p1 p2 : Addr} {x1 x2 : Int} {y1 y2 : Option Int} (h : SqT K H a [.ref p1, .ref p2]) (h1 : SqK c K H p1 [.int x1, oV y1]) (h2 : SqK c K H p2 [.int x2, oV y2]) : Ris false c K H a [p1, p2] [(x1, y1), (x2, y2)] := by
  refine ⟨h, rfl, fun i p q h3 h4 => ?_⟩
  match i, h3, h4 with
  | 0, h3, h4 =>
    obtain rfl := Option.some.inj h3
    obtain rfl := Option.some.inj h4
    exact h1
  | 1, h3, h4 =>
    obtain rfl := Option.some.inj h3
    obtain rfl := Option.some.inj h4
    exact h2
  | i + 2, h3, _ => cases h3
theorem ndw_of {s : Int} {rs : Rs} (g : Good (-1) rs) (h0 : 0 ≤ s) (h1 : s ≤ 10 ^ 80) : NdW (some s) rs none := ⟨g, fun x hx => by
  cases hx
  have : (10 : Int) ^ 80 ≤ 10 ^ 100 := by decide +kernel
  exact ⟨h0, by omega⟩, nofun, nofun⟩
theorem ok_of {s : Int} {rs : Rs} (g : Good (-1) rs) (h0 : 0 ≤ s) : Ok (some s) rs none := ⟨g, fun x hx => by cases hx; exact h0, nofun⟩
theorem e100 : (10 : Int) ^ 80 ≤ 10 ^ 100 := by decide +kernel
def spCo (K : PySem.W.Frag) : Sp := fun vs H Q _ => ∃ (step edge needed purse : Int) (lim : Nat), vs = [.int step, .int edge, .int needed, .int purse, .int (lim : Int)] ∧ 1 ≤ step ∧ step ≤ 1000 ∧ 0 ≤ edge ∧ edge ≤ 1000 ∧ 0 ≤ needed ∧ needed ≤ 10 ^ 80 ∧ 0 ≤ purse ∧ purse ≤ 10 ^ 80 ∧ (lim : Int) ≤ 10 ^ 80 ∧ ∀ H', Same H H' → Q (.bl true) H'
theorem ok_constant (F : FnP K "_law_constant" s_constant f fd) (m_int : mg "int" = none) (m_min : mg "min" = none) (m_max : mg "max" = none) (k_Need : Mak P w K mg base 2 "Need" (spNeed C K)) (c_same : Cal P w K mg base 1 "_law_same" spSame) (me_rounds_to_afford : Met P w K mg base 3 C "rounds_to_afford" (spRd C K)) (me_rounds_to_exceed : Met P w K mg base 3 C "rounds_to_exceed" (spRu C K)) (me_lowest : Met P w K mg base 3 C "lowest" (spLo C K)) (me_highest : Met P w K mg base 3 C "highest" (spHi C K)) : FnOk P w K mg base CX0 4 f fd P_constant (spCo K) := by
  refine F.ok sc_constant (fun vs H Q E h => ?_) (fun cdv A outer s H vs Q E hr h => ?_)
  · obtain ⟨step, edge, needed, purse, lim, rfl, _⟩ := h
    rfl
  · obtain ⟨step, edge, needed, purse, lim, rfl, st1, st2, ed1, ed2, ne1, ne2, pu1, pu2, lm, q⟩ := h
    refine ⟨_, PSs.nox (pss_cons (ps_set (i := 5) sc_constant.nd rfl (by first | exact .inl rfl | exact .inr rfl) (pe_mk k_Need hr (by decide) (by rfl) (pa_cons (pv 0) (pa_cons (pe_tup (pa_cons (pe_tup (pa_cons pe_int (pa_cons pe_non pa_nil))) pa_nil)) (pa_cons pe_non pa_nil)))))
      (pss_cons (ps_set (i := 6) sc_constant.nd rfl (by first | exact .inl rfl | exact .inr rfl) (pe_mk k_Need hr (by decide) (by rfl) (pa_cons (pv 1) (pa_cons (pe_tup (pa_cons (pe_tup (pa_cons (pe_op op_add (pv 1) (pv 0)) (pa_cons pe_non pa_nil))) pa_nil)) (pa_cons pe_non pa_nil)))))
      (pss_cons (ps_set (i := 7) sc_constant.nd rfl (by first | exact .inl rfl | exact .inr rfl) pe_non)
      (pss_cut (ps_if (pt_cmpR op_gt (pv 2) (pv 3) (nomark _)) (pss_one (ps_set (i := 7) sc_constant.nd rfl (by first | exact .inl rfl | exact .inr rfl) pe_int)) (pss_one (ps_set (i := 7) sc_constant.nd rfl (by first | exact .inl rfl | exact .inr rfl) (pe_op op_add (pe_op op_fdiv (pe_op op_sub (pv 3) (pv 2)) (pv 0)) pe_int))))
      (pss_cons (ps_if (pt_not (pt_val (pe_cl c_same hr (by decide) (by rfl) (pa_cons (pe_me me_rounds_to_exceed (pv 5) hr (by decide) (pa_cons (pv 2) (pa_cons (pv 3) pa_nil))) (pa_cons (pv 7) pa_nil))))) (pss_one (ps_ret pe_bl)) pss_nil)
      (pss_cons (ps_set (i := 8) sc_constant.nd rfl (by first | exact .inl rfl | exact .inr rfl) pe_non)
      (pss_cut (ps_if (pt_cmpR op_gt (pv 2) (pv 3) (nomark _)) (pss_cons (ps_set (i := 8) sc_constant.nd rfl (by first | exact .inl rfl | exact .inr rfl) (pe_op op_sub pe_int (pe_op op_fdiv (pe_op op_sub (pv 3) (pv 2)) (pv 0))))
      (pss_one (ps_if (pt_cmpR op_lt (pv 3) (pv 1) (nomark _)) (pss_one (ps_set (i := 8) sc_constant.nd rfl (by first | exact .inl rfl | exact .inr rfl) pe_non)) pss_nil))) (pss_one (ps_set (i := 8) sc_constant.nd rfl (by first | exact .inl rfl | exact .inr rfl) pe_int)))
      (pss_cons (ps_if (pt_not (pt_val (pe_cl c_same hr (by decide) (by rfl) (pa_cons (pe_me me_rounds_to_afford (pv 6) hr (by decide) (pa_cons (pv 2) (pa_cons (pv 3) pa_nil))) (pa_cons (pv 8) pa_nil))))) (pss_one (ps_ret pe_bl)) pss_nil)
      (pss_cons (ps_if (pt_not (pt_val (pe_cl c_same hr (by decide) (by rfl) (pa_cons (pe_me me_rounds_to_afford (pv 5) hr (by decide) (pa_cons (pv 2) (pa_cons (pv 3) pa_nil))) (pa_cons (pe_ix ix_list (pe_lst (pa_cons pe_int (pa_cons pe_non pa_nil))) (pe_callTy call_int1 (by rfl) m_int (by decide +kernel) (pa_cons (pe_cmpR op_gt (pv 2) (pv 3) (nomark _)) pa_nil)) (fun _ _ => rfl)) pa_nil))))) (pss_one (ps_ret pe_bl)) pss_nil)
      (pss_cons (ps_if (PW.pt (pw_or (pt_cmpR op_ne (pe_me me_highest (pv 5) hr (by decide) (pa_cons (pv 2) (pa_cons (pv 4) pa_nil))) (pe_op op_add (pv 2) (pe_op op_mulW (pv 4) (pv 0))) (nomark _)) (pw_or1 (pt_cmpR op_ne (pe_me me_lowest (pv 5) hr (by decide) (pa_cons (pv 2) (pa_cons (pv 4) pa_nil))) (pv 2) (nomark _))))) (pss_one (ps_ret pe_bl)) pss_nil)
      (pss_one (ps_ret (pe_cmpR op_eq (pe_me me_lowest (pv 6) hr (by decide) (pa_cons (pv 2) (pa_cons (pv 4) pa_nil))) (pe_callB (call_min2 rfl) (by rfl) m_min (by decide +kernel) (pa_cons (pv 2) (pa_cons (pe_callB (call_max2 rfl) (by rfl) m_max (by decide +kernel) (pa_cons (pv 1) (pa_cons (pe_op op_sub (pv 2) (pe_op op_mulW (pv 4) (pv 0))) pa_nil))) pa_nil))) (nomark _)))))))))))))), ?_⟩
    have b80 := e100
    have e80 : (1000 : Int) ≤ 10 ^ 80 := by decide +kernel
    have gu := cu_good
    have gd := cd_good (edge := edge) (step := step) ed1 st1
    have hFu : needed ≤ step + Fs cu needed := by rw [cu_F ne1]; omega
    walk_at "go"
    intro t1 n1
    walk_at "go"
    intro t2 n2
    walk_at "go"
    refine ⟨false, false, some step, none, t2, [t1], cu, rfl, ris_one (.inl (.inl upd_same)) (.inl (.inl (same_new n2 _ _ upd_same))), by decide, ok_of gu (by omega), fun u H1 s1 _ hU => ?_⟩
    have sU : Same H H1 := (same_new n1).trans ((same_new n2).trans s1)
    walk_at "go"
    intro t3 n3
    walk_at "go"
    intro t4 n4
    walk_at "go"
    refine ⟨false, false, some edge, none, t4, [t3], cd edge step, rfl, ris_one (.inl (.inl upd_same)) (.inl (.inl (same_new n4 _ _ upd_same))), (show 1 ≤ 100000 by decide), ok_of gd (by omega), fun v H2 s2 _ hV => ?_⟩
    have s12 : Same H1 H2 := (same_new n3).trans ((same_new n4).trans s2)
    have hU := hU.mono s12
    have sH := sU.trans s12
    have nu := ndw_of gu (s := step) (by omega) (by omega)
    have nv := ndw_of gd (s := edge) (by omega) (by omega)
    obtain ⟨dxu, ru, pu, eu, _⟩ := id hU
    obtain ⟨dxv, rv, pv, ev, _⟩ := id hV
    clear s1 s2 n1 n2 n3 n4 s12 sU
    walk_at "go"
    dsimp only [List.set]
    refine ⟨fun σ H3 => H3 = H2 ∧ ∃ t : Nat, Uc step cu needed purse t (needed + step * t) ∧ purse < needed + step * t ∧ σ = [some (.int step), some (.int edge), some (.int needed), some (.int purse), some (.int (lim : Int)), some (.ref u), some (.ref v), some (.int (t : Int)), none], ?_, ?_⟩
    · walk_at "go"
      refine ite2 (fun e => ?_) (fun e => ?_)
      · have e : purse < needed := of_decide_eq_true e
        walk_at "go"
        refine ⟨0, ?_, by simp; omega, rfl⟩
        rw [Int.natCast_zero, Int.mul_zero, Int.add_zero]
        exact Uc.zero
      · have e : ¬ purse < needed := fun z => e (decide_eq_true z)
        obtain ⟨t, et, t1, t2, t3⟩ := div_lo (a := purse - needed) (p := step) (by omega) (by omega)
        walk_at "go"
        have h1 : ∀ i : Nat, i < t → step + Fs cu (needed + i * step) = needed + i * step + step := fun i hi => by
          have : 0 ≤ (i : Int) * step := Int.mul_nonneg (by omega) (by omega)
          rw [cu_F (by omega)]
          omega
        have h2 : ∀ i : Nat, i < t → needed + i * step ≤ purse := fun i hi => by
          have := t2 i hi
          omega
        have uc := (Uc.zero (s := step) (rs := cu) (k := needed) (purse := purse)).step h1 h2
        rw [Nat.zero_add] at uc
        exact ⟨t, uc, by omega, by rw [et]; rfl⟩
    rintro σ H3 ⟨rfl, t, uc, hlt, rfl⟩
    walk_at "go"
    refine ⟨u, dxu, _, rfl, eu, rfl, ?_⟩
    walk_at "go"
    refine ⟨u, some step, cu, none, some needed, purse, rfl, hU, nu, fun x hx => by cases hx; exact ne1, by omega, fun r hr => ?_⟩
    obtain rfl := uc.is hlt hr
    walk_at "go"
    dsimp only [List.set]
    refine ⟨fun σ H4 => H4 = H3 ∧ ∃ o : Option Int, (∀ r, DnO (some edge) (cd edge step) none (some needed) purse r → r = o) ∧ σ = [some (.int step), some (.int edge), some (.int needed), some (.int purse), some (.int (lim : Int)), some (.ref u), some (.ref v), some (.int (t : Int)), some (oV o)], ?_, ?_⟩
    · walk_at "go"
      refine ite2 (fun e => ?_) (fun e => ?_)
      · have e : purse < needed := of_decide_eq_true e
        obtain ⟨c, ec, c1, c2, c3⟩ := div_ce (a := purse - needed) (p := step) (by omega) (by omega)
        walk_at "go"
        refine ite2 (fun e2 => ?_) (fun e2 => ?_)
        · have e2 : purse < edge := of_decide_eq_true e2
          walk_at "go"
          refine ⟨none, fun r hr => Dc.non (fun i => ?_) hr, rfl⟩
          by_cases z : edge ≤ needed
          · rw [cd_it z st1]
            split <;> omega
          · have := itF_ge (v := needed) gd (s := edge) (by rw [cd_F]; split <;> omega) i
            omega
        · have e2 : ¬ purse < edge := fun z => e2 (decide_eq_true z)
          refine ⟨rfl, some (c : Int), fun r hr => ?_, by rw [ec]; rfl⟩
          have it := cd_it (edge := edge) (step := step) (v := needed) (by omega) st1
          have dc := (Dc.zero (s := edge) (rs := cd edge step) (k := needed) (purse := purse)).go (t := c) rfl fun i hi => by
            rw [it]
            have := c2 i hi
            split <;> omega
          rw [Nat.zero_add] at dc
          refine dc.is ?_ hr
          rw [it, Int.mul_comm]
          split <;> omega
      · have e : ¬ purse < needed := fun z => e (decide_eq_true z)
        walk_at "go"
        exact ⟨some 0, fun r hr => Dc.zero.is (by omega) hr, rfl⟩
    rintro σ H4 ⟨rfl, o, ho, rfl⟩
    walk_at "go"
    refine ⟨v, dxv, _, rfl, ev, rfl, ?_⟩
    walk_at "go"
    refine ⟨v, some edge, cd edge step, none, some needed, purse, rfl, hV, nv, fun x hx => by cases hx; exact ⟨ne1, by omega⟩, by omega, fun r hr => ?_⟩
    obtain rfl := ho r hr
    walk_at "go"
    refine ⟨u, dxu, _, rfl, eu, rfl, ?_⟩
    walk_at "go"
    refine ⟨u, some step, cu, none, some needed, purse, rfl, hU, nu, fun x hx => by cases hx; exact ⟨ne1, by omega⟩, by omega, fun r2 hr2 => ?_⟩
    walk_at "go"
    intro t5 n5
    have s5 := same_new (o := .lst [.int 0, .non]) n5
    have hU5 := hU.mono s5
    have hV5 := hV.mono s5
    have eu5 := s5 _ _ eu
    have ev5 := s5 _ _ ev
    walk_at "go"
    have e2 : ∃ x, atI [V.int 0, V.non] (if decide (purse < needed) = true then 1 else 0) = some x ∧ x = oV r2 := by
      by_cases z : purse < needed
      · rw [if_pos (decide_eq_true z)]
        have : r2 = none := Dc.non (fun i => by
          rw [cu_it ne1 st1]
          have : 0 ≤ (i : Int) * step := Int.mul_nonneg (by omega) (by omega)
          omega) hr2
        exact ⟨_, rfl, by rw [this]; rfl⟩
      · rw [if_neg (by simpa using z)]
        have : r2 = some ((0 : Nat) : Int) := Dc.zero.is (by omega) hr2
        exact ⟨_, rfl, by rw [this]; rfl⟩
    refine .inr ⟨_, rfl, ?_⟩
    obtain ⟨x, ex, rfl⟩ := e2
    refine ⟨t5, _, _, _, rfl, rfl, SqL.of upd_same, ex, ?_⟩
    have b101 : (10 : Int) ^ 80 ≤ 10 ^ 101 := by decide +kernel
    have lgl := lgW (x := (lim : Int)) (by omega) (by omega)
    have lgs := lgW (x := step) (by omega) (by omega)
    have cm : (lim : Int).natAbs.log2 + step.natAbs.log2 < 1000000 := by omega
    walk_at "go"
    refine ⟨u, dxu, _, rfl, eu5, rfl, ?_⟩
    walk_at "go"
    refine ⟨u, some step, cu, none, some needed, lim, rfl, hU5, nu, fun x hx => by cases hx; exact ne1, by omega, fun r3 hr3 => ?_⟩
    obtain rfl := hr3.uniq ((up_hi gu hFu lim).1.o)
    rw [cu_it ne1 st1]
    walk_at "go"
    refine ⟨cm, ?_⟩
    walk_at "go"
    refine ite2 (fun e => absurd e (by simp [oV])) (fun _ => ?_)
    walk_at "go"
    refine ⟨u, dxu, _, rfl, eu5, rfl, ?_⟩
    walk_at "go"
    refine ⟨u, some step, cu, none, some needed, lim, rfl, hU5, nu, fun x hx => by cases hx; exact ⟨ne1, by omega⟩, by omega, fun r4 hr4 => ?_⟩
    obtain rfl := hr4.uniq ((up_hi gu hFu lim).2.o)
    walk_at "go"
    refine ite2 (fun e => absurd e (by simp [oV])) (fun _ => ?_)
    walk_at "go"
    refine ⟨v, dxv, _, rfl, ev5, rfl, ?_⟩
    walk_at "go"
    refine ⟨v, some edge, cd edge step, none, some needed, lim, rfl, hV5, nv, fun x hx => by cases hx; exact ⟨ne1, by omega⟩, by omega, fun r5 hr5 => ?_⟩
    have h5 : r5 = some (if (if edge < needed - lim * step then needed - lim * step else edge) < needed then (if edge < needed - lim * step then needed - lim * step else edge) else needed) := by
      have hls : 0 ≤ (lim : Int) * step := Int.mul_nonneg (by omega) (by omega)
      by_cases z : edge ≤ needed
      · have h := hr5.uniq ((dn_lo gd (s := edge) (k := needed) (by rw [cd_F]; split <;> omega) lim).o)
        rw [h, cd_it z st1]
        congr 1
        (repeat' split) <;> omega
      · have h := hr5.uniq ((up_hi gd (s := edge) (k := needed) (by rw [cd_F]; split <;> omega) lim).2.o)
        rw [h]
        congr 1
        (repeat' split) <;> omega
    subst h5
    walk_at "go"
    refine ⟨cm, ?_⟩
    walk_at "go"
    have q5 := q _ (sH.trans s5)
    simp only [oV, decide_true]
    exact q5
end
end Z
set_option pp.maxSteps 700
set_option Elab.async false
set_option linter.all false
set_option maxRecDepth 100000
set_option maxHeartbeats 4000000
namespace Z
open Nd
open PySem PySem.Spec PyProof.Rows L2
open C8 (pss_cut tCut)
local macro_rules | `(tactic| walk_at "num") => `(tactic| first | rfl | omega | decide | exact Nat.le_of_lt (small1000 (by simp)) | exact ⟨by omega, by omega⟩ | exact ⟨by omega, by omega, by omega⟩ | exact ⟨by decide, by decide, by decide⟩ | exact Or.inl ⟨by omega, by omega⟩ | exact Or.inr ⟨by omega, by omega⟩)
local macro_rules | `(tactic| walk_at "go") => `(tactic| repeat (first | refine ⟨_, rfl, ?_⟩ | refine ⟨_, _, rfl, rfl, ?_⟩ | refine ⟨_, _, rfl, ?_⟩ | (refine ⟨_, _, rfl, rfl, ?_, ?_⟩; focus walk_at "num") | refine Or.inl ⟨_, rfl, ?_⟩ | refine ⟨_, _, _, _, rfl, rfl, (by assumption), (by rfl), ?_⟩ | refine ⟨_, _, _, _, _, rfl, (by assumption), (by assumption), (by assumption), (by rfl), ?_⟩ | refine ⟨rfl, ?_⟩ | (refine And.intro ?_ ?_; focus walk_at "num")))
abbrev s_up_count : Stmt := topS 39
abbrev N_up_count : List Str := ["_law_pace", "_law_flat", "_law_edge", "_law_needed", "_law_purse", "_law_value_here", "_law_count"]
abbrev P_up_count : List Str := ["_law_pace", "_law_flat", "_law_edge", "_law_needed", "_law_purse"]
theorem sc_up_count : FnScope N_up_count P_up_count (defScope s_up_count) := ⟨rfl, rfl, rfl, by decide +kernel, rfl, by decide +kernel, by decide +kernel⟩
abbrev s_up_value : Stmt := topS 40
abbrev N_up_value : List Str := ["_law_pace", "_law_flat", "_law_edge", "_law_needed", "_law_limit", "_law_value_here", "_law_left", "_law_turns"]
abbrev P_up_value : List Str := ["_law_pace", "_law_flat", "_law_edge", "_law_needed", "_law_limit"]
theorem sc_up_value : FnScope N_up_value P_up_value (defScope s_up_value) := ⟨rfl, rfl, rfl, by decide +kernel, rfl, by decide +kernel, by decide +kernel⟩
section
variable {P : Program} {w : World} {K : PySem.W.Frag} {mg : Str → Option Value} {base : Heap} {f C : Addr} {fd : FuncData}
theorem mulW {p x : Int} (h0 : 0 ≤ p) (h1 : p ≤ 5000) : (-(2 ^ 64) < p ∧ p < 2 ^ 64) ∨ (-(2 ^ 64) < x ∧ x < 2 ^ 64) := .inl ⟨by omega, by omega⟩
def spUc : Sp := fun vs H Q _ => ∃ (pace flat edge needed purse : Int), vs = [.int pace, .int flat, .int edge, .int needed, .int purse] ∧ 1 ≤ flat ∧ flat < pace ∧ pace ≤ 2000 ∧ 1 ≤ edge ∧ 0 ≤ needed ∧ ∀ (t : Nat) (v : Int), Uc pace (tu edge flat) needed purse t v → purse < v → Q (.int (t : Int)) H
theorem ok_up_count (F : FnP K "_law_up_count" s_up_count f fd) (m_min : mg "min" = none) : FnOk P w K mg base CX0 1 f fd P_up_count spUc := by
  refine F.ok sc_up_count (fun vs H Q E h => ?_) (fun cdv A outer s H vs Q E hr h => ?_)
  · obtain ⟨pace, flat, edge, needed, purse, rfl, _⟩ := h
    rfl
  · obtain ⟨pace, flat, edge, needed, purse, rfl, f1, f2, p1, d1, n1, q⟩ := h
    refine ⟨_, PSs.nox (pss_cons (ps_set (i := 5) sc_up_count.nd rfl (by first | exact .inl rfl | exact .inr rfl) (pv 3))
      (pss_cons (ps_set (i := 6) sc_up_count.nd rfl (by first | exact .inl rfl | exact .inr rfl) pe_int)
      (pss_cut (ps_if (PW.pt (pw_and (pt_cmpR op_le (pv 5) (pv 4) (nomark _)) (pw_and1 (pt_cmpR op_le (pv 5) (pv 2) (nomark _))))) (pss_cons (ps_set (i := 6) sc_up_count.nd rfl (by first | exact .inl rfl | exact .inr rfl) (pe_op op_add (pe_op op_fdiv (pe_op op_sub (pe_callB (call_min2 rfl) (by rfl) m_min (by decide +kernel) (pa_cons (pv 4) (pa_cons (pv 2) pa_nil))) (pv 5)) (pv 0)) pe_int))
      (pss_one (ps_set (i := 5) sc_up_count.nd rfl (by first | exact .inl rfl | exact .inr rfl) (pe_op op_add (pv 5) (pe_op op_mul (pv 0) (pv 6)))))) pss_nil)
      (pss_cut (ps_if (PW.pt (pw_and (pt_cmpR op_le (pv 5) (pv 4) (nomark _)) (pw_and1 (pt_cmpR op_lt (pv 5) (pe_op op_add (pv 2) (pv 1)) (nomark _))))) (pss_cons (ps_set (i := 5) sc_up_count.nd rfl (by first | exact .inl rfl | exact .inr rfl) (pe_op op_add (pv 2) (pv 0)))
      (pss_one (ps_set (i := 6) sc_up_count.nd rfl (by first | exact .inl rfl | exact .inr rfl) (pe_op op_add (pv 6) pe_int)))) pss_nil)
      (pss_cut (ps_if (pt_cmpR op_le (pv 5) (pv 4) (nomark _)) (pss_one (ps_set (i := 6) sc_up_count.nd rfl (by first | exact .inl rfl | exact .inr rfl) (pe_op op_add (pe_op op_add (pv 6) (pe_op op_fdiv (pe_op op_sub (pv 4) (pv 5)) (pe_op op_sub (pv 0) (pv 1)))) pe_int))) pss_nil)
      (pss_one (ps_ret (pv 6)))))))), ?_⟩
    have fu : ∀ v, 0 ≤ v → Fs (tu edge flat) v = if v ≤ edge then v else if v ≤ edge + flat then edge else v - flat := fun v hv => tu_F d1 f1 hv
    walk_at "go"
    dsimp only [List.set]
    refine ⟨fun σ J => J = H ∧ ∃ (c : Nat) (v : Int), Uc pace (tu edge flat) needed purse c v ∧ 0 ≤ v ∧ (v ≤ purse → edge < v) ∧ σ = [some (.int pace), some (.int flat), some (.int edge), some (.int needed), some (.int purse), some (.int v), some (.int (c : Int))], ?_, ?_⟩
    · walk_at "go"
      refine ite2 (fun e1 => ?_) (fun e1 => ?_)
      · have e1 : needed ≤ purse := of_decide_eq_true e1
        walk_at "go"
        refine ite2 (fun e2 => ?_) (fun e2 => ?_)
        · have e2 : needed ≤ edge := of_decide_eq_true e2
          generalize em : (if edge < purse then edge else purse) = m
          obtain ⟨t, et, t1, t2, t3⟩ := div_lo (a := m - needed) (p := pace) (by omega) (by split at em <;> omega)
          walk_at "go"
          have nn : ∀ i : Nat, 0 ≤ (i : Int) * pace := fun i => Int.mul_nonneg (by omega) (by omega)
          have uc := (Uc.zero (s := pace) (rs := tu edge flat) (k := needed) (purse := purse)).step (t := t) (g := pace) (fun i hi => by
            have := t2 i hi
            have := nn i
            rw [fu _ (by omega), if_pos (by split at em <;> omega)]
            omega) (fun i hi => by
            have := t2 i hi
            split at em <;> omega)
          rw [Nat.zero_add] at uc
          have := nn t
          rw [Int.mul_comm] at this
          refine ⟨t, _, uc, by omega, fun _ => by split at em <;> omega, ?_⟩
          rw [et, ← em]
          rfl
        · have e2 : ¬ needed ≤ edge := fun z => e2 (decide_eq_true z)
          exact ⟨rfl, 0, needed, Uc.zero, n1, fun _ => by omega, rfl⟩
      · have e1 : ¬ needed ≤ purse := fun z => e1 (decide_eq_true z)
        exact ⟨rfl, 0, needed, Uc.zero, n1, fun z => absurd z e1, rfl⟩
    rintro σ J ⟨rfl, c, v, uc, v0, vh, rfl⟩
    refine ⟨fun σ J2 => J2 = J ∧ ∃ (c : Nat) (v : Int), Uc pace (tu edge flat) needed purse c v ∧ 0 ≤ v ∧ (v ≤ purse → edge + flat ≤ v) ∧ σ = [some (.int pace), some (.int flat), some (.int edge), some (.int needed), some (.int purse), some (.int v), some (.int (c : Int))], ?_, ?_⟩
    · walk_at "go"
      refine ite2 (fun e1 => ?_) (fun e1 => ?_)
      · have e1 : v ≤ purse := of_decide_eq_true e1
        have vh := vh e1
        walk_at "go"
        refine ite2 (fun e2 => ?_) (fun e2 => ?_)
        · have e2 : v < edge + flat := of_decide_eq_true e2
          walk_at "go"
          exact ⟨c + 1, edge + pace, uc.one (by rw [fu v v0, if_neg (by omega), if_pos (by omega)]; omega) e1, by omega, fun _ => by omega, rfl⟩
        · have e2 : ¬ v < edge + flat := fun z => e2 (decide_eq_true z)
          exact ⟨rfl, c, v, uc, v0, fun _ => by omega, rfl⟩
      · have e1 : ¬ v ≤ purse := fun z => e1 (decide_eq_true z)
        exact ⟨rfl, c, v, uc, v0, fun z => absurd z e1, rfl⟩
    rintro σ J2 ⟨rfl, c, v, uc, v0, vh, rfl⟩
    refine ⟨fun σ J3 => J3 = J2 ∧ ∃ (t : Nat) (y x5 : Int), Uc pace (tu edge flat) needed purse t y ∧ purse < y ∧ σ = [some (.int pace), some (.int flat), some (.int edge), some (.int needed), some (.int purse), some (.int x5), some (.int (t : Int))], ?_, ?_⟩
    · walk_at "go"
      refine ite2 (fun e1 => ?_) (fun e1 => ?_)
      · have e1 : v ≤ purse := of_decide_eq_true e1
        have vh := vh e1
        obtain ⟨t, et, t1, t2, t3⟩ := div_lo (a := purse - v) (p := pace - flat) (by omega) (by omega)
        walk_at "go"
        have uc2 := uc.step (t := t) (g := pace - flat) (fun i hi => by
          have : 0 ≤ (i : Int) * (pace - flat) := Int.mul_nonneg (by omega) (by omega)
          rw [fu _ (by omega), if_neg (by omega)]
          split <;> omega) (fun i hi => by
          have := t2 i hi
          omega)
        refine ⟨c + t, _, v, uc2, by omega, ?_⟩
        rw [show ((c + t : Nat) : Int) = (c : Int) + (purse - v) / (pace - flat) + 1 by omega]
        rfl
      · have e1 : ¬ v ≤ purse := fun z => e1 (decide_eq_true z)
        exact ⟨rfl, c, v, v, uc, by omega, rfl⟩
    rintro σ J3 ⟨rfl, t, y, x5, uc, hy, rfl⟩
    walk_at "go"
    exact q t y uc hy
def spUv : Sp := fun vs H Q _ => ∃ (pace flat edge needed : Int) (lim : Nat), vs = [.int pace, .int flat, .int edge, .int needed, .int (lim : Int)] ∧ 1 ≤ flat ∧ flat < pace ∧ pace ≤ 2000 ∧ 1 ≤ edge ∧ 0 ≤ needed ∧ Q (.int (itF pace (tu edge flat) lim needed)) H
theorem ok_up_value (F : FnP K "_law_up_value" s_up_value f fd) (m_min : mg "min" = none) : FnOk P w K mg base CX0 1 f fd P_up_value spUv := by
  refine F.ok sc_up_value (fun vs H Q E h => ?_) (fun cdv A outer s H vs Q E hr h => ?_)
  · obtain ⟨pace, flat, edge, needed, lim, rfl, _⟩ := h
    rfl
  · obtain ⟨pace, flat, edge, needed, lim, rfl, f1, f2, p1, d1, n1, q⟩ := h
    refine ⟨_, PSs.nox (pss_cons (ps_set (i := 5) sc_up_value.nd rfl (by first | exact .inl rfl | exact .inr rfl) (pv 3))
      (pss_cons (ps_set (i := 6) sc_up_value.nd rfl (by first | exact .inl rfl | exact .inr rfl) (pv 4))
      (pss_cut (ps_if (PW.pt (pw_and (pt_cmpR op_gt (pv 6) pe_int (nomark _)) (pw_and1 (pt_cmpR op_le (pv 5) (pv 2) (nomark _))))) (pss_cons (ps_set (i := 7) sc_up_value.nd rfl (by first | exact .inl rfl | exact .inr rfl) (pe_callB (call_min2 rfl) (by rfl) m_min (by decide +kernel) (pa_cons (pv 6) (pa_cons (pe_op op_add (pe_op op_fdiv (pe_op op_sub (pv 2) (pv 5)) (pv 0)) pe_int) pa_nil))))
      (pss_cons (ps_set (i := 5) sc_up_value.nd rfl (by first | exact .inl rfl | exact .inr rfl) (pe_op op_add (pv 5) (pe_op op_mul (pv 0) (pv 7))))
      (pss_one (ps_set (i := 6) sc_up_value.nd rfl (by first | exact .inl rfl | exact .inr rfl) (pe_op op_sub (pv 6) (pv 7)))))) pss_nil)
      (pss_cut (ps_if (PW.pt (pw_and (pt_cmpR op_gt (pv 6) pe_int (nomark _)) (pw_and1 (pt_cmpR op_lt (pv 5) (pe_op op_add (pv 2) (pv 1)) (nomark _))))) (pss_cons (ps_set (i := 5) sc_up_value.nd rfl (by first | exact .inl rfl | exact .inr rfl) (pe_op op_add (pv 2) (pv 0)))
      (pss_one (ps_set (i := 6) sc_up_value.nd rfl (by first | exact .inl rfl | exact .inr rfl) (pe_op op_sub (pv 6) pe_int)))) pss_nil)
      (pss_one (ps_ret (pe_op op_add (pv 5) (pe_op op_mul (pe_op op_sub (pv 0) (pv 1)) (pv 6))))))))), ?_⟩
    have fu : ∀ v, 0 ≤ v → Fs (tu edge flat) v = if v ≤ edge then v else if v ≤ edge + flat then edge else v - flat := fun v hv => tu_F d1 f1 hv
    walk_at "go"
    dsimp only [List.set]
    refine ⟨fun σ J => J = H ∧ ∃ (l : Nat) (v : Int) (v7 : Option V), 0 ≤ v ∧ itF pace (tu edge flat) lim needed = itF pace (tu edge flat) l v ∧ (0 < l → edge < v) ∧ σ = [some (.int pace), some (.int flat), some (.int edge), some (.int needed), some (.int (lim : Int)), some (.int v), some (.int (l : Int)), v7], ?_, ?_⟩
    · walk_at "go"
      refine ite2 (fun e1 => ?_) (fun e1 => ?_)
      · have e1 : (0 : Int) < lim := of_decide_eq_true e1
        walk_at "go"
        refine ite2 (fun e2 => ?_) (fun e2 => ?_)
        · have e2 : needed ≤ edge := of_decide_eq_true e2
          obtain ⟨t0, et, t1, t2, t3⟩ := div_lo (a := edge - needed) (p := pace) (by omega) (by omega)
          walk_at "go"
          obtain ⟨t, e5, h1, h2, h3⟩ : ∃ t : Nat, (if (edge - needed) / pace + 1 < (lim : Int) then (edge - needed) / pace + 1 else (lim : Int)) = (t : Int) ∧ t ≤ t0 ∧ t ≤ lim ∧ (t < lim → t = t0) := by
            split
            · exact ⟨t0, by omega, by omega, by omega, by omega⟩
            · exact ⟨lim, by omega, by omega, by omega, by omega⟩
          rw [e5]
          dsimp only [List.set]
          have nn : ∀ i : Nat, 0 ≤ (i : Int) * pace := fun i => Int.mul_nonneg (by omega) (by omega)
          have ln := line (s := pace) (rs := tu edge flat) (v := needed) (g := pace) (t := t) (fun i hi => by
            have := t2 i (by omega)
            have := nn i
            rw [fu _ (by omega), if_pos (by omega)]
            omega) t (Nat.le_refl _)
          have := nn t
          refine ⟨lim - t, needed + pace * t, _, by rw [Int.mul_comm]; omega, ?_, fun hl => ?_, by rw [show ((lim - t : Nat) : Int) = (lim : Int) - t by omega]; rfl⟩
          · rw [show lim = t + (lim - t) by omega, itF_add, ln, Int.mul_comm, show t + (lim - t) - t = lim - t by omega]
          · obtain rfl := h3 (by omega)
            omega
        · have e2 : ¬ needed ≤ edge := fun z => e2 (decide_eq_true z)
          exact ⟨rfl, lim, needed, none, n1, rfl, fun _ => by omega, rfl⟩
      · have e1 : ¬ (0 : Int) < lim := fun z => e1 (decide_eq_true z)
        exact ⟨rfl, lim, needed, none, n1, rfl, fun _ => by omega, rfl⟩
    rintro σ J ⟨rfl, l, v, v7, v0, it, vh, rfl⟩
    refine ⟨fun σ J2 => J2 = J ∧ ∃ (l : Nat) (v : Int), 0 ≤ v ∧ itF pace (tu edge flat) lim needed = itF pace (tu edge flat) l v ∧ (0 < l → edge + flat ≤ v) ∧ σ = [some (.int pace), some (.int flat), some (.int edge), some (.int needed), some (.int (lim : Int)), some (.int v), some (.int (l : Int)), v7], ?_, ?_⟩
    · walk_at "go"
      refine ite2 (fun e1 => ?_) (fun e1 => ?_)
      · have e1 : (0 : Int) < l := of_decide_eq_true e1
        have vh := vh (by omega)
        walk_at "go"
        refine ite2 (fun e2 => ?_) (fun e2 => ?_)
        · have e2 : v < edge + flat := of_decide_eq_true e2
          walk_at "go"
          refine ⟨l - 1, edge + pace, by omega, ?_, fun _ => by omega, by rw [show ((l - 1 : Nat) : Int) = (l : Int) - 1 by omega]; rfl⟩
          rw [it]
          obtain ⟨m, rfl⟩ : ∃ m, l = m + 1 := ⟨l - 1, by omega⟩
          rw [itF, fu v v0, if_neg (by omega), if_pos (by omega), Int.add_comm]
          rfl
        · have e2 : ¬ v < edge + flat := fun z => e2 (decide_eq_true z)
          exact ⟨rfl, l, v, v0, it, fun _ => by omega, rfl⟩
      · have e1 : ¬ (0 : Int) < l := fun z => e1 (decide_eq_true z)
        exact ⟨rfl, l, v, v0, it, fun _ => by omega, rfl⟩
    rintro σ J2 ⟨rfl, l, v, v0, it, vh, rfl⟩
    walk_at "go"
    have ln : itF pace (tu edge flat) l v = v + (pace - flat) * l := by
      by_cases z : 0 < l
      · have vh := vh z
        rw [Int.mul_comm]
        exact line (t := l) (fun i hi => by
          have : 0 ≤ (i : Int) * (pace - flat) := Int.mul_nonneg (by omega) (by omega)
          rw [fu _ (by omega), if_neg (by omega)]
          split <;> omega) l (Nat.le_refl _)
      · obtain rfl : l = 0 := by omega
        rw [itF]
        simp
    rw [it, ln] at q
    exact q
end
end Z
set_option pp.maxSteps 700
set_option Elab.async false
set_option linter.all false
set_option maxRecDepth 100000
set_option maxHeartbeats 4000000
namespace Z
open Nd
open PySem PySem.Spec PyProof.Rows L2
open C8 (pss_cut tCut)
local macro_rules | `(tactic| walk_at "num") => `(tactic| first | rfl | omega | decide | exact Nat.le_of_lt (small1000 (by simp)) | exact ⟨by omega, by omega⟩ | exact ⟨by omega, by omega, by omega⟩ | exact ⟨by decide, by decide, by decide⟩ | exact Or.inl ⟨by omega, by omega⟩ | exact Or.inr ⟨by omega, by omega⟩)
local macro_rules | `(tactic| walk_at "go") => `(tactic| repeat (first | refine ⟨_, rfl, ?_⟩ | refine ⟨_, _, rfl, rfl, ?_⟩ | refine ⟨_, _, rfl, ?_⟩ | (refine ⟨_, _, rfl, rfl, ?_, ?_⟩; focus walk_at "num") | refine Or.inl ⟨_, rfl, ?_⟩ | refine ⟨_, _, _, _, rfl, rfl, (by assumption), (by rfl), ?_⟩ | refine ⟨_, _, _, _, _, rfl, (by assumption), (by assumption), (by assumption), (by rfl), ?_⟩ | refine ⟨rfl, ?_⟩ | (refine And.intro ?_ ?_; focus walk_at "num")))
abbrev s_down_count : Stmt := topS 41
abbrev N_down_count : List Str := ["_law_base", "_law_pace", "_law_flat", "_law_edge", "_law_needed", "_law_purse", "_law_value_here", "_law_count"]
abbrev P_down_count : List Str := ["_law_base", "_law_pace", "_law_flat", "_law_edge", "_law_needed", "_law_purse"]
theorem sc_down_count : FnScope N_down_count P_down_count (defScope s_down_count) := ⟨rfl, rfl, rfl, by decide +kernel, rfl, by decide +kernel, by decide +kernel⟩
abbrev s_down_value : Stmt := topS 42
abbrev N_down_value : List Str := ["_law_base", "_law_pace", "_law_flat", "_law_edge", "_law_needed", "_law_limit", "_law_value_here", "_law_left", "_law_turns"]
abbrev P_down_value : List Str := ["_law_base", "_law_pace", "_law_flat", "_law_edge", "_law_needed", "_law_limit"]
theorem sc_down_value : FnScope N_down_value P_down_value (defScope s_down_value) := ⟨rfl, rfl, rfl, by decide +kernel, rfl, by decide +kernel, by decide +kernel⟩
section
variable {P : Program} {w : World} {K : PySem.W.Frag} {mg : Str → Option Value} {base : Heap} {f C : Addr} {fd : FuncData}
def spDc : Sp := fun vs H Q _ => ∃ (b pace flat edge needed purse : Int), vs = [.int b, .int pace, .int flat, .int edge, .int needed, .int purse] ∧ 0 ≤ b ∧ 1 ≤ flat ∧ 1 ≤ pace ∧ pace ≤ 2000 ∧ flat ≤ 2000 ∧ b + pace < edge ∧ 0 ≤ needed ∧ ∀ o : Option Int, (∀ r, DnO (some b) (td b pace edge flat) none (some needed) purse r → r = o) → Q (oV o) H
theorem ok_down_count (F : FnP K "_law_down_count" s_down_count f fd) (m_min : mg "min" = none) : FnOk P w K mg base CX0 1 f fd P_down_count spDc := by
  refine F.ok sc_down_count (fun vs H Q E h => ?_) (fun cdv A outer s H vs Q E hr h => ?_)
  · obtain ⟨b, pace, flat, edge, needed, purse, rfl, _⟩ := h
    rfl
  · obtain ⟨b, pace, flat, edge, needed, purse, rfl, b0, f1, p1, p2, f2, d1, n1, q⟩ := h
    refine ⟨_, PSs.nox (pss_cons (ps_set (i := 6) sc_down_count.nd rfl (by first | exact .inl rfl | exact .inr rfl) (pv 4))
      (pss_cons (ps_set (i := 7) sc_down_count.nd rfl (by first | exact .inl rfl | exact .inr rfl) pe_int)
      (pss_cut (ps_if (PW.pt (pw_and (pt_cmpR op_gt (pv 6) (pv 5) (nomark _)) (pw_and1 (pt_cmpR op_lt (pv 5) (pv 0) (nomark _))))) (pss_one (ps_ret pe_non)) pss_nil)
      (pss_cut (ps_if (PW.pt (pw_and (pt_cmpR op_gt (pv 6) (pv 5) (nomark _)) (pw_and1 (pt_cmpR op_ge (pv 6) (pe_op op_add (pv 3) (pv 2)) (nomark _))))) (pss_cons (ps_set (i := 7) sc_down_count.nd rfl (by first | exact .inl rfl | exact .inr rfl) (pe_callB (call_min2 rfl) (by rfl) m_min (by decide +kernel) (pa_cons (pe_op op_add (pe_op op_fdiv (pe_op op_sub (pe_op op_sub (pv 6) (pv 3)) (pv 2)) (pe_op op_add (pv 1) (pv 2))) pe_int) (pa_cons (pe_op op_sub pe_int (pe_op op_fdiv (pe_op op_sub (pv 5) (pv 6)) (pe_op op_add (pv 1) (pv 2)))) pa_nil))))
      (pss_one (ps_set (i := 6) sc_down_count.nd rfl (by first | exact .inl rfl | exact .inr rfl) (pe_op op_sub (pv 6) (pe_op op_mul (pe_op op_add (pv 1) (pv 2)) (pv 7)))))) pss_nil)
      (pss_cut (ps_if (PW.pt (pw_and (pt_cmpR op_gt (pv 6) (pv 5) (nomark _)) (pw_and1 (pt_cmpR op_gt (pv 6) (pv 3) (nomark _))))) (pss_cons (ps_set (i := 6) sc_down_count.nd rfl (by first | exact .inl rfl | exact .inr rfl) (pe_op op_sub (pv 3) (pv 1)))
      (pss_one (ps_set (i := 7) sc_down_count.nd rfl (by first | exact .inl rfl | exact .inr rfl) (pe_op op_add (pv 7) pe_int)))) pss_nil)
      (pss_cut (ps_if (pt_cmpR op_gt (pv 6) (pv 5) (nomark _)) (pss_one (ps_set (i := 7) sc_down_count.nd rfl (by first | exact .inl rfl | exact .inr rfl) (pe_op op_sub (pv 7) (pe_op op_fdiv (pe_op op_sub (pv 5) (pv 6)) (pv 1))))) pss_nil)
      (pss_one (ps_ret (pv 7))))))))), ?_⟩
    have fu : ∀ v, Fs (td b pace edge flat) v = if v ≤ b + pace then 0 else if v ≤ edge then v - b - pace else if v ≤ edge + flat then edge - b - pace else v - b - pace - flat := fun v => td_F f1 d1
    have gd := td_good (base := b) (pace := pace) (edge := edge) (flat := flat) b0 f1 d1 (by omega)
    walk_at "go"
    dsimp only [List.set]
    have low : ∀ v, b ≤ v → v ≤ edge → ∀ i : Nat, itF b (td b pace edge flat) i v = if v - i * pace < b then b else v - i * pace := fun v h0 h1 i => td_it f1 d1 p1 h0 h1 i
    refine ⟨fun σ J => J = H ∧ (needed ≤ purse ∨ b ≤ purse) ∧ σ = [some (.int b), some (.int pace), some (.int flat), some (.int edge), some (.int needed), some (.int purse), some (.int needed), some (.int 0)], ?_, ?_⟩
    · walk_at "go"
      refine ite2 (fun e1 => ?_) (fun e1 => ?_)
      · have e1 : purse < needed := of_decide_eq_true e1
        walk_at "go"
        refine ite2 (fun e2 => ?_) (fun e2 => ?_)
        · have e2 : purse < b := of_decide_eq_true e2
          walk_at "go"
          refine q none fun r hr => Dc.non (fun i => ?_) hr
          by_cases z : b ≤ needed
          · have h1 := itF_mono gd (s := b) i z
            have h2 := itF_ge gd (s := b) (v := b) (by rw [fu b, if_pos (by omega)]; omega) i
            omega
          · have := itF_ge gd (s := b) (v := needed) (by rw [fu needed, if_pos (by omega)]; omega) i
            omega
        · have e2 : ¬ purse < b := fun z => e2 (decide_eq_true z)
          exact ⟨rfl, .inr (by omega), rfl⟩
      · have e1 : ¬ purse < needed := fun z => e1 (decide_eq_true z)
        exact ⟨rfl, .inl (by omega), rfl⟩
    rintro σ J ⟨rfl, hb, rfl⟩
    refine ⟨fun σ J2 => J2 = J ∧ ∃ (c : Nat) (v : Int), Dc b (td b pace edge flat) needed purse c v ∧ (purse < v → b ≤ purse) ∧ (purse < v → v < edge + flat) ∧ σ = [some (.int b), some (.int pace), some (.int flat), some (.int edge), some (.int needed), some (.int purse), some (.int v), some (.int (c : Int))], ?_, ?_⟩
    · walk_at "go"
      refine ite2 (fun e1 => ?_) (fun e1 => ?_)
      · have e1 : purse < needed := of_decide_eq_true e1
        have hb : b ≤ purse := by omega
        walk_at "go"
        refine ite2 (fun e2 => ?_) (fun e2 => ?_)
        · have e2 : edge + flat ≤ needed := of_decide_eq_true e2
          obtain ⟨t0, et, t1, t2, t3⟩ := div_lo (a := needed - edge - flat) (p := pace + flat) (by omega) (by omega)
          obtain ⟨c0, ec, c1, c2, c3⟩ := div_ce (a := purse - needed) (p := pace + flat) (by omega) (by omega)
          walk_at "go"
          obtain ⟨t, e5, h1, h2, h3⟩ : ∃ t : Nat, (if 0 - (purse - needed) / (pace + flat) < (needed - edge - flat) / (pace + flat) + 1 then 0 - (purse - needed) / (pace + flat) else (needed - edge - flat) / (pace + flat) + 1) = (t : Int) ∧ t ≤ t0 ∧ t ≤ c0 ∧ (t = t0 ∨ t = c0) := by
            split
            · exact ⟨c0, by omega, by omega, by omega, by omega⟩
            · exact ⟨t0, by omega, by omega, by omega, by omega⟩
          rw [e5]
          dsimp only [List.set]
          have ln := line (s := b) (rs := td b pace edge flat) (v := needed) (g := 0 - (pace + flat)) (t := t) (fun i hi => by
            have h6 := t2 i (by omega)
            rw [Int.mul_sub, Int.mul_zero, fu, if_neg (by omega), if_neg (by omega)]
            split <;> omega)
          have dc := (Dc.zero (s := b) (rs := td b pace edge flat) (k := needed) (purse := purse)).go (t := t) (ln t (Nat.le_refl _)) fun i hi => by
            have := c2 i (by omega)
            rw [ln i (by omega), Int.mul_sub, Int.mul_zero]
            omega
          rw [Nat.zero_add] at dc
          have e6 : needed + (t : Int) * (0 - (pace + flat)) = needed - (pace + flat) * t := by
            rw [Int.mul_sub, Int.mul_zero, Int.mul_comm]
            omega
          rw [e6] at dc
          refine ⟨t, _, dc, fun _ => hb, fun z => ?_, rfl⟩
          rcases h3 with rfl | rfl <;> omega
        · have e2 : ¬ edge + flat ≤ needed := fun z => e2 (decide_eq_true z)
          exact ⟨rfl, 0, needed, Dc.zero, fun _ => hb, fun _ => by omega, rfl⟩
      · have e1 : ¬ purse < needed := fun z => e1 (decide_eq_true z)
        exact ⟨rfl, 0, needed, Dc.zero, fun z => absurd z e1, fun z => absurd z e1, rfl⟩
    rintro σ J2 ⟨rfl, c, v, dc, hb, vh, rfl⟩
    refine ⟨fun σ J3 => J3 = J2 ∧ ∃ (c : Nat) (v : Int), Dc b (td b pace edge flat) needed purse c v ∧ (purse < v → b ≤ purse) ∧ (purse < v → v ≤ edge) ∧ σ = [some (.int b), some (.int pace), some (.int flat), some (.int edge), some (.int needed), some (.int purse), some (.int v), some (.int (c : Int))], ?_, ?_⟩
    · walk_at "go"
      refine ite2 (fun e1 => ?_) (fun e1 => ?_)
      · have e1 : purse < v := of_decide_eq_true e1
        have hb := hb e1
        have vh := vh e1
        walk_at "go"
        refine ite2 (fun e2 => ?_) (fun e2 => ?_)
        · have e2 : edge < v := of_decide_eq_true e2
          walk_at "go"
          refine ⟨c + 1, edge - pace, dc.go (t := 1) ?_ (fun i hi => ?_), fun _ => hb, fun _ => by omega, rfl⟩
          · show b + Fs (td b pace edge flat) v = _
            rw [fu, if_neg (by omega), if_neg (by omega), if_pos (by omega)]
            omega
          · obtain rfl : i = 0 := by omega
            exact e1
        · have e2 : ¬ edge < v := fun z => e2 (decide_eq_true z)
          exact ⟨rfl, c, v, dc, fun _ => hb, fun _ => by omega, rfl⟩
      · have e1 : ¬ purse < v := fun z => e1 (decide_eq_true z)
        exact ⟨rfl, c, v, dc, hb, fun z => absurd z e1, rfl⟩
    rintro σ J3 ⟨rfl, c, v, dc, hb, vh, rfl⟩
    refine ⟨fun σ J4 => J4 = J3 ∧ ∃ (t : Nat) (y x6 : Int), Dc b (td b pace edge flat) needed purse t y ∧ y ≤ purse ∧ σ = [some (.int b), some (.int pace), some (.int flat), some (.int edge), some (.int needed), some (.int purse), some (.int x6), some (.int (t : Int))], ?_, ?_⟩
    · walk_at "go"
      refine ite2 (fun e1 => ?_) (fun e1 => ?_)
      · have e1 : purse < v := of_decide_eq_true e1
        have hb := hb e1
        have vh := vh e1
        obtain ⟨t, et, t1, t2, t3⟩ := div_ce (a := purse - v) (p := pace) (by omega) (by omega)
        walk_at "go"
        have it := low v (by omega) vh
        refine ⟨c + t, _, v, dc.go (t := t) (it t) (fun i hi => ?_), ?_, ?_⟩
        · have := t2 i hi
          rw [it]
          split <;> omega
        · rw [Int.mul_comm]
          split <;> omega
        · rw [show ((c + t : Nat) : Int) = (c : Int) - (purse - v) / pace by omega]
          rfl
      · have e1 : ¬ purse < v := fun z => e1 (decide_eq_true z)
        exact ⟨rfl, c, v, v, dc, by omega, rfl⟩
    rintro σ J4 ⟨rfl, t, y, x6, dc, hy, rfl⟩
    walk_at "go"
    exact q (some (t : Int)) fun r hr => dc.is hy hr
def spDv : Sp := fun vs H Q _ => ∃ (b pace flat edge needed : Int) (lim : Nat), vs = [.int b, .int pace, .int flat, .int edge, .int needed, .int (lim : Int)] ∧ 0 ≤ b ∧ 1 ≤ flat ∧ 1 ≤ pace ∧ pace ≤ 2000 ∧ flat ≤ 2000 ∧ b + pace < edge ∧ 0 ≤ needed ∧ ∀ r : Int, LoF b (td b pace edge flat) needed lim r → Q (.int r) H
theorem ok_down_value (F : FnP K "_law_down_value" s_down_value f fd) (m_min : mg "min" = none) (m_max : mg "max" = none) : FnOk P w K mg base CX0 1 f fd P_down_value spDv := by
  refine F.ok sc_down_value (fun vs H Q E h => ?_) (fun cdv A outer s H vs Q E hr h => ?_)
  · obtain ⟨b, pace, flat, edge, needed, lim, rfl, _⟩ := h
    rfl
  · obtain ⟨b, pace, flat, edge, needed, lim, rfl, b0, f1, p1, p2, f2, d1, n1, q⟩ := h
    refine ⟨_, PSs.nox (pss_cons (ps_set (i := 6) sc_down_value.nd rfl (by first | exact .inl rfl | exact .inr rfl) (pv 4))
      (pss_cons (ps_set (i := 7) sc_down_value.nd rfl (by first | exact .inl rfl | exact .inr rfl) (pv 5))
      (pss_cut (ps_if (PW.pt (pw_and (pt_cmpR op_gt (pv 7) pe_int (nomark _)) (pw_and1 (pt_cmpR op_ge (pv 6) (pe_op op_add (pv 3) (pv 2)) (nomark _))))) (pss_cons (ps_set (i := 8) sc_down_value.nd rfl (by first | exact .inl rfl | exact .inr rfl) (pe_callB (call_min2 rfl) (by rfl) m_min (by decide +kernel) (pa_cons (pv 7) (pa_cons (pe_op op_add (pe_op op_fdiv (pe_op op_sub (pe_op op_sub (pv 6) (pv 3)) (pv 2)) (pe_op op_add (pv 1) (pv 2))) pe_int) pa_nil))))
      (pss_cons (ps_set (i := 6) sc_down_value.nd rfl (by first | exact .inl rfl | exact .inr rfl) (pe_op op_sub (pv 6) (pe_op op_mul (pe_op op_add (pv 1) (pv 2)) (pv 8))))
      (pss_one (ps_set (i := 7) sc_down_value.nd rfl (by first | exact .inl rfl | exact .inr rfl) (pe_op op_sub (pv 7) (pv 8)))))) pss_nil)
      (pss_cut (ps_if (PW.pt (pw_and (pt_cmpR op_gt (pv 7) pe_int (nomark _)) (pw_and1 (pt_cmpR op_gt (pv 6) (pv 3) (nomark _))))) (pss_cons (ps_set (i := 6) sc_down_value.nd rfl (by first | exact .inl rfl | exact .inr rfl) (pe_op op_sub (pv 3) (pv 1)))
      (pss_one (ps_set (i := 7) sc_down_value.nd rfl (by first | exact .inl rfl | exact .inr rfl) (pe_op op_sub (pv 7) pe_int)))) pss_nil)
      (pss_one (ps_ret (pe_callB (call_min2 rfl) (by rfl) m_min (by decide +kernel) (pa_cons (pv 6) (pa_cons (pe_callB (call_max2 rfl) (by rfl) m_max (by decide +kernel) (pa_cons (pv 0) (pa_cons (pe_op op_sub (pv 6) (pe_op op_mul (pv 1) (pv 7))) pa_nil))) pa_nil))))))))), ?_⟩
    have fu : ∀ v, Fs (td b pace edge flat) v = if v ≤ b + pace then 0 else if v ≤ edge then v - b - pace else if v ≤ edge + flat then edge - b - pace else v - b - pace - flat := fun v => td_F f1 d1
    have gd := td_good (base := b) (pace := pace) (edge := edge) (flat := flat) b0 f1 d1 (by omega)
    have low : ∀ v, b ≤ v → v ≤ edge → ∀ i : Nat, itF b (td b pace edge flat) i v = if v - i * pace < b then b else v - i * pace := fun v h0 h1 i => td_it f1 d1 p1 h0 h1 i
    walk_at "go"
    dsimp only [List.set]
    refine ⟨fun σ J => J = H ∧ ∃ (l : Nat) (v : Int) (v8 : Option V), (b ≤ needed → b ≤ v) ∧ (needed < b → v = needed) ∧ (0 < l → v < edge + flat) ∧ itF b (td b pace edge flat) lim needed = itF b (td b pace edge flat) l v ∧ σ = [some (.int b), some (.int pace), some (.int flat), some (.int edge), some (.int needed), some (.int (lim : Int)), some (.int v), some (.int (l : Int)), v8], ?_, ?_⟩
    · walk_at "go"
      refine ite2 (fun e1 => ?_) (fun e1 => ?_)
      · have e1 : (0 : Int) < lim := of_decide_eq_true e1
        walk_at "go"
        refine ite2 (fun e2 => ?_) (fun e2 => ?_)
        · have e2 : edge + flat ≤ needed := of_decide_eq_true e2
          obtain ⟨t0, et, t1, t2, t3⟩ := div_lo (a := needed - edge - flat) (p := pace + flat) (by omega) (by omega)
          walk_at "go"
          obtain ⟨t, e5, h1, h2, h3, h4⟩ : ∃ t : Nat, (if (needed - edge - flat) / (pace + flat) + 1 < (lim : Int) then (needed - edge - flat) / (pace + flat) + 1 else (lim : Int)) = (t : Int) ∧ t ≤ t0 ∧ t ≤ lim ∧ (t < lim → t = t0) ∧ 1 ≤ t := by
            split
            · exact ⟨t0, by omega, by omega, by omega, by omega, by omega⟩
            · exact ⟨lim, by omega, by omega, by omega, by omega, by omega⟩
          rw [e5]
          dsimp only [List.set]
          have ln := line (s := b) (rs := td b pace edge flat) (v := needed) (g := 0 - (pace + flat)) (t := t) (fun i hi => by
            have h6 := t2 i (by omega)
            rw [Int.mul_sub, Int.mul_zero, fu, if_neg (by omega), if_neg (by omega)]
            split <;> omega) t (Nat.le_refl _)
          have e6 : needed + (t : Int) * (0 - (pace + flat)) = needed - (pace + flat) * t := by
            rw [Int.mul_sub, Int.mul_zero, Int.mul_comm]
            omega
          rw [e6] at ln
          have h7 := t2 (t - 1) (by omega)
          have e7 : ((t - 1 : Nat) : Int) * (pace + flat) = (pace + flat) * t - (pace + flat) := by
            rw [show ((t - 1 : Nat) : Int) = (t : Int) - 1 by omega, Int.sub_mul, Int.one_mul, Int.mul_comm]
          refine ⟨lim - t, needed - (pace + flat) * t, _, fun _ => by omega, fun _ => by omega, fun hl => ?_, ?_, by rw [show ((lim - t : Nat) : Int) = (lim : Int) - t by omega]; rfl⟩
          · obtain rfl := h3 (by omega)
            omega
          · rw [show lim = t + (lim - t) by omega, itF_add, ln, show t + (lim - t) - t = lim - t by omega]
        · have e2 : ¬ edge + flat ≤ needed := fun z => e2 (decide_eq_true z)
          exact ⟨rfl, lim, needed, none, fun h => h, fun _ => rfl, fun _ => by omega, rfl, rfl⟩
      · have e1 : ¬ (0 : Int) < lim := fun z => e1 (decide_eq_true z)
        exact ⟨rfl, lim, needed, none, fun h => h, fun _ => rfl, fun _ => by omega, rfl, rfl⟩
    rintro σ J ⟨rfl, l, v, v8, b1, b2, vh, it, rfl⟩
    refine ⟨fun σ J2 => J2 = J ∧ ∃ (l : Nat) (v : Int), (b ≤ needed → b ≤ v) ∧ (needed < b → v = needed) ∧ (0 < l → v ≤ edge) ∧ itF b (td b pace edge flat) lim needed = itF b (td b pace edge flat) l v ∧ σ = [some (.int b), some (.int pace), some (.int flat), some (.int edge), some (.int needed), some (.int (lim : Int)), some (.int v), some (.int (l : Int)), v8], ?_, ?_⟩
    · walk_at "go"
      refine ite2 (fun e1 => ?_) (fun e1 => ?_)
      · have e1 : (0 : Int) < l := of_decide_eq_true e1
        have vh := vh (by omega)
        walk_at "go"
        refine ite2 (fun e2 => ?_) (fun e2 => ?_)
        · have e2 : edge < v := of_decide_eq_true e2
          walk_at "go"
          refine ⟨l - 1, edge - pace, fun _ => by omega, fun _ => by omega, fun _ => by omega, ?_, by rw [show ((l - 1 : Nat) : Int) = (l : Int) - 1 by omega]; rfl⟩
          rw [it]
          obtain ⟨m, rfl⟩ : ∃ m, l = m + 1 := ⟨l - 1, by omega⟩
          rw [itF, fu v, if_neg (by omega), if_neg (by omega), if_pos (by omega), show b + (edge - b - pace) = edge - pace by omega]
          rfl
        · have e2 : ¬ edge < v := fun z => e2 (decide_eq_true z)
          exact ⟨rfl, l, v, b1, b2, fun _ => by omega, it, rfl⟩
      · have e1 : ¬ (0 : Int) < l := fun z => e1 (decide_eq_true z)
        exact ⟨rfl, l, v, b1, b2, fun _ => by omega, it, rfl⟩
    rintro σ J2 ⟨rfl, l, v, b1, b2, vh, it, rfl⟩
    walk_at "go"
    refine q _ ?_
    have hlp : 0 ≤ (l : Int) * pace := Int.mul_nonneg (by omega) (by omega)
    rw [Int.mul_comm pace]
    by_cases z : b ≤ needed
    · have b1 := b1 z
      have h := dn_lo gd (s := b) (k := needed) (by rw [fu needed]; (repeat' split) <;> omega) lim
      rw [it] at h
      by_cases zl : 0 < l
      · rw [low v b1 (vh zl)] at h
        have e9 : (if (if b < v - l * pace then v - l * pace else b) < v then (if b < v - l * pace then v - l * pace else b) else v) = (if v - l * pace < b then b else v - l * pace) := by
          (repeat' split) <;> omega
        rw [e9]
        exact h
      · obtain rfl : l = 0 := by omega
        have h : LoF b (td b pace edge flat) needed lim v := h
        have e9 : (if (if b < v - (0 : Nat) * pace then v - (0 : Nat) * pace else b) < v then (if b < v - (0 : Nat) * pace then v - (0 : Nat) * pace else b) else v) = v := by
          simp
          (repeat' split) <;> omega
        rw [e9]
        exact h
    · have h := (up_hi gd (s := b) (k := needed) (by rw [fu needed, if_pos (by omega)]; omega) lim).2
      have b2 := b2 (by omega)
      have e9 : (if (if b < v - l * pace then v - l * pace else b) < v then (if b < v - l * pace then v - l * pace else b) else v) = needed := by
        (repeat' split) <;> omega
      rw [e9]
      exact h
end
end Z
set_option pp.maxSteps 700
set_option Elab.async false
set_option linter.all false
set_option maxRecDepth 100000
set_option maxHeartbeats 4000000
namespace Z
open Nd
open PySem PySem.Spec PyProof.Rows L2
open C8 (pss_cut tCut)
local macro_rules | `(tactic| walk_at "num") => `(tactic| first | rfl | omega | decide | exact Nat.le_of_lt (small1000 (by simp)) | exact ⟨by omega, by omega⟩ | exact ⟨by omega, by omega, by omega⟩ | exact ⟨by decide, by decide, by decide⟩ | exact Or.inl ⟨by omega, by omega⟩ | exact Or.inr ⟨by omega, by omega⟩)
local macro_rules | `(tactic| walk_at "go") => `(tactic| repeat (first | refine ⟨_, rfl, ?_⟩ | refine ⟨_, _, rfl, rfl, ?_⟩ | refine ⟨_, _, rfl, ?_⟩ | (refine ⟨_, _, rfl, rfl, ?_, ?_⟩; focus walk_at "num") | refine Or.inl ⟨_, rfl, ?_⟩ | refine ⟨_, _, _, _, rfl, rfl, (by assumption), (by rfl), ?_⟩ | refine ⟨_, _, _, _, _, rfl, (by assumption), (by assumption), (by assumption), (by rfl), ?_⟩ | refine ⟨rfl, ?_⟩ | (refine And.intro ?_ ?_; focus walk_at "num")))
abbrev s_paces : Stmt := topS 43
abbrev N_paces : List Str := ["_law_draws_here", "_law_bend", "_law_needed", "_law_purse", "_law_limit", "_law_pace", "_law_flat", "_law_base", "_law_up", "_law_edge", "_law_down"]
abbrev P_paces : List Str := ["_law_draws_here", "_law_bend", "_law_needed", "_law_purse", "_law_limit"]
theorem sc_paces : FnScope N_paces P_paces (defScope s_paces) := ⟨rfl, rfl, rfl, by decide +kernel, rfl, by decide +kernel, by decide +kernel⟩
theorem dixI {K : PySem.W.Frag} {H : Hp} {D : Addr} {ds : List Int} {n : Nat} {j : Int} (h0 : 0 ≤ j) (h1 : j < n) (hS : SqL K H D (ds.map V.int)) (hd : Dr n ds) {R : V → Prop} (k : ∀ d : Int, 0 ≤ d → d < 1000000 → R (.int d)) : ∃ (p : Addr) (xs : List V) (i' : Int) (v : V), V.ref D = .ref p ∧ V.int j = .int i' ∧ SqL K H p xs ∧ atI xs i' = some v ∧ R v := by
  obtain ⟨i, rfl⟩ := Int.eq_ofNat_of_zero_le h0
  have h : i < ds.length := by rw [hd.1]; omega
  have z := hd.2 _ (List.getElem_mem h)
  exact ⟨D, _, _, _, rfl, rfl, hS, at_map (List.getElem?_eq_getElem h), k _ z.1 z.2⟩
section
variable {P : Program} {w : World} {K : PySem.W.Frag} {mg : Str → Option Value} {base : Heap} {f C : Addr} {fd : FuncData}
def spPc (K : PySem.W.Frag) : Sp := fun vs H Q _ => ∃ (D : Addr) (ds : List Int) (bend needed purse : Int) (lim : Nat), vs = [.ref D, .int bend, .int needed, .int purse, .int (lim : Int)] ∧ SqL K H D (ds.map V.int) ∧ Dr 40 ds ∧ 1 ≤ bend ∧ bend ≤ 10 ^ 70 ∧ 0 ≤ needed ∧ needed ≤ 10 ^ 70 ∧ 0 ≤ purse ∧ purse ≤ 10 ^ 70 ∧ (lim : Int) ≤ 10 ^ 70 ∧ ∀ H', Same H H' → Q (.bl true) H'
theorem ok_paces (F : FnP K "_law_paces" s_paces f fd) (m_int : mg "int" = none) (k_Need : Mak P w K mg base 2 "Need" (spNeed C K)) (c_same : Cal P w K mg base 1 "_law_same" spSame) (c_up_count : Cal P w K mg base 1 "_law_up_count" spUc) (c_up_value : Cal P w K mg base 1 "_law_up_value" spUv) (c_down_count : Cal P w K mg base 1 "_law_down_count" spDc) (c_down_value : Cal P w K mg base 1 "_law_down_value" spDv) (me_rounds_to_afford : Met P w K mg base 3 C "rounds_to_afford" (spRd C K)) (me_rounds_to_exceed : Met P w K mg base 3 C "rounds_to_exceed" (spRu C K)) (me_lowest : Met P w K mg base 3 C "lowest" (spLo C K)) (me_highest : Met P w K mg base 3 C "highest" (spHi C K)) : FnOk P w K mg base CX0 4 f fd P_paces (spPc K) := by
  refine F.ok sc_paces (fun vs H Q E h => ?_) (fun cdv A outer s H vs Q E hr h => ?_)
  · obtain ⟨D, ds, bend, needed, purse, lim, rfl, _⟩ := h
    rfl
  · obtain ⟨D, ds, bend, needed, purse, lim, rfl, hD, hd, be1, be2, ne1, ne2, pu1, pu2, lm, q⟩ := h
    refine ⟨_, PSs.nox (pss_cons (ps_set (i := 5) sc_paces.nd rfl (by first | exact .inl rfl | exact .inr rfl) (pe_op op_add pe_int (pe_op op_mod (pe_callTy call_int1 (by rfl) m_int (by decide +kernel) (pa_cons (pe_ix ix_list (pv 0) pe_int (fun _ _ => rfl)) pa_nil)) pe_int)))
      (pss_cons (ps_set (i := 6) sc_paces.nd rfl (by first | exact .inl rfl | exact .inr rfl) (pe_op op_add pe_int (pe_op op_mod (pe_callTy call_int1 (by rfl) m_int (by decide +kernel) (pa_cons (pe_ix ix_list (pv 0) pe_int (fun _ _ => rfl)) pa_nil)) (pe_op op_sub (pv 5) pe_int))))
      (pss_cons (ps_set (i := 7) sc_paces.nd rfl (by first | exact .inl rfl | exact .inr rfl) (pe_op op_mod (pe_callTy call_int1 (by rfl) m_int (by decide +kernel) (pa_cons (pe_ix ix_list (pv 0) pe_int (fun _ _ => rfl)) pa_nil)) pe_int))
      (pss_cons (ps_set (i := 8) sc_paces.nd rfl (by first | exact .inl rfl | exact .inr rfl) (pe_mk k_Need hr (by decide) (by rfl) (pa_cons (pv 5) (pa_cons (pe_tup (pa_cons (pe_tup (pa_cons pe_int (pa_cons (pv 1) pa_nil))) (pa_cons (pe_tup (pa_cons (pe_op op_add (pv 1) (pv 6)) (pa_cons pe_non pa_nil))) pa_nil))) (pa_cons pe_non pa_nil)))))
      (pss_cons (ps_if (pt_not (pt_val (pe_cl c_same hr (by decide) (by rfl) (pa_cons (pe_me me_rounds_to_exceed (pv 8) hr (by decide) (pa_cons (pv 2) (pa_cons (pv 3) pa_nil))) (pa_cons (pe_cl c_up_count hr (by decide) (by rfl) (pa_cons (pv 5) (pa_cons (pv 6) (pa_cons (pv 1) (pa_cons (pv 2) (pa_cons (pv 3) pa_nil)))))) pa_nil))))) (pss_one (ps_ret pe_bl)) pss_nil)
      (pss_cons (ps_if (pt_not (pt_val (pe_cl c_same hr (by decide) (by rfl) (pa_cons (pe_me me_highest (pv 8) hr (by decide) (pa_cons (pv 2) (pa_cons (pv 4) pa_nil))) (pa_cons (pe_cl c_up_value hr (by decide) (by rfl) (pa_cons (pv 5) (pa_cons (pv 6) (pa_cons (pv 1) (pa_cons (pv 2) (pa_cons (pv 4) pa_nil)))))) pa_nil))))) (pss_one (ps_ret pe_bl)) pss_nil)
      (pss_cons (ps_set (i := 9) sc_paces.nd rfl (by first | exact .inl rfl | exact .inr rfl) (pe_op op_add (pe_op op_add (pv 1) (pv 7)) (pv 5)))
      (pss_cons (ps_set (i := 10) sc_paces.nd rfl (by first | exact .inl rfl | exact .inr rfl) (pe_mk k_Need hr (by decide) (by rfl) (pa_cons (pv 7) (pa_cons (pe_tup (pa_cons (pe_tup (pa_cons (pe_op op_add (pv 7) (pv 5)) (pa_cons (pv 9) pa_nil))) (pa_cons (pe_tup (pa_cons (pe_op op_add (pv 9) (pv 6)) (pa_cons pe_non pa_nil))) pa_nil))) (pa_cons pe_non pa_nil)))))
      (pss_cons (ps_if (pt_not (pt_val (pe_cl c_same hr (by decide) (by rfl) (pa_cons (pe_me me_rounds_to_afford (pv 10) hr (by decide) (pa_cons (pv 2) (pa_cons (pv 3) pa_nil))) (pa_cons (pe_cl c_down_count hr (by decide) (by rfl) (pa_cons (pv 7) (pa_cons (pv 5) (pa_cons (pv 6) (pa_cons (pv 9) (pa_cons (pv 2) (pa_cons (pv 3) pa_nil))))))) pa_nil))))) (pss_one (ps_ret pe_bl)) pss_nil)
      (pss_one (ps_ret (pe_cl c_same hr (by decide) (by rfl) (pa_cons (pe_me me_lowest (pv 10) hr (by decide) (pa_cons (pv 2) (pa_cons (pv 4) pa_nil))) (pa_cons (pe_cl c_down_value hr (by decide) (by rfl) (pa_cons (pv 7) (pa_cons (pv 5) (pa_cons (pv 6) (pa_cons (pv 9) (pa_cons (pv 2) (pa_cons (pv 4) pa_nil))))))) pa_nil)))))))))))))), ?_⟩
    have b100 : (10 : Int) ^ 70 ≤ 10 ^ 100 := by decide +kernel
    have b80 : (10 : Int) ^ 70 + 10 ^ 70 ≤ 10 ^ 80 := by decide +kernel
    have b10 : (10000 : Int) ≤ 10 ^ 70 := by decide +kernel
    walk_at "go"
    refine dixI (by decide) (by decide) hD hd fun d37 a1 a2 => ?_
    walk_at "go"
    refine dixI (by decide) (by decide) hD hd fun d38 a3 a4 => ?_
    walk_at "go"
    dsimp only [List.set]
    have f1 : 0 ≤ d38 % (2 + d37 % 1000 - 1) := Int.emod_nonneg _ (by omega)
    have f2 : d38 % (2 + d37 % 1000 - 1) < 2 + d37 % 1000 - 1 := Int.emod_lt_of_pos _ (by omega)
    have f3 : 1 ≤ 1 + d38 % (2 + d37 % 1000 - 1) := by omega
    have f4 : 1 + d38 % (2 + d37 % 1000 - 1) < 2 + d37 % 1000 := by omega
    clear f1 f2
    have p1 : 2 ≤ 2 + d37 % 1000 := by omega
    have p2 : 2 + d37 % 1000 ≤ 2000 := by omega
    generalize 1 + d38 % (2 + d37 % 1000 - 1) = flat at f3 f4 ⊢
    generalize 2 + d37 % 1000 = pace at f4 p1 p2 ⊢
    walk_at "go"
    refine dixI (by decide) (by decide) hD hd fun d39 a5 a6 => ?_
    walk_at "go"
    dsimp only [List.set]
    have o1 : 0 ≤ d39 % 1000 := by omega
    have o2 : d39 % 1000 ≤ 1000 := by omega
    generalize d39 % 1000 = b at o1 o2 ⊢
    have gu := tu_good (bend := bend) (flat := flat) be1 f3
    have hFu : needed ≤ pace + Fs (tu bend flat) needed := by
      rw [tu_F be1 f3 ne1]
      (repeat' split) <;> omega
    have nu := ndw_of gu (s := pace) (by omega) (by omega)
    intro t1 n1
    walk_at "go"
    intro t2 n2
    walk_at "go"
    intro t3 n3
    walk_at "go"
    have s1 := same_new (o := .tup [.int 0, .int bend]) n1
    have s2 := same_new (o := .tup [.int (bend + flat), .non]) n2
    have s3 := same_new (o := .tup [.ref t1, .ref t2]) n3
    refine ⟨false, false, some pace, none, t3, [t1, t2], tu bend flat, rfl, ris_two (.inl (.inl upd_same)) (.inl (.inl (s3 _ _ (s2 _ _ upd_same)))) (.inl (.inl (s3 _ _ upd_same))), (show 2 ≤ 100000 by decide), ok_of gu (by omega), fun u H1 s4 _ hU => ?_⟩
    have sU : Same H H1 := s1.trans (s2.trans (s3.trans s4))
    obtain ⟨dxu, ru, pu, eu, _⟩ := id hU
    clear s1 s2 s3 s4 n1 n2 n3
    walk_at "go"
    refine ⟨u, dxu, _, rfl, eu, rfl, ?_⟩
    walk_at "go"
    refine ⟨u, some pace, tu bend flat, none, some needed, purse, rfl, hU, nu, fun x hx => by cases hx; exact ne1, by omega, fun r hr => ?_⟩
    walk_at "go"
    refine ⟨pace, flat, bend, needed, purse, rfl, f3, f4, p2, be1, ne1, fun t v uc hv => ?_⟩
    obtain rfl := uc.is hv hr
    walk_at "go"
    refine ⟨u, dxu, _, rfl, eu, rfl, ?_⟩
    walk_at "go"
    refine ⟨u, some pace, tu bend flat, none, some needed, lim, rfl, hU, nu, fun x hx => by cases hx; exact ne1, by omega, fun r hr => ?_⟩
    obtain rfl := hr.uniq ((up_hi gu hFu lim).1.o)
    walk_at "go"
    refine ⟨pace, flat, bend, needed, lim, rfl, f3, f4, p2, be1, ne1, ?_⟩
    walk_at "go"
    dsimp only [List.set]
    obtain ⟨edge, ee⟩ : ∃ e, bend + b + pace = e := ⟨_, rfl⟩
    rw [ee]
    have gd := td_good (base := b) (pace := pace) (edge := edge) (flat := flat) o1 f3 (by omega) (by omega)
    have nv := ndw_of gd (s := b) (by omega) (by omega)
    intro t4 n4
    walk_at "go"
    intro t5 n5
    walk_at "go"
    intro t6 n6
    walk_at "go"
    have s4 := same_new (o := .tup [.int (b + pace), .int edge]) n4
    have s5 := same_new (o := .tup [.int (edge + flat), .non]) n5
    have s6 := same_new (o := .tup [.ref t4, .ref t5]) n6
    refine ⟨false, false, some b, none, t6, [t4, t5], td b pace edge flat, rfl, ris_two (.inl (.inl upd_same)) (.inl (.inl (s6 _ _ (s5 _ _ upd_same)))) (.inl (.inl (s6 _ _ upd_same))), (show 2 ≤ 100000 by decide), ok_of gd (by omega), fun v H2 s7 _ hV => ?_⟩
    have sV : Same H H2 := sU.trans (s4.trans (s5.trans (s6.trans s7)))
    obtain ⟨dxv, rv, pv, ev, _⟩ := id hV
    clear s4 s5 s6 s7 n4 n5 n6
    walk_at "go"
    refine ⟨v, dxv, _, rfl, ev, rfl, ?_⟩
    walk_at "go"
    refine ⟨v, some b, td b pace edge flat, none, some needed, purse, rfl, hV, nv, fun x hx => by cases hx; exact ⟨ne1, by omega⟩, by omega, fun r hr => ?_⟩
    walk_at "go"
    refine ⟨b, pace, flat, edge, needed, purse, rfl, o1, f3, by omega, p2, by omega, by omega, ne1, fun o ho => ?_⟩
    obtain rfl := ho r hr
    walk_at "go"
    refine ⟨v, dxv, _, rfl, ev, rfl, ?_⟩
    walk_at "go"
    refine ⟨v, some b, td b pace edge flat, none, some needed, lim, rfl, hV, nv, fun x hx => by cases hx; exact ⟨ne1, by omega⟩, by omega, fun r hr => ?_⟩
    walk_at "go"
    refine ⟨b, pace, flat, edge, needed, lim, rfl, o1, f3, by omega, p2, by omega, by omega, ne1, fun x hx => ?_⟩
    obtain rfl := hr.uniq hx.o
    walk_at "go"
    exact q _ sV
end
end Z
set_option pp.maxSteps 700
set_option Elab.async false
set_option linter.all false
set_option maxRecDepth 100000
set_option maxHeartbeats 4000000
namespace Z
open Nd
open PySem PySem.Spec PyProof.Rows L2
open C8 (pss_cut tCut)
local macro_rules | `(tactic| walk_at "num") => `(tactic| first | rfl | omega | decide | exact Nat.le_of_lt (small1000 (by simp)) | exact ⟨by omega, by omega⟩ | exact ⟨by omega, by omega, by omega⟩ | exact ⟨by decide, by decide, by decide⟩ | exact Or.inl ⟨by omega, by omega⟩ | exact Or.inr ⟨by omega, by omega⟩)
local macro_rules | `(tactic| walk_at "go") => `(tactic| repeat (first | refine ⟨_, rfl, ?_⟩ | refine ⟨_, _, rfl, rfl, ?_⟩ | refine ⟨_, _, rfl, ?_⟩ | (refine ⟨_, _, rfl, rfl, ?_, ?_⟩; focus walk_at "num") | refine Or.inl ⟨_, rfl, ?_⟩ | refine ⟨_, _, _, _, rfl, rfl, (by assumption), (by rfl), ?_⟩ | refine ⟨_, _, _, _, _, rfl, (by assumption), (by assumption), (by assumption), (by rfl), ?_⟩ | refine ⟨rfl, ?_⟩ | (refine And.intro ?_ ?_; focus walk_at "num")))
abbrev s_law : Stmt := topS 44
abbrev N_law : List Str := ["_law_script", "_law_draws_here", "_law_need_here", "_law_f", "_law_k", "_law_needed", "_law_purse", "_law_step", "_law_edge", "_law_limit", "_law_bend", "_law_beyond"]
abbrev P_law : List Str := ["_law_script"]
theorem sc_law : FnScope N_law P_law (defScope s_law) := ⟨rfl, rfl, rfl, by decide +kernel, rfl, by decide +kernel, by decide +kernel⟩
theorem lim_at {j : Int} (h0 : 0 ≤ j) (h1 : j < 6) : ∃ m : Nat, atI [V.int 0, V.int 1, V.int 7, V.int 40, V.int 3, V.int 2] j = some (.int (m : Int)) ∧ m ≤ 40 := by
  obtain ⟨i, rfl⟩ := Int.eq_ofNat_of_zero_le h0
  match i, h1 with
  | 0, _ => exact ⟨0, rfl, by decide⟩
  | 1, _ => exact ⟨1, rfl, by decide⟩
  | 2, _ => exact ⟨7, rfl, by decide⟩
  | 3, _ => exact ⟨40, rfl, by decide⟩
  | 4, _ => exact ⟨3, rfl, by decide⟩
  | 5, _ => exact ⟨2, rfl, by decide⟩
  | i + 6, h => exact absurd h (by omega)
theorem bnd_ge : ∀ {rs : Rs} {e t : Int}, Good e rs → t ≤ bnd t rs
  | [], _, _, _ => Int.le_refl _
  | (l, none) :: _, _, t, _ => by
    show t ≤ if l > t then l else t
    split <;> omega
  | (l, some h) :: r, _, t, g => by
    have h1 := g.2.1
    have h2 := bnd_ge (t := t + h - l) g.2.2
    show t ≤ bnd (t + h - l) r
    omega
theorem top_ge : ∀ {rs : Rs} {e t x : Int}, Good e rs → top t rs = some x → t ≤ x
  | [], _, _, _, _, h => by cases h; exact Int.le_refl _
  | (l, none) :: _, _, t, _, _, h => by cases h
  | (l, some y) :: r, _, t, x, g, h => by
    have h1 := g.2.1
    have h2 := top_ge (t := t + y - l) g.2.2 h
    omega
theorem LOk.w {st nv : Option Int} {rs : Rs} (h : LOk st rs nv) : NdW st rs nv := by
  have b1 : (10 : Int) ^ 39 ≤ 10 ^ 100 := by decide +kernel
  have b2 : (10 : Int) ^ 40 ≤ 10 ^ 100 := by decide +kernel
  refine ⟨h.good, fun s hs => ?_, fun hs => ?_, fun v hv => ?_⟩
  · have h1 := h.2.2.1 s hs
    have h2 := bnd_ge (t := s) h.good
    exact ⟨h.1.2.1 s hs, by omega⟩
  · subst hs
    exact h.nv
  · have h1 := h.2.2.2 v hv
    obtain ⟨t, e1, e2⟩ := h.1.2.2 v hv
    cases st with
    | none => cases e1
    | some s =>
      have h3 := top_ge (t := s) h.good e1
      have h4 := h.1.2.1 s rfl
      exact ⟨by omega, by omega⟩
theorem mod60 (x : Int) : 0 ≤ x % 10 ^ Int.toNat 60 ∧ x % 10 ^ Int.toNat 60 ≤ 10 ^ 70 := by
  have h := Int.emod_lt_of_pos x (show (0 : Int) < 10 ^ Int.toNat 60 by decide +kernel)
  have h2 : (10 : Int) ^ Int.toNat 60 ≤ 10 ^ 70 := by decide +kernel
  exact ⟨Int.emod_nonneg _ (by decide +kernel), by omega⟩
theorem mod40 (x : Int) : 0 ≤ x % 10 ^ Int.toNat 40 ∧ x % 10 ^ Int.toNat 40 ≤ 10 ^ 60 := by
  have h := Int.emod_lt_of_pos x (show (0 : Int) < 10 ^ Int.toNat 40 by decide +kernel)
  have h2 : (10 : Int) ^ Int.toNat 40 ≤ 10 ^ 60 := by decide +kernel
  exact ⟨Int.emod_nonneg _ (by decide +kernel), by omega⟩
section
variable {P : Program} {w : World} {K : PySem.W.Frag} {mg : Str → Option Value} {base : Heap} {f C : Addr} {fd : FuncData}
def spLaw (K : PySem.W.Frag) : Sp := fun vs H Q _ => ∃ (a : Addr) (ns : List Int), vs = [.ref a] ∧ SqL K H a (ns.map V.int) ∧ ∀ H', Q (.bl true) H'
theorem ok_law (F : FnP K "law" s_law f fd) (m_int : mg "int" = none) (m_range : mg "range" = none) (m_abs : mg "abs" = none)
    (c_draws : Cal P w K mg base 1 "_law_draws" spDraws) (c_cell : Cal P w K mg base 1 "_law_cell" (spCell K)) (c_need : Cal P w K mg base 2 "_law_need" (spLN K)) (c_make : Cal P w K mg base 4 "_law_make" (spMake C K)) (c_small : Cal P w K mg base 4 "_law_small" (spSm C K)) (c_extremes : Cal P w K mg base 4 "_law_extremes" (spEx C K)) (c_constant : Cal P w K mg base 4 "_law_constant" (spCo K)) (c_paces : Cal P w K mg base 4 "_law_paces" (spPc K)) : FnOk P w K mg base CX0 6 f fd P_law (spLaw K) := by
  refine F.ok sc_law (fun vs H Q E h => ?_) (fun cdv A outer s H vs Q E hr h => ?_)
  · obtain ⟨a, ns, rfl, _⟩ := h
    rfl
  · obtain ⟨a, ns, rfl, hS, q⟩ := h
    refine ⟨_, PSs.nox (pss_cons (ps_set (i := 1) sc_law.nd rfl (by first | exact .inl rfl | exact .inr rfl) (pe_cl c_draws hr (by decide) (by rfl) (pa_cons (pe_cl c_cell hr (by decide) (by rfl) (pa_cons (pv 0) (pa_cons pe_int pa_nil))) (pa_cons pe_int pa_nil))))
      (pss_cons (ps_set (i := 2) sc_law.nd rfl (by first | exact .inl rfl | exact .inr rfl) (pe_cl c_need hr (by decide) (by rfl) (pa_cons (pv 1) (pa_cons (pe_lst (pa_cons pe_int pa_nil)) pa_nil))))
      (pss_cons (ps_set (i := 3) sc_law.nd rfl (by first | exact .inl rfl | exact .inr rfl) (pe_cl c_make hr (by decide) (by rfl) (pa_cons (pv 2) pa_nil)))
      (pss_cut (ps_for PassesOwn.never rfl (pi_range1 (by rfl) m_range (pa_cons pe_int pa_nil)) (pg_name (i := 4) sc_law.nd rfl (by first | exact .inl rfl | exact .inr rfl))
        (pss_cons (ps_set (i := 5) sc_law.nd rfl (by first | exact .inl rfl | exact .inr rfl) (pe_op op_mod (pe_callTy call_int1 (by rfl) m_int (by decide +kernel) (pa_cons (pe_ix ix_list (pv 1) (pe_op op_add pe_int (pv 4)) (fun _ _ => rfl)) pa_nil)) pe_int))
      (pss_cons (ps_set (i := 6) sc_law.nd rfl (by first | exact .inl rfl | exact .inr rfl) (pe_op op_mod (pe_callTy call_int1 (by rfl) m_int (by decide +kernel) (pa_cons (pe_ix ix_list (pv 1) (pe_op op_add pe_int (pv 4)) (fun _ _ => rfl)) pa_nil)) pe_int))
      (pss_cut (ps_if (pt_cmpR op_eq (pv 4) pe_int (nomark _)) (pss_one (ps_set (i := 5) sc_law.nd rfl (by first | exact .inl rfl | exact .inr rfl) pe_non)) pss_nil)
      (pss_cut (ps_if (pt_cmpR op_eq (pv 4) pe_int (nomark _)) (pss_cons (ps_set (i := 5) sc_law.nd rfl (by first | exact .inl rfl | exact .inr rfl) (pe_op op_mod (pe_callTy call_int1 (by rfl) m_int (by decide +kernel) (pa_cons (pe_callB call_abs (by rfl) m_abs (by decide +kernel) (pa_cons (pe_cl c_cell hr (by decide) (by rfl) (pa_cons (pv 0) (pa_cons pe_int pa_nil))) pa_nil)) pa_nil)) (pe_op op_pow pe_int pe_int)))
      (pss_one (ps_set (i := 6) sc_law.nd rfl (by first | exact .inl rfl | exact .inr rfl) (pe_op op_mod (pe_callTy call_int1 (by rfl) m_int (by decide +kernel) (pa_cons (pe_callB call_abs (by rfl) m_abs (by decide +kernel) (pa_cons (pe_cl c_cell hr (by decide) (by rfl) (pa_cons (pv 0) (pa_cons pe_int pa_nil))) pa_nil)) pa_nil)) (pe_op op_pow pe_int pe_int))))) pss_nil)
      (pss_one (ps_if (PW.pt (pw_or (pt_not (pt_val (pe_cl c_small hr (by decide) (by rfl) (pa_cons (pv 3) (pa_cons (pv 2) (pa_cons (pv 5) (pa_cons (pv 6) pa_nil))))))) (pw_or1 (pt_not (pt_val (pe_cl c_extremes hr (by decide) (by rfl) (pa_cons (pv 3) (pa_cons (pv 2) (pa_cons (pv 5) (pa_cons (pe_ix ix_list (pe_lst (pa_cons pe_int (pa_cons pe_int (pa_cons pe_int (pa_cons pe_int (pa_cons pe_int (pa_cons pe_int pa_nil))))))) (pe_op op_mod (pe_callTy call_int1 (by rfl) m_int (by decide +kernel) (pa_cons (pe_op op_add (pv 4) (pe_ix ix_list (pv 1) pe_int (fun _ _ => rfl))) pa_nil)) pe_int) (fun _ _ => rfl)) pa_nil)))))))))) (pss_one (ps_ret pe_bl)) pss_nil)))))))
      (pss_cons (ps_set (i := 7) sc_law.nd rfl (by first | exact .inl rfl | exact .inr rfl) (pe_op op_add pe_int (pe_op op_mod (pe_callTy call_int1 (by rfl) m_int (by decide +kernel) (pa_cons (pe_ix ix_list (pv 1) pe_int (fun _ _ => rfl)) pa_nil)) pe_int)))
      (pss_cons (ps_set (i := 8) sc_law.nd rfl (by first | exact .inl rfl | exact .inr rfl) (pe_op op_mod (pe_callTy call_int1 (by rfl) m_int (by decide +kernel) (pa_cons (pe_ix ix_list (pv 1) pe_int (fun _ _ => rfl)) pa_nil)) pe_int))
      (pss_cons (ps_set (i := 5) sc_law.nd rfl (by first | exact .inl rfl | exact .inr rfl) (pe_op op_mod (pe_callTy call_int1 (by rfl) m_int (by decide +kernel) (pa_cons (pe_callB call_abs (by rfl) m_abs (by decide +kernel) (pa_cons (pe_cl c_cell hr (by decide) (by rfl) (pa_cons (pv 0) (pa_cons pe_int pa_nil))) pa_nil)) pa_nil)) (pe_op op_pow pe_int pe_int)))
      (pss_cons (ps_set (i := 6) sc_law.nd rfl (by first | exact .inl rfl | exact .inr rfl) (pe_op op_mod (pe_callTy call_int1 (by rfl) m_int (by decide +kernel) (pa_cons (pe_callB call_abs (by rfl) m_abs (by decide +kernel) (pa_cons (pe_cl c_cell hr (by decide) (by rfl) (pa_cons (pv 0) (pa_cons pe_int pa_nil))) pa_nil)) pa_nil)) (pe_op op_pow pe_int pe_int)))
      (pss_cons (ps_set (i := 9) sc_law.nd rfl (by first | exact .inl rfl | exact .inr rfl) (pe_op op_mod (pe_callTy call_int1 (by rfl) m_int (by decide +kernel) (pa_cons (pe_callB call_abs (by rfl) m_abs (by decide +kernel) (pa_cons (pe_cl c_cell hr (by decide) (by rfl) (pa_cons (pv 0) (pa_cons pe_int pa_nil))) pa_nil)) pa_nil)) (pe_op op_pow pe_int pe_int)))
      (pss_cons (ps_if (pt_not (pt_val (pe_cl c_constant hr (by decide) (by rfl) (pa_cons (pv 7) (pa_cons (pv 8) (pa_cons (pv 5) (pa_cons (pv 6) (pa_cons (pv 9) pa_nil)))))))) (pss_one (ps_ret pe_bl)) pss_nil)
      (pss_cons (ps_if (pt_not (pt_val (pe_cl c_constant hr (by decide) (by rfl) (pa_cons (pv 7) (pa_cons (pv 8) (pa_cons (pe_op op_mod (pe_callTy call_int1 (by rfl) m_int (by decide +kernel) (pa_cons (pv 5) pa_nil)) pe_int) (pa_cons (pe_op op_mod (pe_callTy call_int1 (by rfl) m_int (by decide +kernel) (pa_cons (pv 6) pa_nil)) pe_int) (pa_cons (pe_op op_mod (pe_callTy call_int1 (by rfl) m_int (by decide +kernel) (pa_cons (pv 9) pa_nil)) pe_int) pa_nil)))))))) (pss_one (ps_ret pe_bl)) pss_nil)
      (pss_cons (ps_set (i := 10) sc_law.nd rfl (by first | exact .inl rfl | exact .inr rfl) (pe_op op_add pe_int (pe_op op_mod (pe_callTy call_int1 (by rfl) m_int (by decide +kernel) (pa_cons (pe_callB call_abs (by rfl) m_abs (by decide +kernel) (pa_cons (pe_cl c_cell hr (by decide) (by rfl) (pa_cons (pv 0) (pa_cons pe_int pa_nil))) pa_nil)) pa_nil)) (pe_op op_pow pe_int pe_int))))
      (pss_cons (ps_set (i := 11) sc_law.nd rfl (by first | exact .inl rfl | exact .inr rfl) (pe_op op_add (pv 10) (pe_op op_mul (pe_ix ix_list (pv 1) pe_int (fun _ _ => rfl)) (pe_ix ix_list (pv 1) pe_int (fun _ _ => rfl)))))
      (pss_cons (ps_if (PW.pt (pw_or (pt_not (pt_val (pe_cl c_paces hr (by decide) (by rfl) (pa_cons (pv 1) (pa_cons (pv 10) (pa_cons (pv 5) (pa_cons (pv 6) (pa_cons (pv 9) pa_nil)))))))) (pw_or1 (pt_not (pt_val (pe_cl c_paces hr (by decide) (by rfl) (pa_cons (pv 1) (pa_cons (pv 10) (pa_cons (pe_op op_mod (pe_callTy call_int1 (by rfl) m_int (by decide +kernel) (pa_cons (pv 5) pa_nil)) (pv 10)) (pa_cons (pv 11) (pa_cons (pe_op op_fdiv (pv 10) pe_int) pa_nil))))))))))) (pss_one (ps_ret pe_bl)) pss_nil)
      (pss_cons (ps_if (pt_not (pt_val (pe_cl c_paces hr (by decide) (by rfl) (pa_cons (pv 1) (pa_cons (pv 10) (pa_cons (pv 11) (pa_cons (pe_op op_mod (pe_callTy call_int1 (by rfl) m_int (by decide +kernel) (pa_cons (pv 6) pa_nil)) (pv 10)) (pa_cons (pe_op op_fdiv (pv 10) pe_int) pa_nil)))))))) (pss_one (ps_ret pe_bl)) pss_nil)
      (pss_one (ps_ret (pe_cl c_paces hr (by decide) (by rfl) (pa_cons (pv 1) (pa_cons (pe_op op_add pe_int (pe_op op_mod (pe_callTy call_int1 (by rfl) m_int (by decide +kernel) (pa_cons (pv 10) pa_nil)) pe_int)) (pa_cons (pe_op op_mod (pe_callTy call_int1 (by rfl) m_int (by decide +kernel) (pa_cons (pv 5) pa_nil)) pe_int) (pa_cons (pe_op op_mod (pe_callTy call_int1 (by rfl) m_int (by decide +kernel) (pa_cons (pv 6) pa_nil)) pe_int) (pa_cons (pe_op op_mod (pe_callTy call_int1 (by rfl) m_int (by decide +kernel) (pa_cons (pv 9) pa_nil)) pe_int) pa_nil))))))))))))))))))))))), ?_⟩
    have b100 : (10 : Int) ^ 70 ≤ 10 ^ 100 := by decide +kernel
    have b80 : (10 : Int) ^ 70 ≤ 10 ^ 80 := by decide +kernel
    have b60 : (10 : Int) ^ 60 + 1000000000000000 ≤ 10 ^ 70 := by decide +kernel
    have b40 : (1000000 : Int) ≤ 10 ^ 60 := by decide +kernel
    have z60 : (0 : Int) < 10 ^ Int.toNat 60 := by decide +kernel
    have z40 : (0 : Int) < 10 ^ Int.toNat 40 := by decide +kernel
    walk_at "go"
    refine ⟨a, ns, 0, rfl, hS, ?_⟩
    walk_at "go"
    intro D ds nD hd
    walk_at "go"
    intro p np
    have sD : Same H (upd H D (.lst (ds.map V.int))) := same_new nD
    have sp : Same (upd H D (.lst (ds.map V.int))) (upd (upd H D (.lst (ds.map V.int))) p (.lst [.int 0])) := same_new np
    have Dp : D ≠ p := ne_of_none upd_same np
    have nHp : H p = none := by
      cases e : H p with
      | none => rfl
      | some o =>
        rw [sD _ _ e] at np
        cases np
    have hD := sp _ _ (upd_same (H := H) (a := D) (o := .lst (ds.map V.int)))
    have hpp := upd_same (H := upd H D (.lst (ds.map V.int))) (a := p) (o := .lst [.int 0])
    have sHX := sD.trans sp
    generalize eX : upd (upd H D (.lst (ds.map V.int))) p (.lst [.int 0]) = HX at hD hpp sHX ⊢
    walk_at "go"
    refine ⟨D, p, 40, ds, rfl, ⟨hD, hd, Dp, Z.Same.sb (Same.refl _), 0, hpp⟩, fun l H2 st rs nv sb hN ok => ?_⟩
    have s2 : Same H H2 := fun b o h => sb b o (ne_of_none h nHp) (sHX b o h)
    have hD2 := sb _ _ Dp hD
    clear sD sp nHp hpp sHX sb hD np eX
    walk_at "go"
    have lr := ok.2.1
    refine ⟨st, nv, l, rs, rfl, hN, ok.1, by omega, fun n H3 s3 hF => ?_⟩
    have hN3 := hN.mono s3
    have hD3 := s3 _ _ hD2
    have hS3 := (s2.trans s3).seq hS
    have w := ok.w
    clear hN hD2 nD ok lr Dp
    walk_at "go"
    dsimp only [List.set]
    refine ⟨fun σ J => Same H3 J ∧ ∃ v4 v5 v6 : Option V, σ = [some (.ref a), some (.ref D), some (.ref l), some (.ref n), v4, v5, v6, none, none, none, none, none], ?_, ?_⟩
    · walk_at "go"
      refine for_gen (n := 6) (fun i σ J => Same H3 J ∧ ∃ v4 v5 v6 : Option V, σ = [some (.ref a), some (.ref D), some (.ref l), some (.ref n), v4, v5, v6, none, none, none, none, none]) ⟨Same.refl _, none, none, none, rfl⟩ (fun i σ H6 hi _ => hi) (fun σ H6 _ => Nat.le_refl _) ?_ ?_
      · rintro i σ J x J2 hi ⟨s4, v4, v5, v6, rfl⟩ ⟨rfl, rfl⟩
        have hD4 := SqL.of (K := K) (s4 _ _ hD3)
        have hS4 := s4.seq hS3
        dsimp only [List.set]
        walk_at "go"
        refine dixI (by omega) (show _ < (40 : Int) by omega) hD4 hd fun x1 a1 a2 => ?_
        walk_at "go"
        refine dixI (by omega) (show _ < (40 : Int) by omega) hD4 hd fun x2 a3 a4 => ?_
        walk_at "go"
        dsimp only [List.set]
        refine ⟨fun σ J3 => J3 = J2 ∧ ∃ k : Option Int, (∀ v, k = some v → 0 ≤ v ∧ v ≤ 10 ^ 100) ∧ σ = [some (.ref a), some (.ref D), some (.ref l), some (.ref n), some (.int (0 + (i : Int))), some (oV k), some (.int (x2 % 40)), none, none, none, none, none], ?_, ?_⟩
        · walk_at "go"
          refine ite2 (fun e => ?_) (fun e => ?_)
          · walk_at "go"
            exact ⟨none, nofun, rfl⟩
          · exact ⟨rfl, some (x1 % 40), fun v hv => by cases hv; exact ⟨by omega, by omega⟩, rfl⟩
        rintro σ J3 ⟨rfl, k, hk, rfl⟩
        refine ⟨fun σ J4 => J4 = J3 ∧ ∃ (k : Option Int) (p : Int), (∀ v, k = some v → 0 ≤ v ∧ v ≤ 10 ^ 100) ∧ 0 ≤ p ∧ p ≤ 10 ^ 100 ∧ σ = [some (.ref a), some (.ref D), some (.ref l), some (.ref n), some (.int (0 + (i : Int))), some (oV k), some (.int p), none, none, none, none, none], ?_, ?_⟩
        · walk_at "go"
          refine ite2 (fun e => ?_) (fun e => ?_)
          · walk_at "go"
            refine ⟨a, ns, 1, rfl, hS4, ?_⟩
            walk_at "go"
            refine ⟨a, ns, 2, rfl, hS4, ?_⟩
            walk_at "go"
            have m1 := mod60 (if ns.getD 1 0 < 0 then -ns.getD 1 0 else ns.getD 1 0)
            have m2 := mod60 (if ns.getD 2 0 < 0 then -ns.getD 2 0 else ns.getD 2 0)
            exact ⟨some _, _, fun v hv => by cases hv; exact ⟨m1.1, by omega⟩, m2.1, by omega, rfl⟩
          · exact ⟨rfl, k, x2 % 40, hk, by omega, by omega, rfl⟩
        rintro σ J4 ⟨rfl, k, p, hk, p0, p1, rfl⟩
        walk_at "go"
        refine ⟨n, l, st, rs, nv, k, p, rfl, hF.mono s4, hN3.mono s4, w, hk, p0, p1, fun J5 s5 => ?_⟩
        walk_at "go"
        intro t nt
        have s6 := same_new (o := .lst [.int 0, .int 1, .int 7, .int 40, .int 3, .int 2]) nt
        have s46 := s4.trans (s5.trans s6)
        walk_at "go"
        refine dixI (by omega) (show _ < (40 : Int) by omega) (SqL.of (s46 _ _ hD3)) hd fun x3 a5 a6 => ?_
        walk_at "go"
        obtain ⟨lim, em, lm⟩ := lim_at (j := (0 + (i : Int) + x3) % 6) (by omega) (by omega)
        refine ⟨t, _, _, _, rfl, rfl, SqL.of upd_same, em, ?_⟩
        walk_at "go"
        refine ⟨n, l, st, rs, nv, k, lim, rfl, hF.mono s46, hN3.mono s46, w, hk, by omega, fun J7 s7 => ?_⟩
        walk_at "go"
        exact ⟨s46.trans s7, _, _, _, rfl⟩
      · rintro σ J ⟨s4, v4, v5, v6, rfl⟩
        exact ⟨s4, v4, v5, v6, rfl⟩
    rintro σ J ⟨s4, v4, v5, v6, rfl⟩
    have hD4 := SqL.of (K := K) (s4 _ _ hD3)
    have hS4 := s4.seq hS3
    clear hF hN3 w s2 s3 s4 hD3 hS3 hS
    walk_at "go"
    refine dixI (by decide) (by decide) hD4 hd fun d37 a1 a2 => ?_
    walk_at "go"
    refine dixI (by decide) (by decide) hD4 hd fun d38 a3 a4 => ?_
    walk_at "go"
    dsimp only [List.set]
    refine ⟨a, ns, 3, rfl, hS4, ?_⟩
    walk_at "go"
    refine ⟨a, ns, 4, rfl, hS4, ?_⟩
    walk_at "go"
    refine ⟨a, ns, 5, rfl, hS4, ?_⟩
    walk_at "go"
    dsimp only [List.set]
    have m3 := mod60 (if ns.getD 3 0 < 0 then -ns.getD 3 0 else ns.getD 3 0)
    have m4 := mod60 (if ns.getD 4 0 < 0 then -ns.getD 4 0 else ns.getD 4 0)
    have m5 := mod60 (if ns.getD 5 0 < 0 then -ns.getD 5 0 else ns.getD 5 0)
    generalize (if ns.getD 3 0 < 0 then -ns.getD 3 0 else ns.getD 3 0) % 10 ^ Int.toNat 60 = nd at m3 ⊢
    generalize (if ns.getD 4 0 < 0 then -ns.getD 4 0 else ns.getD 4 0) % 10 ^ Int.toNat 60 = pu at m4 ⊢
    generalize (if ns.getD 5 0 < 0 then -ns.getD 5 0 else ns.getD 5 0) % 10 ^ Int.toNat 60 = li at m5 ⊢
    obtain ⟨m30, m31⟩ := m3
    obtain ⟨m40, m41⟩ := m4
    obtain ⟨m50, m51⟩ := m5
    obtain ⟨lim, rfl⟩ := Int.eq_ofNat_of_zero_le m50
    refine ⟨1 + d37 % 1000, d38 % 1000, nd, pu, lim, rfl, by omega, by omega, by omega, by omega, by omega, by omega, by omega, by omega, by omega, fun J1 t1 => ?_⟩
    walk_at "go"
    refine ⟨1 + d37 % 1000, d38 % 1000, nd % 5000, pu % 3000, lim % 9, rfl, by omega, by omega, by omega, by omega, by omega, by omega, by omega, by omega, by omega, fun J2 t2 => ?_⟩
    have hD6 := (t1.trans t2).seq hD4
    have hS6 := (t1.trans t2).seq hS4
    clear hD4 hS4 t1 t2
    walk_at "go"
    refine ⟨a, ns, 6, rfl, hS6, ?_⟩
    walk_at "go"
    dsimp only [List.set]
    have m6 := mod40 (if ns.getD 6 0 < 0 then -ns.getD 6 0 else ns.getD 6 0)
    generalize (if ns.getD 6 0 < 0 then -ns.getD 6 0 else ns.getD 6 0) % 10 ^ Int.toNat 40 = b0 at m6 ⊢
    obtain ⟨bend, eb⟩ : ∃ b, 1 + b0 = b := ⟨_, rfl⟩
    rw [eb]
    obtain ⟨m60', m61⟩ := m6
    refine dixI (by decide) (by decide) hD6 hd fun d30 a5 a6 => ?_
    walk_at "go"
    refine dixI (by decide) (by decide) hD6 hd fun d31 a7 a8 => ?_
    walk_at "go"
    dsimp only [List.set]
    have h30 : 0 ≤ d30 * d31 := Int.mul_nonneg a5 a7
    have h31 : d30 * d31 ≤ 1000000 * 1000000 := Int.mul_le_mul (by omega) (by omega) a7 (by decide)
    obtain ⟨bey, ebe⟩ : ∃ b, bend + d30 * d31 = b := ⟨_, rfl⟩
    rw [ebe]
    obtain ⟨lb, elb⟩ := Int.eq_ofNat_of_zero_le (show 0 ≤ bend / 500 by omega)
    have n1 : 0 ≤ nd % bend := Int.emod_nonneg _ (by omega)
    have n2 : nd % bend < bend := Int.emod_lt_of_pos _ (by omega)
    have n3 : 0 ≤ pu % bend := Int.emod_nonneg _ (by omega)
    have n4 : pu % bend < bend := Int.emod_lt_of_pos _ (by omega)
    refine ⟨D, ds, bend, nd, pu, lim, rfl, hD6, hd, by omega, by omega, by omega, by omega, by omega, by omega, by omega, fun J3 t3 => ?_⟩
    walk_at "go"
    refine ⟨D, ds, bend, nd % bend, bey, lb, by rw [← elb]; rfl, t3.seq hD6, hd, by omega, by omega, by omega, by omega, by omega, by omega, by omega, fun J4 t4 => ?_⟩
    walk_at "go"
    refine ⟨D, ds, bend, bey, pu % bend, lb, by rw [← elb]; rfl, (t3.trans t4).seq hD6, hd, by omega, by omega, by omega, by omega, by omega, by omega, by omega, fun J5 t5 => ?_⟩
    walk_at "go"
    refine ⟨D, ds, 1 + bend % 3000, nd % 9000, pu % 9000, lim % 40, rfl, (t3.trans (t4.trans t5)).seq hD6, hd, by omega, by omega, by omega, by omega, by omega, by omega, by omega, fun J6 t6 => ?_⟩
    walk_at "go"
    exact q _
end
end Z
set_option pp.maxSteps 700
set_option Elab.async false
set_option linter.all false
set_option maxRecDepth 100000
set_option maxHeartbeats 4000000
set_option maxHeartbeats 0
namespace Z
open PySem PySem.Spec PyProof.Rows L2 Nd
/-! ### the head: facts of defs and classes, and one more Bool -/
def hookB (n : Nat) (fa : List He.Fa) (fn : List He.DefD) (ex : PySem.W.Frag → Bool) : PySem.W.Hook where
  α := He.AlD × Bool
  obs := fun s => (He.obsDG n fa fn s.heap.get?, ex (He.frG s.heap.get? (He.asD s.heap.get? n)))
  val := fun _ => (He.valD fn, true)
  says := fun _ h => ∃ K : PySem.W.Frag, K.In h ∧ He.SaysD fa fn K ∧ ex K = true
  of := fun _ _ e => ⟨_, He.frG_in, congrArg (fun z : He.AlD × Bool => z.1) e, congrArg (fun z : He.AlD × Bool => z.2) e⟩
  keeps := fun _ _ _ ⟨K, hK, c⟩ k => ⟨K, PySem.W.Frag.In.keeps hK k, c⟩
theorem obsB_eq {n : Nat} {fa : List He.Fa} {fn : List He.DefD} {ex : PySem.W.Frag → Bool} {g : Addr → Option Obj} {s : Shared} (h : ∀ a, g a = s.heap.get? a) : (He.obsDG n fa fn g, ex (He.frG g (He.asD g n))) = (hookB n fa fn ex).obs s := by
  have e : g = s.heap.get? := funext h
  rw [e] <;> rfl
def isB (K : PySem.W.Frag) (C : Addr) : Bool := He.eqO (PySem.W.findIn K (.ref C) "__class__") (some (some (.builtin "object.__class__"))) && (He.eqO (PySem.W.specialIn K (.builtin "object.__class__") "__get__") (some (some (.builtin "getset_descriptor.__get__"))) && (decide (PySem.W.takesIn K (.builtin "object.__class__") = some true) && (decide (PySem.W.mroIn K C (.type "object") = some true) && decide (PySem.W.kitOne K (.ref C) (.ref C) = some true))))
theorem isB_ok {K : PySem.W.Frag} {C : Addr} (cl : Cls K C) (h : isB K C = true) : C8.InsC K C := by
  obtain ⟨h1, h⟩ := He.ba h
  obtain ⟨h2, h⟩ := He.ba h
  obtain ⟨h3, h⟩ := He.ba h
  obtain ⟨h4, h5⟩ := He.ba h
  exact ⟨cl, He.eqO_ok h1, He.eqO_ok h2, of_decide_eq_true h3, of_decide_eq_true h4, of_decide_eq_true h5⟩
def spB (K : PySem.W.Frag) (C : Addr) (m : Str) : Bool := He.eqO (PySem.W.findIn K (.ref C) m) (some (some (.ref (He.ma K C m)))) && (PySem.W.isFn K (.ref (He.ma K C m)) && PySem.W.fnIn K (He.ma K C m))
theorem spB_ok {K : PySem.W.Frag} {C : Addr} {m : Str} (h : spB K C m = true) : PySem.W.findIn K (.ref C) m = some (some (.ref (He.ma K C m))) ∧ PySem.W.isFn K (.ref (He.ma K C m)) = true ∧ PySem.W.fnIn K (He.ma K C m) = true := by
  obtain ⟨h1, h⟩ := He.ba h
  obtain ⟨h2, h3⟩ := He.ba h
  exact ⟨He.eqO_ok h1, h2, h3⟩
def ex (K : PySem.W.Frag) : Bool := true
def d_value_at : He.DefD := ⟨("value_at", none), "value_at", "value_at", defArgs s_value_at, defBody s_value_at, defScope s_value_at, [], []⟩
def d_greatest_value : He.DefD := ⟨("greatest_value", none), "greatest_value", "greatest_value", defArgs s_greatest_value, defBody s_greatest_value, defScope s_greatest_value, [], []⟩
def d_low_edge : He.DefD := ⟨("low_edge", none), "low_edge", "low_edge", defArgs s_low_edge, defBody s_low_edge, defScope s_low_edge, [], []⟩
def d_high_edge : He.DefD := ⟨("high_edge", none), "high_edge", "high_edge", defArgs s_high_edge, defBody s_high_edge, defScope s_high_edge, [], []⟩
def d_lowest_of : He.DefD := ⟨("lowest_of", none), "lowest_of", "lowest_of", defArgs s_lowest_of, defBody s_lowest_of, defScope s_lowest_of, [], []⟩
def d_highest_of : He.DefD := ⟨("highest_of", none), "highest_of", "highest_of", defArgs s_highest_of, defBody s_highest_of, defScope s_highest_of, [], []⟩
def d_rounds_down : He.DefD := ⟨("rounds_down", none), "rounds_down", "rounds_down", defArgs s_rounds_down, defBody s_rounds_down, defScope s_rounds_down, [], []⟩
def d_rounds_up : He.DefD := ⟨("rounds_up", none), "rounds_up", "rounds_up", defArgs s_rounds_up, defBody s_rounds_up, defScope s_rounds_up, [], []⟩
def d_Need___init__ : He.DefD := ⟨("Need", some "__init__"), "__init__", "Need.__init__", defArgs s_Need___init__, defBody s_Need___init__, defScope s_Need___init__, [], []⟩
def d_Need_rounds_to_afford : He.DefD := ⟨("Need", some "rounds_to_afford"), "rounds_to_afford", "Need.rounds_to_afford", defArgs s_Need_rounds_to_afford, defBody s_Need_rounds_to_afford, defScope s_Need_rounds_to_afford, [], []⟩
def d_Need_rounds_to_exceed : He.DefD := ⟨("Need", some "rounds_to_exceed"), "rounds_to_exceed", "Need.rounds_to_exceed", defArgs s_Need_rounds_to_exceed, defBody s_Need_rounds_to_exceed, defScope s_Need_rounds_to_exceed, [], []⟩
def d_Need_lowest : He.DefD := ⟨("Need", some "lowest"), "lowest", "Need.lowest", defArgs s_Need_lowest, defBody s_Need_lowest, defScope s_Need_lowest, [], []⟩
def d_Need_highest : He.DefD := ⟨("Need", some "highest"), "highest", "Need.highest", defArgs s_Need_highest, defBody s_Need_highest, defScope s_Need_highest, [], []⟩
def d_cell : He.DefD := ⟨("_law_cell", none), "_law_cell", "_law_cell", defArgs s_cell, defBody s_cell, defScope s_cell, [], []⟩
def d_draws : He.DefD := ⟨("_law_draws", none), "_law_draws", "_law_draws", defArgs s_draws, defBody s_draws, defScope s_draws, [], []⟩
def d_take : He.DefD := ⟨("_law_take", none), "_law_take", "_law_take", defArgs s_take, defBody s_take, defScope s_take, [], []⟩
def d_need : He.DefD := ⟨("_law_need", none), "_law_need", "_law_need", defArgs s_need, defBody s_need, defScope s_need, [], []⟩
def d_value : He.DefD := ⟨("_law_value", none), "_law_value", "_law_value", defArgs s_value, defBody s_value, defScope s_value, [], []⟩
def d_same : He.DefD := ⟨("_law_same", none), "_law_same", "_law_same", defArgs s_same, defBody s_same, defScope s_same, [], []⟩
def d_at_most : He.DefD := ⟨("_law_at_most", none), "_law_at_most", "_law_at_most", defArgs s_at_most, defBody s_at_most, defScope s_at_most, [], []⟩
def d_make : He.DefD := ⟨("_law_make", none), "_law_make", "_law_make", defArgs s_make, defBody s_make, defScope s_make, [], []⟩
def d_values : He.DefD := ⟨("_law_values", none), "_law_values", "_law_values", defArgs s_values, defBody s_values, defScope s_values, [], []⟩
def d_count_right : He.DefD := ⟨("_law_count_right", none), "_law_count_right", "_law_count_right", defArgs s_count_right, defBody s_count_right, defScope s_count_right, [], []⟩
def d_stuck : He.DefD := ⟨("_law_stuck", none), "_law_stuck", "_law_stuck", defArgs s_stuck, defBody s_stuck, defScope s_stuck, [], []⟩
def d_small : He.DefD := ⟨("_law_small", none), "_law_small", "_law_small", defArgs s_small, defBody s_small, defScope s_small, [], []⟩
def d_extremes : He.DefD := ⟨("_law_extremes", none), "_law_extremes", "_law_extremes", defArgs s_extremes, defBody s_extremes, defScope s_extremes, [], []⟩
def d_constant : He.DefD := ⟨("_law_constant", none), "_law_constant", "_law_constant", defArgs s_constant, defBody s_constant, defScope s_constant, [], []⟩
def d_up_count : He.DefD := ⟨("_law_up_count", none), "_law_up_count", "_law_up_count", defArgs s_up_count, defBody s_up_count, defScope s_up_count, [], []⟩
def d_up_value : He.DefD := ⟨("_law_up_value", none), "_law_up_value", "_law_up_value", defArgs s_up_value, defBody s_up_value, defScope s_up_value, [], []⟩
def d_down_count : He.DefD := ⟨("_law_down_count", none), "_law_down_count", "_law_down_count", defArgs s_down_count, defBody s_down_count, defScope s_down_count, [], []⟩
def d_down_value : He.DefD := ⟨("_law_down_value", none), "_law_down_value", "_law_down_value", defArgs s_down_value, defBody s_down_value, defScope s_down_value, [], []⟩
def d_paces : He.DefD := ⟨("_law_paces", none), "_law_paces", "_law_paces", defArgs s_paces, defBody s_paces, defScope s_paces, [], []⟩
def d_law : He.DefD := ⟨("law", none), "law", "law", defArgs s_law, defBody s_law, defScope s_law, [], []⟩
def fn : List He.DefD := [d_value_at, d_greatest_value, d_low_edge, d_high_edge, d_lowest_of, d_highest_of, d_rounds_down, d_rounds_up, d_Need___init__, d_Need_rounds_to_afford, d_Need_rounds_to_exceed, d_Need_lowest, d_Need_highest, d_cell, d_draws, d_take, d_need, d_value, d_same, d_at_most, d_make, d_values, d_count_right, d_stuck, d_small, d_extremes, d_constant, d_up_count, d_up_value, d_down_count, d_down_value, d_paces, d_law]
def fa : List He.Fa := [.glo "value_at", .glo "greatest_value", .glo "low_edge", .glo "high_edge", .glo "lowest_of", .glo "highest_of", .glo "rounds_down", .glo "rounds_up", .glo "_law_cell", .glo "_law_draws", .glo "_law_take", .glo "_law_need", .glo "_law_value", .glo "_law_same", .glo "_law_at_most", .glo "_law_make", .glo "_law_values", .glo "_law_count_right", .glo "_law_stuck", .glo "_law_small", .glo "_law_extremes", .glo "_law_constant", .glo "_law_up_count", .glo "_law_up_value", .glo "_law_down_count", .glo "_law_down_value", .glo "_law_paces", .glo "law", .free "abs", .free "bool", .free "int", .free "isinstance", .free "len", .free "max", .free "min", .free "range", .free "tuple", .glo "Need", .cls "Need", .mkr "Need", .noat "Need" "start", .noat "Need" "rises", .noat "Need" "never", .meth "Need" "rounds_to_afford", .meth "Need" "rounds_to_exceed", .meth "Need" "lowest", .meth "Need" "highest"]
def loose : List Str := [("_wall" : Str), ("HouseError" : Str), ("BadAmount" : Str), ("BadCount" : Str), ("BadNeed" : Str), ("value_at" : Str), ("joined" : Str), ("marks_of" : Str), ("track" : Str), ("rising_part" : Str), ("combined" : Str), ("composed" : Str), ("low_edge" : Str), ("high_edge" : Str), ("lowest_of" : Str), ("highest_of" : Str), ("rounds_down" : Str), ("rounds_up" : Str), ("MOST_TIMES" : Str), ("greatest_value" : Str), ("Need" : Str), ("_law_cell" : Str), ("_law_draws" : Str), ("_law_take" : Str), ("_law_need" : Str), ("_law_value" : Str), ("_law_same" : Str), ("_law_at_most" : Str), ("_law_make" : Str), ("_law_values" : Str), ("_law_count_right" : Str), ("_law_stuck" : Str), ("_law_small" : Str), ("_law_extremes" : Str), ("_law_constant" : Str), ("_law_up_count" : Str), ("_law_up_value" : Str), ("_law_down_count" : Str), ("_law_down_value" : Str), ("_law_paces" : Str)]
abbrev R : PySem.W.OpenRow := PySem.W.OpenLaw.row PySem.Challenge.rw_signedpacts_k19_need_round_counts
abbrev hk : PySem.W.Hook := hookB 4 fa fn ex
def ob (s : PySem.W.SharedT) : He.AlD × Bool := (He.obsDG 4 fa fn (HandSHeadRun.getT s), ex (He.frG (HandSHeadRun.getT s) (He.asD (HandSHeadRun.getT s) 4)))
theorem ob_eq (s : PySem.W.SharedT) : ob s = hk.obs s.abs := obsB_eq (HandSHeadRun.getT_eq s)
theorem run (w : World) : HandSHeadRun.RunEq R (PySem.W.view R.prog [44]) hk ob 8000 loose w := by
  intro os
  kernel_rfl
theorem facts {P : Program} {w : World} {K : PySem.W.Frag} {h : Heap} {mg : Str → Option Value} {f : Addr} (X : K.In h) (G : h.Ns mainGlobals mg) (hfa : mg ("law" : Str) = some (.ref f)) (c : He.SaysD fa fn K) (cx : ex K = true) :
    ∃ fd : FuncData, (∀ (s : Shared) (v : Value), BindsTo s fd ⟨[v], []⟩ [("_law_script", v)]) ∧ ∀ base : Heap, K.In base → base.Ns mainGlobals mg → FnOk P w K mg base CX0 6 f fd ["_law_script"] (spLaw K) := by
  obtain ⟨fd_value_at, F_value_at⟩ := c.def_ 0 (d := d_value_at) rfl
  have F_value_at : FnP K "value_at" s_value_at _ fd_value_at := F_value_at
  have g_value_at := He.glo_ok X G (c.fact 0 (f := .glo "value_at") rfl)
  have b_value_at : Binds K fd_value_at P_value_at [] := F_value_at.bindsN fun _ _ _ _ _ _ us hl => match us, hl with | [_, _, _], _ => rfl
  obtain ⟨fd_greatest_value, F_greatest_value⟩ := c.def_ 1 (d := d_greatest_value) rfl
  have F_greatest_value : FnP K "greatest_value" s_greatest_value _ fd_greatest_value := F_greatest_value
  have g_greatest_value := He.glo_ok X G (c.fact 1 (f := .glo "greatest_value") rfl)
  have b_greatest_value : Binds K fd_greatest_value P_greatest_value [] := F_greatest_value.bindsN fun _ _ _ _ _ _ us hl => match us, hl with | [_, _], _ => rfl
  obtain ⟨fd_low_edge, F_low_edge⟩ := c.def_ 2 (d := d_low_edge) rfl
  have F_low_edge : FnP K "low_edge" s_low_edge _ fd_low_edge := F_low_edge
  have g_low_edge := He.glo_ok X G (c.fact 2 (f := .glo "low_edge") rfl)
  have b_low_edge : Binds K fd_low_edge P_low_edge [] := F_low_edge.bindsN fun _ _ _ _ _ _ us hl => match us, hl with | [_, _], _ => rfl
  obtain ⟨fd_high_edge, F_high_edge⟩ := c.def_ 3 (d := d_high_edge) rfl
  have F_high_edge : FnP K "high_edge" s_high_edge _ fd_high_edge := F_high_edge
  have g_high_edge := He.glo_ok X G (c.fact 3 (f := .glo "high_edge") rfl)
  have b_high_edge : Binds K fd_high_edge P_high_edge [] := F_high_edge.bindsN fun _ _ _ _ _ _ us hl => match us, hl with | [_, _], _ => rfl
  obtain ⟨fd_lowest_of, F_lowest_of⟩ := c.def_ 4 (d := d_lowest_of) rfl
  have F_lowest_of : FnP K "lowest_of" s_lowest_of _ fd_lowest_of := F_lowest_of
  have g_lowest_of := He.glo_ok X G (c.fact 4 (f := .glo "lowest_of") rfl)
  have b_lowest_of : Binds K fd_lowest_of P_lowest_of [] := F_lowest_of.bindsN fun _ _ _ _ _ _ us hl => match us, hl with | [_, _, _], _ => rfl
  obtain ⟨fd_highest_of, F_highest_of⟩ := c.def_ 5 (d := d_highest_of) rfl
  have F_highest_of : FnP K "highest_of" s_highest_of _ fd_highest_of := F_highest_of
  have g_highest_of := He.glo_ok X G (c.fact 5 (f := .glo "highest_of") rfl)
  have b_highest_of : Binds K fd_highest_of P_highest_of [] := F_highest_of.bindsN fun _ _ _ _ _ _ us hl => match us, hl with | [_, _, _], _ => rfl
  obtain ⟨fd_rounds_down, F_rounds_down⟩ := c.def_ 6 (d := d_rounds_down) rfl
  have F_rounds_down : FnP K "rounds_down" s_rounds_down _ fd_rounds_down := F_rounds_down
  have g_rounds_down := He.glo_ok X G (c.fact 6 (f := .glo "rounds_down") rfl)
  have b_rounds_down : Binds K fd_rounds_down P_rounds_down [] := F_rounds_down.bindsN fun _ _ _ _ _ _ us hl => match us, hl with | [_, _, _], _ => rfl
  obtain ⟨fd_rounds_up, F_rounds_up⟩ := c.def_ 7 (d := d_rounds_up) rfl
  have F_rounds_up : FnP K "rounds_up" s_rounds_up _ fd_rounds_up := F_rounds_up
  have g_rounds_up := He.glo_ok X G (c.fact 7 (f := .glo "rounds_up") rfl)
  have b_rounds_up : Binds K fd_rounds_up P_rounds_up [] := F_rounds_up.bindsN fun _ _ _ _ _ _ us hl => match us, hl with | [_, _, _], _ => rfl
  obtain ⟨fd_Need___init__, F_Need___init__⟩ := c.def_ 8 (d := d_Need___init__) rfl
  have F_Need___init__ : FnM K "__init__" "Need.__init__" s_Need___init__ (He.ma K (He.ga K "Need") "__init__") fd_Need___init__ := F_Need___init__
  have b_Need___init__ : Binds K fd_Need___init__ P_Need___init__ [] := F_Need___init__.bindsN fun _ _ _ _ _ _ us hl => match us, hl with | [_, _, _, _], _ => rfl
  obtain ⟨fd_Need_rounds_to_afford, F_Need_rounds_to_afford⟩ := c.def_ 9 (d := d_Need_rounds_to_afford) rfl
  have F_Need_rounds_to_afford : FnM K "rounds_to_afford" "Need.rounds_to_afford" s_Need_rounds_to_afford (He.ma K (He.ga K "Need") "rounds_to_afford") fd_Need_rounds_to_afford := F_Need_rounds_to_afford
  have b_Need_rounds_to_afford : Binds K fd_Need_rounds_to_afford P_Need_rounds_to_afford [] := F_Need_rounds_to_afford.bindsN fun _ _ _ _ _ _ us hl => match us, hl with | [_, _, _], _ => rfl
  obtain ⟨fd_Need_rounds_to_exceed, F_Need_rounds_to_exceed⟩ := c.def_ 10 (d := d_Need_rounds_to_exceed) rfl
  have F_Need_rounds_to_exceed : FnM K "rounds_to_exceed" "Need.rounds_to_exceed" s_Need_rounds_to_exceed (He.ma K (He.ga K "Need") "rounds_to_exceed") fd_Need_rounds_to_exceed := F_Need_rounds_to_exceed
  have b_Need_rounds_to_exceed : Binds K fd_Need_rounds_to_exceed P_Need_rounds_to_exceed [] := F_Need_rounds_to_exceed.bindsN fun _ _ _ _ _ _ us hl => match us, hl with | [_, _, _], _ => rfl
  obtain ⟨fd_Need_lowest, F_Need_lowest⟩ := c.def_ 11 (d := d_Need_lowest) rfl
  have F_Need_lowest : FnM K "lowest" "Need.lowest" s_Need_lowest (He.ma K (He.ga K "Need") "lowest") fd_Need_lowest := F_Need_lowest
  have b_Need_lowest : Binds K fd_Need_lowest P_Need_lowest [] := F_Need_lowest.bindsN fun _ _ _ _ _ _ us hl => match us, hl with | [_, _, _], _ => rfl
  obtain ⟨fd_Need_highest, F_Need_highest⟩ := c.def_ 12 (d := d_Need_highest) rfl
  have F_Need_highest : FnM K "highest" "Need.highest" s_Need_highest (He.ma K (He.ga K "Need") "highest") fd_Need_highest := F_Need_highest
  have b_Need_highest : Binds K fd_Need_highest P_Need_highest [] := F_Need_highest.bindsN fun _ _ _ _ _ _ us hl => match us, hl with | [_, _, _], _ => rfl
  obtain ⟨fd_cell, F_cell⟩ := c.def_ 13 (d := d_cell) rfl
  have F_cell : FnP K "_law_cell" s_cell _ fd_cell := F_cell
  have g_cell := He.glo_ok X G (c.fact 8 (f := .glo "_law_cell") rfl)
  have b_cell : Binds K fd_cell P_cell [] := F_cell.bindsN fun _ _ _ _ _ _ us hl => match us, hl with | [_, _], _ => rfl
  obtain ⟨fd_draws, F_draws⟩ := c.def_ 14 (d := d_draws) rfl
  have F_draws : FnP K "_law_draws" s_draws _ fd_draws := F_draws
  have g_draws := He.glo_ok X G (c.fact 9 (f := .glo "_law_draws") rfl)
  have b_draws : Binds K fd_draws P_draws [] := F_draws.bindsN fun _ _ _ _ _ _ us hl => match us, hl with | [_, _], _ => rfl
  obtain ⟨fd_take, F_take⟩ := c.def_ 15 (d := d_take) rfl
  have F_take : FnP K "_law_take" s_take _ fd_take := F_take
  have g_take := He.glo_ok X G (c.fact 10 (f := .glo "_law_take") rfl)
  have b_take : Binds K fd_take P_take [] := F_take.bindsN fun _ _ _ _ _ _ us hl => match us, hl with | [_, _], _ => rfl
  obtain ⟨fd_need, F_need⟩ := c.def_ 16 (d := d_need) rfl
  have F_need : FnP K "_law_need" s_need _ fd_need := F_need
  have g_need := He.glo_ok X G (c.fact 11 (f := .glo "_law_need") rfl)
  have b_need : Binds K fd_need P_need [] := F_need.bindsN fun _ _ _ _ _ _ us hl => match us, hl with | [_, _], _ => rfl
  obtain ⟨fd_value, F_value⟩ := c.def_ 17 (d := d_value) rfl
  have F_value : FnP K "_law_value" s_value _ fd_value := F_value
  have g_value := He.glo_ok X G (c.fact 12 (f := .glo "_law_value") rfl)
  have b_value : Binds K fd_value P_value [] := F_value.bindsN fun _ _ _ _ _ _ us hl => match us, hl with | [_, _], _ => rfl
  obtain ⟨fd_same, F_same⟩ := c.def_ 18 (d := d_same) rfl
  have F_same : FnP K "_law_same" s_same _ fd_same := F_same
  have g_same := He.glo_ok X G (c.fact 13 (f := .glo "_law_same") rfl)
  have b_same : Binds K fd_same P_same [] := F_same.bindsN fun _ _ _ _ _ _ us hl => match us, hl with | [_, _], _ => rfl
  obtain ⟨fd_at_most, F_at_most⟩ := c.def_ 19 (d := d_at_most) rfl
  have F_at_most : FnP K "_law_at_most" s_at_most _ fd_at_most := F_at_most
  have g_at_most := He.glo_ok X G (c.fact 14 (f := .glo "_law_at_most") rfl)
  have b_at_most : Binds K fd_at_most P_at_most [] := F_at_most.bindsN fun _ _ _ _ _ _ us hl => match us, hl with | [_, _], _ => rfl
  obtain ⟨fd_make, F_make⟩ := c.def_ 20 (d := d_make) rfl
  have F_make : FnP K "_law_make" s_make _ fd_make := F_make
  have g_make := He.glo_ok X G (c.fact 15 (f := .glo "_law_make") rfl)
  have b_make : Binds K fd_make P_make [] := F_make.bindsN fun _ _ _ _ _ _ us hl => match us, hl with | [_], _ => rfl
  obtain ⟨fd_values, F_values⟩ := c.def_ 21 (d := d_values) rfl
  have F_values : FnP K "_law_values" s_values _ fd_values := F_values
  have g_values := He.glo_ok X G (c.fact 16 (f := .glo "_law_values") rfl)
  have b_values : Binds K fd_values P_values [] := F_values.bindsN fun _ _ _ _ _ _ us hl => match us, hl with | [_, _, _], _ => rfl
  obtain ⟨fd_count_right, F_count_right⟩ := c.def_ 22 (d := d_count_right) rfl
  have F_count_right : FnP K "_law_count_right" s_count_right _ fd_count_right := F_count_right
  have g_count_right := He.glo_ok X G (c.fact 17 (f := .glo "_law_count_right") rfl)
  have b_count_right : Binds K fd_count_right P_count_right [] := F_count_right.bindsN fun _ _ _ _ _ _ us hl => match us, hl with | [_, _, _, _], _ => rfl
  obtain ⟨fd_stuck, F_stuck⟩ := c.def_ 23 (d := d_stuck) rfl
  have F_stuck : FnP K "_law_stuck" s_stuck _ fd_stuck := F_stuck
  have g_stuck := He.glo_ok X G (c.fact 18 (f := .glo "_law_stuck") rfl)
  have b_stuck : Binds K fd_stuck P_stuck [] := F_stuck.bindsN fun _ _ _ _ _ _ us hl => match us, hl with | [_, _, _], _ => rfl
  obtain ⟨fd_small, F_small⟩ := c.def_ 24 (d := d_small) rfl
  have F_small : FnP K "_law_small" s_small _ fd_small := F_small
  have g_small := He.glo_ok X G (c.fact 19 (f := .glo "_law_small") rfl)
  have b_small : Binds K fd_small P_small [] := F_small.bindsN fun _ _ _ _ _ _ us hl => match us, hl with | [_, _, _, _], _ => rfl
  obtain ⟨fd_extremes, F_extremes⟩ := c.def_ 25 (d := d_extremes) rfl
  have F_extremes : FnP K "_law_extremes" s_extremes _ fd_extremes := F_extremes
  have g_extremes := He.glo_ok X G (c.fact 20 (f := .glo "_law_extremes") rfl)
  have b_extremes : Binds K fd_extremes P_extremes [] := F_extremes.bindsN fun _ _ _ _ _ _ us hl => match us, hl with | [_, _, _, _], _ => rfl
  obtain ⟨fd_constant, F_constant⟩ := c.def_ 26 (d := d_constant) rfl
  have F_constant : FnP K "_law_constant" s_constant _ fd_constant := F_constant
  have g_constant := He.glo_ok X G (c.fact 21 (f := .glo "_law_constant") rfl)
  have b_constant : Binds K fd_constant P_constant [] := F_constant.bindsN fun _ _ _ _ _ _ us hl => match us, hl with | [_, _, _, _, _], _ => rfl
  obtain ⟨fd_up_count, F_up_count⟩ := c.def_ 27 (d := d_up_count) rfl
  have F_up_count : FnP K "_law_up_count" s_up_count _ fd_up_count := F_up_count
  have g_up_count := He.glo_ok X G (c.fact 22 (f := .glo "_law_up_count") rfl)
  have b_up_count : Binds K fd_up_count P_up_count [] := F_up_count.bindsN fun _ _ _ _ _ _ us hl => match us, hl with | [_, _, _, _, _], _ => rfl
  obtain ⟨fd_up_value, F_up_value⟩ := c.def_ 28 (d := d_up_value) rfl
  have F_up_value : FnP K "_law_up_value" s_up_value _ fd_up_value := F_up_value
  have g_up_value := He.glo_ok X G (c.fact 23 (f := .glo "_law_up_value") rfl)
  have b_up_value : Binds K fd_up_value P_up_value [] := F_up_value.bindsN fun _ _ _ _ _ _ us hl => match us, hl with | [_, _, _, _, _], _ => rfl
  obtain ⟨fd_down_count, F_down_count⟩ := c.def_ 29 (d := d_down_count) rfl
  have F_down_count : FnP K "_law_down_count" s_down_count _ fd_down_count := F_down_count
  have g_down_count := He.glo_ok X G (c.fact 24 (f := .glo "_law_down_count") rfl)
  have b_down_count : Binds K fd_down_count P_down_count [] := F_down_count.bindsN fun _ _ _ _ _ _ us hl => match us, hl with | [_, _, _, _, _, _], _ => rfl
  obtain ⟨fd_down_value, F_down_value⟩ := c.def_ 30 (d := d_down_value) rfl
  have F_down_value : FnP K "_law_down_value" s_down_value _ fd_down_value := F_down_value
  have g_down_value := He.glo_ok X G (c.fact 25 (f := .glo "_law_down_value") rfl)
  have b_down_value : Binds K fd_down_value P_down_value [] := F_down_value.bindsN fun _ _ _ _ _ _ us hl => match us, hl with | [_, _, _, _, _, _], _ => rfl
  obtain ⟨fd_paces, F_paces⟩ := c.def_ 31 (d := d_paces) rfl
  have F_paces : FnP K "_law_paces" s_paces _ fd_paces := F_paces
  have g_paces := He.glo_ok X G (c.fact 26 (f := .glo "_law_paces") rfl)
  have b_paces : Binds K fd_paces P_paces [] := F_paces.bindsN fun _ _ _ _ _ _ us hl => match us, hl with | [_, _, _, _, _], _ => rfl
  obtain ⟨fd_law, F_law⟩ := c.def_ 32 (d := d_law) rfl
  have F_law : FnP K "law" s_law _ fd_law := F_law
  have g_law := He.glo_ok X G (c.fact 27 (f := .glo "law") rfl)
  have m_abs := He.free_ok X G (c.fact 28 (f := .free "abs") rfl)
  have m_bool := He.free_ok X G (c.fact 29 (f := .free "bool") rfl)
  have m_int := He.free_ok X G (c.fact 30 (f := .free "int") rfl)
  have m_isinstance := He.free_ok X G (c.fact 31 (f := .free "isinstance") rfl)
  have m_len := He.free_ok X G (c.fact 32 (f := .free "len") rfl)
  have m_max := He.free_ok X G (c.fact 33 (f := .free "max") rfl)
  have m_min := He.free_ok X G (c.fact 34 (f := .free "min") rfl)
  have m_range := He.free_ok X G (c.fact 35 (f := .free "range") rfl)
  have m_tuple := He.free_ok X G (c.fact 36 (f := .free "tuple") rfl)
  have g_Need := He.glo_ok X G (c.fact 37 (f := .glo "Need") rfl)
  have cls_Need := He.cls_ok (c.fact 38 (f := .cls "Need") rfl)
  have mk_Need := He.mkr_ok (c.fact 39 (f := .mkr "Need") rfl)
  have n_Need_start := He.noat_ok (c.fact 40 (f := .noat "Need" "start") rfl)
  have n_Need_rises := He.noat_ok (c.fact 41 (f := .noat "Need" "rises") rfl)
  have n_Need_never := He.noat_ok (c.fact 42 (f := .noat "Need" "never") rfl)
  have me_Need_rounds_to_afford := He.meth_ok (c.fact 43 (f := .meth "Need" "rounds_to_afford") rfl)
  have me_Need_rounds_to_exceed := He.meth_ok (c.fact 44 (f := .meth "Need" "rounds_to_exceed") rfl)
  have me_Need_lowest := He.meth_ok (c.fact 45 (f := .meth "Need" "lowest") rfl)
  have me_Need_highest := He.meth_ok (c.fact 46 (f := .meth "Need" "highest") rfl)
  have e := hfa.symm.trans g_law
  cases e
  have b := FunD.bindsA (ps := ["_law_script"]) F_law fun _ _ _ _ _ _ us hl => match us, hl with | [_], _ => rfl
  refine ⟨fd_law, fun s v => b s [v] rfl, fun base _ _ => ?_⟩
  have c_cell : Cal P w K mg base 1 "_law_cell" (spCell K) := cal_of F_cell g_cell b_cell (ok_cell F_cell m_len m_int)
  have c_draws : Cal P w K mg base 1 "_law_draws" spDraws := cal_of F_draws g_draws b_draws (ok_draws F_draws m_int m_abs m_range)
  have c_take : Cal P w K mg base 1 "_law_take" (spTake K) := cal_of F_take g_take b_take (ok_take F_take m_len)
  have c_value_at : Cal P w K mg base 1 "value_at" (spValueAt K) := cal_of F_value_at g_value_at b_value_at (ok_value_at F_value_at)
  have c_greatest_value : Cal P w K mg base 1 "greatest_value" (spGreatest K) := cal_of F_greatest_value g_greatest_value b_greatest_value (ok_greatest_value F_greatest_value m_len)
  have k_Need : Mak P w K mg base 2 "Need" (spNeed (He.ga K "Need") K) := mak_need (si := ok_init F_Need___init__ cls_Need n_Need_start n_Need_rises n_Need_never m_tuple c_greatest_value) mk_Need g_Need b_Need___init__
  have ne : NeK K (He.ga K "Need") := ⟨cls_Need, n_Need_start, n_Need_rises, n_Need_never⟩
  have c_low_edge : Cal P w K mg base 1 "low_edge" (spLE K) := cal_of F_low_edge g_low_edge b_low_edge (ok_low_edge F_low_edge)
  have c_high_edge : Cal P w K mg base 1 "high_edge" (spHE K) := cal_of F_high_edge g_high_edge b_high_edge (ok_high_edge F_high_edge)
  have c_lowest_of : Cal P w K mg base 2 "lowest_of" (spLo (He.ga K "Need") K) := cal_of F_lowest_of g_lowest_of b_lowest_of (ok_lowest_of F_lowest_of ne m_int m_min c_value_at c_low_edge)
  have c_highest_of : Cal P w K mg base 2 "highest_of" (spHi (He.ga K "Need") K) := cal_of F_highest_of g_highest_of b_highest_of (ok_highest_of F_highest_of ne m_int m_min c_value_at c_high_edge)
  have c_rounds_down : Cal P w K mg base 2 "rounds_down" (spRd (He.ga K "Need") K) := cal_of F_rounds_down g_rounds_down b_rounds_down (ok_rounds_down F_rounds_down ne m_int m_min c_value_at c_low_edge)
  have c_rounds_up : Cal P w K mg base 2 "rounds_up" (spRu (He.ga K "Need") K) := cal_of F_rounds_up g_rounds_up b_rounds_up (ok_rounds_up F_rounds_up ne m_int m_min c_value_at c_high_edge)
  have me_rounds_to_afford : Met P w K mg base 3 (He.ga K "Need") "rounds_to_afford" (spRd (He.ga K "Need") K) := ⟨_, _, _, cls_Need, me_Need_rounds_to_afford, ok_afford F_Need_rounds_to_afford c_rounds_down, b_Need_rounds_to_afford⟩
  have me_rounds_to_exceed : Met P w K mg base 3 (He.ga K "Need") "rounds_to_exceed" (spRu (He.ga K "Need") K) := ⟨_, _, _, cls_Need, me_Need_rounds_to_exceed, ok_exceed F_Need_rounds_to_exceed c_rounds_up, b_Need_rounds_to_exceed⟩
  have me_lowest : Met P w K mg base 3 (He.ga K "Need") "lowest" (spLo (He.ga K "Need") K) := ⟨_, _, _, cls_Need, me_Need_lowest, ok_lowest F_Need_lowest c_lowest_of, b_Need_lowest⟩
  have me_highest : Met P w K mg base 3 (He.ga K "Need") "highest" (spHi (He.ga K "Need") K) := ⟨_, _, _, cls_Need, me_Need_highest, ok_highest F_Need_highest c_highest_of, b_Need_highest⟩
  have c_need : Cal P w K mg base 2 "_law_need" (spLN K) := cal_of F_need g_need b_need (ok_need F_need m_int m_range m_len m_tuple c_take)
  have c_value : Cal P w K mg base 1 "_law_value" (spLV K) := cal_of F_value g_value b_value (ok_value F_value)
  have c_same : Cal P w K mg base 1 "_law_same" spSame := cal_of F_same g_same b_same (ok_same F_same m_isinstance m_int m_bool)
  have c_at_most : Cal P w K mg base 1 "_law_at_most" spAm := cal_of F_at_most g_at_most b_at_most (ok_at_most F_at_most)
  have c_make : Cal P w K mg base 4 "_law_make" (spMake (He.ga K "Need") K) := cal_of F_make g_make b_make (ok_make F_make k_Need)
  have c_values : Cal P w K mg base 2 "_law_values" (spVs K) := cal_of F_values g_values b_values (ok_values F_values m_range c_value)
  have c_count_right : Cal P w K mg base 2 "_law_count_right" (spCr K) := cal_of F_count_right g_count_right b_count_right (ok_count_right F_count_right m_range m_len m_isinstance m_int m_bool c_same)
  have c_stuck : Cal P w K mg base 1 "_law_stuck" (spSt K) := cal_of F_stuck g_stuck b_stuck (ok_stuck F_stuck)
  have c_small : Cal P w K mg base 4 "_law_small" (spSm (He.ga K "Need") K) := cal_of F_small g_small b_small (ok_small F_small c_values c_count_right c_stuck me_rounds_to_afford me_rounds_to_exceed)
  have c_extremes : Cal P w K mg base 4 "_law_extremes" (spEx (He.ga K "Need") K) := cal_of F_extremes g_extremes b_extremes (ok_extremes F_extremes c_values c_at_most c_same me_lowest me_highest)
  have c_constant : Cal P w K mg base 4 "_law_constant" (spCo K) := cal_of F_constant g_constant b_constant (ok_constant F_constant m_int m_min m_max k_Need c_same me_rounds_to_afford me_rounds_to_exceed me_lowest me_highest)
  have c_up_count : Cal P w K mg base 1 "_law_up_count" spUc := cal_of F_up_count g_up_count b_up_count (ok_up_count F_up_count m_min)
  have c_up_value : Cal P w K mg base 1 "_law_up_value" spUv := cal_of F_up_value g_up_value b_up_value (ok_up_value F_up_value m_min)
  have c_down_count : Cal P w K mg base 1 "_law_down_count" spDc := cal_of F_down_count g_down_count b_down_count (ok_down_count F_down_count m_min)
  have c_down_value : Cal P w K mg base 1 "_law_down_value" spDv := cal_of F_down_value g_down_value b_down_value (ok_down_value F_down_value m_min m_max)
  have c_paces : Cal P w K mg base 4 "_law_paces" (spPc K) := cal_of F_paces g_paces b_paces (ok_paces F_paces m_int k_Need c_same c_up_count c_up_value c_down_count c_down_value me_rounds_to_afford me_rounds_to_exceed me_lowest me_highest)
  exact ok_law F_law m_int m_range m_abs c_draws c_cell c_need c_make c_small c_extremes c_constant c_paces
end Z
open PySem PySem.W PySem.Calls PyProof.Rows
theorem PySem.Challenge.cw_signedpacts_k19_need_round_counts_holds : PySem.Challenge.rw_signedpacts_k19_need_round_counts.Holds := by
  w_on; o_law
  refine HandSHeadRun.head_any (r := OpenLaw.row PySem.Challenge.rw_signedpacts_k19_need_round_counts) (q := view (OpenLaw.row PySem.Challenge.rw_signedpacts_k19_need_round_counts).prog [44]) (H := Z.hk) (ob := Z.ob) (M := 8000) (loose := Z.loose) (d := HandSHeadRun.topDef (OpenLaw.row PySem.Challenge.rw_signedpacts_k19_need_round_counts).prog 44) (kwd := []) Z.ob_eq
    (by kernel_rfl) (fun s => by kernel_rfl) Z.run (by kernel_rfl) (by kernel_rfl) (by kernel_rfl) (by rfl) (by first | assumption | decide +kernel) (by decide +kernel) ⟨rfl, rfl, rfl, rfl, rfl, by decide +kernel⟩ ?hw ?hc
  case hw => w_witness2
  case hc =>
    refine L2.walk_ofE (l := PySem.Challenge.rw_signedpacts_k19_need_round_counts) (n := 63) (k := 6) (x := "_law_script") (CX := L2.CX0) rfl (by decide) (by kernel_rfl) ⟨rfl, by decide, by decide⟩ ?F (fun _ _ _ _ z => z)
    intro w mg fa h Y G hmg0
    obtain ⟨K, KX, c, cx⟩ := Y
    have hmg : mg ("law" : PySem.Str) = some (.ref fa) := by
      have e : (HandSHeadRun.topDef (OpenLaw.row PySem.Challenge.rw_signedpacts_k19_need_round_counts).prog 44).name = ("law" : PySem.Str) := by kernel_rfl
      rw [← e]
      exact hmg0
    obtain ⟨fd, hb, hF⟩ := Z.facts (P := (PySem.Challenge.rw_signedpacts_k19_need_round_counts).prog) (w := w) KX G hmg c cx
    exact ⟨K, fd, Z.spLaw K, KX, hb, fun H a ns hl _ hS => ⟨a, ns, rfl, hS, fun _ => rfl⟩, hF⟩
