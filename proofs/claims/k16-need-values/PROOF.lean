import PyProof.Rows.All
import Wide.All
import OpenK.AllK
import Wide.FinOn
import HandS.ForMost
import HandS.Zip
import HandS.TupMul
import HandS.Codes
import KE.GoesMore
import KE.GoesEnum
import HandS.Defaults
import HandS.IsInst
import HandS.Wide
import HandS.WideBits
import HandS.NoneIn
import HandS.OwnEq
import HandS.Star
import HandS.SetTxtIn
import HandS.ExcInit
import HandS.ExcField
import HandS.ExcIs
import HandS.Nested
import HandS.ClsMeth
import HandS.HeadHook1
import KE.KSuper
import KE.KExcSuper
import HandS.WordsExc
import KE.KExcIs
import HandS.HeadHook2
import HandS.Head0
import HandS.Head1
import HandS.Head2
import HandS.HeadEnd
import PySem.Challenge.RW_signedpacts_k16_need_values
set_option Elab.async false
set_option linter.all false
set_option maxRecDepth 100000
set_option maxHeartbeats 4000000
namespace Z
open PySem PySem.Spec PyProof.Rows L2
/-! ### zip over two sequences, each a list (true) or a tuple (false) -/
def SqK (b : Bool) (K : PySem.W.Frag) (H : Hp) (a : Addr) (xs : List V) : Prop := match b with
  | true => SqL K H a xs
  | false => SqT K H a xs
def ItK (b : Bool) (h : Heap) (it l : Addr) (i : Nat) : Prop := match b with
  | true => h.IsListIter it l i
  | false => h.IsTupleIter it l i
def IsK (b : Bool) (h : Heap) (l : Addr) (xs : Array Value) : Prop := match b with
  | true => h.IsList l xs
  | false => h.IsTuple l xs
theorem ItK.at' {b : Bool} {h h' : Heap} {it l : Addr} {i : Nat} (x : ItK b h it l i) (k : ∀ o, h.get? it = some o → h'.get? it = some o) : ItK b h' it l i := by
  cases b
  · exact Heap.IsTupleIter.at x k
  · exact Heap.IsListIter.at x k
theorem ItK.obj {b : Bool} {h : Heap} {it l : Addr} {i : Nat} (x : ItK b h it l i) : ∃ o, h.get? it = some o ∧ ∀ v, o.data ≠ .cell v := by
  cases b
  · obtain ⟨o, e, _, d⟩ := (show h.IsTupleIter it l i from x)
    exact ⟨o, e, fun v q => by rw [d] at q; cases q⟩
  · obtain ⟨o, e, _, d⟩ := (show h.IsListIter it l i from x)
    exact ⟨o, e, fun v q => by rw [d] at q; cases q⟩
theorem sqk_is {X : Cx} {pins : List (Addr × Obj)} {σ : L2.St} {H : Hp} {s : Shared} {b : Bool} {a : Addr} {xs : List V} (I : Inv X pins σ H s) (h : SqK b X.K H a xs) :
    ∃ its : List Value, Vals xs its ∧ IsK b s.heap a its.toArray ∧ a < s.heap.objs.size := by
  cases b
  · obtain ⟨its, r, p, _⟩ := I.tuple h
    obtain ⟨o, ho, _⟩ := id p
    exact ⟨its, r, p, Heap.lt_size ho⟩
  · obtain ⟨its, r, p, _⟩ := I.list h
    exact ⟨its, r, p.isList, p.lt⟩
theorem sqk_inj {X : Cx} {pins : List (Addr × Obj)} {σ : L2.St} {H : Hp} {s : Shared} {b : Bool} {a : Addr} {xs ys : List V} (I : Inv X pins σ H s) (h : SqK b X.K H a xs) (h' : SqK b X.K H a ys) : xs = ys := by
  cases b
  · exact I.tuple_inj h h'
  · exact I.list_inj h h'
theorem drawsK {prog : Program} {w : World} {A : Around} (b : Bool) (hh : A.handled = none) (it l : Addr) (hne : l ≠ it) (items : Array Value) :
    Draws prog w A it [it, l] items.size (fun i v => items[i]? = some v) (fun i h => ItK b h it l i ∧ IsK b h l items) := by
  cases b
  · exact Draws.tuple hh it l hne items
  · exact Draws.list hh it l hne items
def ItzM (p q : Bool) (K : PySem.W.Frag) (a b : Addr) : It :=
  ⟨fun i H => ∃ (xs ys : List V) (x y : V), SqK p K H a xs ∧ SqK q K H b ys ∧ xs[i]? = some x ∧ ys[i]? = some y,
   fun i H v H' => ∃ T x y, v = .ref T ∧ H T = none ∧ H' = upd H T (.tup [x, y]) ∧ (∀ xs, SqK p K H a xs → xs[i]? = some x) ∧ (∀ ys, SqK q K H b ys → ys[i]? = some y),
   fun i H => ∃ xs ys : List V, SqK p K H a xs ∧ SqK q K H b ys ∧ (xs.length ≤ i ∨ ys.length ≤ i) ∧ i ≤ xs.length ∧ i ≤ ys.length⟩
theorem zsep {z TI TO i1 i2 a b : Addr} (D : ZipApart z TI TO i1 i2 a b) : ZipSep2 z TI TO i1 i2 [i1, a] [i2, b] where
  TIz := D.TIz
  TOz := D.TOz
  TITO := D.TITO
  TIi1 := D.TIi1
  mem1 := List.mem_cons_self
  zf1 := fun h => by rcases List.mem_cons.mp h with e | h; exact D.i1z e.symm; exact D.l1z (List.mem_singleton.mp h).symm
  Tf1 := fun h => by rcases List.mem_cons.mp h with e | h; exact D.TOi1 e; exact D.l1TO (List.mem_singleton.mp h).symm
  TIi2 := D.TIi2
  mem2 := List.mem_cons_self
  zf2 := fun h => by rcases List.mem_cons.mp h with e | h; exact D.i2z e.symm; exact D.l2z (List.mem_singleton.mp h).symm
  Tf2 := fun h => by rcases List.mem_cons.mp h with e | h; exact D.TOi2 e; exact D.l2TO (List.mem_singleton.mp h).symm
  sep1_2 := fun h => by rcases List.mem_cons.mp h with e | h; exact D.i12 e; exact D.l2i1 (List.mem_singleton.mp h).symm
  sep2_1 := fun h => by rcases List.mem_cons.mp h with e | h; exact D.i12 e.symm; exact D.l1i2 (List.mem_singleton.mp h).symm
theorem five {c z TI TO i1 i2 : Addr} {Pr : Addr → Prop} (hc : c ∈ [z, TI, TO, i1, i2]) (a : Pr z) (b : Pr TI) (d : Pr TO) (e : Pr i1) (f : Pr i2) : Pr c := by
  have q : c = z ∨ c = TI ∨ c = TO ∨ c = i1 ∨ c = i2 := by simpa using hc
  rcases q with rfl | rfl | rfl | rfl | rfl <;> assumption
theorem turn_zipM {p q : Bool} {P : Program} {w : World} {K : PySem.W.Frag} {elts : List Expr} {kk : Nat} {tpos : Pos} {a b z TI TO i1 i2 : Addr} (D : ZipApart z TI TO i1 i2 a b) :
    Turn P w K (.Tuple elts kk tpos) (ItzM p q K a b) [z, TI, TO, i1, i2] z (fun i h => IsZip h z TI TO .none ∧ IsTupOf2 h TI (.ref i1) (.ref i2) ∧ (∃ x y, IsTupOf2 h TO x y) ∧ ItK p h i1 a i ∧ ItK q h i2 b i) where
  mem := by simp
  obj := fun i h st c hc => by
    obtain ⟨hz, hI, ⟨x, y, hO⟩, h1, h2⟩ := st
    exact five (Pr := fun c => ∃ o, h.get? c = some o ∧ ∀ v, o.data ≠ .cell v) hc ⟨_, hz, fun v q => nomatch q⟩ ⟨_, hI, fun v q => nomatch q⟩ ⟨_, hO, fun v q => nomatch q⟩ h1.obj h2.obj
  keep := fun i h h' st k => by
    obtain ⟨hz, hI, ⟨x, y, hO⟩, h1, h2⟩ := st
    exact ⟨k z (by simp) _ hz, k TI (by simp) _ hI, ⟨x, y, k TO (by simp) _ hO⟩, h1.at' (fun o e => k i1 (by simp) o e), h2.at' (fun o e => k i2 (by simp) o e)⟩
  item := by
    intro X hP hw hK hc i pins s σ H E I hf st hg
    subst hP hw hK
    obtain ⟨hz, hI, ⟨x0, y0, hO⟩, h1, h2⟩ := st
    obtain ⟨xs, ys, x, y, qx, qy, ex, ey⟩ := hg
    obtain ⟨us, rx, kx, _⟩ := sqk_is I qx
    obtain ⟨vs, ry, ky, _⟩ := sqk_is I qy
    obtain ⟨u, eu, ru⟩ := rx.get ex
    obtain ⟨v, ev, rv⟩ := ry.get ey
    have hzl : z < s.heap.objs.size := Heap.lt_size hz
    have lu : i < us.toArray.size := by simpa using (List.getElem?_eq_some_iff.mp eu).1
    have lv : i < vs.toArray.size := by simpa using (List.getElem?_eq_some_iff.mp ev).1
    have hh : X.A.in1.handled = none := I.ok.hd hc
    refine wpAny_pyNext_zipD2_item (zsep D) (drawsK p hh i1 a D.l1i1 us.toArray) (drawsK q hh i2 b D.l2i2 vs.toArray) hz hI hO ⟨h1, kx⟩ ⟨h2, ky⟩ lu lv fun m1 m2 g tk p1 p2 gz gO g1 g2 gT gs gk => ?_
    have e1 : m1 = u := by
      have t1 : us.toArray[i]? = some u := by simpa using eu
      exact Option.some.inj (p1.symm.trans t1)
    have e2 : m2 = v := by
      have t1 : vs.toArray[i]? = some v := by simpa using ev
      exact Option.some.inj (p2.symm.trans t1)
    subst e1 e2
    refine ⟨_, rfl, wpAny_letOwnedTupleGo_zip (s := { s with heap := g, toks := tk }) gz fun g' gz' sb => ?_⟩
    have gT' : g'.get? s.heap.objs.size = some { cls := .type "tuple", data := .seq #[m1, m2] } := (sb.2 _ (Nat.ne_of_gt hzl)).trans gT
    have nw : ObjOk X.prog X.w (upd H s.heap.objs.size (.tup [x, y])) g' s.heap.objs.size (.tup [x, y]) := ⟨by show 2 ≤ sizeLine; decide, [m1, m2], .cons ru (.cons rv .nil), ⟨_, gT', rfl, _, rfl⟩⟩
    have I1 : Inv X pins σ (upd H s.heap.objs.size (.tup [x, y])) { s with heap := g', toks := tk } :=
      I.turnedNew (t' := tk) (ch := [z, TI, TO, i1, i2]) (fun c o nb e => (sb.2 c (fun w => nb (by simp [w]))).trans (gk c o (fun w => nb (by simp [w])) (fun w => nb (by simp [w])) (fun w => nb (by simp [w])) (fun w => nb (by simp [w])) e)) hf (Nat.le_refl _) nw
    refine ⟨.ref s.heap.objs.size, _, I1, rfl, ⟨_, x, y, rfl, I.hok.fresh (Nat.le_refl _), rfl, fun l hl => by rw [sqk_inj I hl qx]; exact ex, fun l hl => by rw [sqk_inj I hl qy]; exact ey⟩, ⟨gz', ?_, ⟨m1, m2, ?_⟩, ?_, ?_⟩, fun c hcm => ?_⟩
    · exact (sb.2 _ D.TIz).trans (gk _ _ D.TIz D.TITO D.TIi1 D.TIi2 hI)
    · exact (sb.2 _ D.TOz).trans gO
    · exact ItK.at' g1.1 (fun o e => (sb.2 _ D.i1z).trans e)
    · exact ItK.at' g2.1 (fun o e => (sb.2 _ D.i2z).trans e)
    · have lt : c < s.heap.objs.size := by
        obtain ⟨o1, q1, _⟩ := h1.obj
        obtain ⟨o2, q2, _⟩ := h2.obj
        exact five (Pr := fun c => c < s.heap.objs.size) hcm hzl (Heap.lt_size hI) (Heap.lt_size hO) (Heap.lt_size q1) (Heap.lt_size q2)
      rw [upd_ne (Nat.ne_of_lt lt)]
      exact (hf c hcm).1
  done := by
    intro X hP hw hK hc i pins s σ H E I hf st hg
    subst hP hw hK
    obtain ⟨hz, hI, ⟨x0, y0, hO⟩, h1, h2⟩ := st
    obtain ⟨xs, ys, qx, qy, hend, le1, le2⟩ := hg
    obtain ⟨us, rx, kx, _⟩ := sqk_is I qx
    obtain ⟨vs, ry, ky, _⟩ := sqk_is I qy
    have l1 := rx.length
    have l2 := ry.length
    have n1 : us.toArray.size = us.length := by simp
    have n2 : vs.toArray.size = vs.length := by simp
    have hh : X.A.in1.handled = none := I.ok.hd hc
    refine wpAny_pyNext_zipD2_end (i := i) (zsep D) (drawsK p hh i1 a D.l1i1 us.toArray) (drawsK q hh i2 b D.l2i2 vs.toArray) hz hI hO ⟨h1, kx⟩ ⟨h2, ky⟩ (by omega) (by omega) (by omega) fun g tk gk => ?_
    exact ⟨rfl, I.turnedL (t' := tk) (ch := [z, TI, TO, i1, i2]) (fun c o nb e => gk c o (fun w => nb (by simp [w])) (fun w => nb (by simp [w])) (fun w => nb (by simp [w])) (fun w => nb (by simp [w])) e) hf⟩
  self := fun A i s Q E st h => wpAny_pyIter_zip st.1 h
def iZipM (K : PySem.W.Frag) (ta : TA) : TI := fun σ H R => ta σ H fun vs H1 => ∃ p q a b xs ys, vs = [.ref a, .ref b] ∧ SqK p K H1 a xs ∧ SqK q K H1 b ys ∧ R (ItzM p q K a b) H1
theorem begK {p : Bool} {h : Heap} {a : Addr} {xs : Array Value} (k : IsK p h a xs) : ∃ o Hp', Begins (.ref a) o Hp' ∧ Hp' h ∧ ∀ h' it, h'.get? it = some o → ItK p h' it a 0 := by
  cases p
  · exact ⟨_, _, begins_tuple a xs, k, fun h' it e => ⟨_, e, rfl, rfl⟩⟩
  · exact ⟨_, _, begins_list a xs, k, fun h' it e => ⟨_, e, rfl, rfl⟩⟩
theorem pi_zipM {X : Cx} {e e2 : Expr} {ta : TA} {p pos tpos : Pos} {elts : List Expr} {kk : Nat} (hg : Gl X "zip") (hm : X.mg "zip" = none) (ha : PA X [e, e2] ta)
    (hs : starEach [e, e2] X.env = (false, eval e X.env) :: starEach [e2] X.env := by rfl) (hpl : (backTo pos (starEach [e2] X.env)).any (·.1) = false := by rfl) :
    PI X (.Tuple elts kk tpos) (.Call (.Name "zip" p) [e, e2] [] pos) (iZipM X.K ta) := by
  constructor
  intro pins s σ H R I h
  refine Call_ (ld_blt I hg hm PyProof.Rows.boot_zip (PyProof.Rows.callWith_type1 (thn (ha.run pos pins s σ H _ I h) fun us s1 ⟨vs, H1, I1, r1, q1⟩ => ?_) hs hpl))
  obtain ⟨k1, k2, a, b, xs, ys, ex, qx, qy, q⟩ := q1
  subst ex
  obtain ⟨u, v, rfl, ru, rv⟩ := Vals.two r1
  cases ru
  cases rv
  obtain ⟨i1, _, p1, lt1⟩ := sqk_is I1 qx
  obtain ⟨i2, _, p2, lt2⟩ := sqk_is I1 qy
  obtain ⟨o1, G1, B1, g1, w1⟩ := begK p1
  obtain ⟨o2, G2, B2, g2, w2⟩ := begK p2
  refine zip_begins2 B1 B2 g1 g2 fun h' hz hI hO e1 e2 hsz hk => wpAny_pyIter_zip hz ?_
  have I2 : Inv X pins σ H1 { s1 with heap := h' } := I1.kept (t' := s1.toks) hk
  refine ⟨s1.heap.objs.size + 4, [s1.heap.objs.size + 4, s1.heap.objs.size + 2, s1.heap.objs.size + 3, s1.heap.objs.size, s1.heap.objs.size + 1], _, _, H1, rfl, I2, turn_zipM (PySem.W.ktu_apart s1.heap.objs.size a b lt1 lt2), ⟨hz, hI, ⟨_, _, hO⟩, w1 _ _ e1, w2 _ _ e2⟩, fun c hcm => ?_, q⟩
  have hle : s1.heap.objs.size ≤ c := five (Pr := fun c => s1.heap.objs.size ≤ c) hcm (Nat.le_add_right _ _) (Nat.le_add_right _ _) (Nat.le_add_right _ _) (Nat.le_refl _) (Nat.le_add_right _ _)
  exact I1.fpOk hle (I1.hok.fresh hle)
end Z
set_option Elab.async false
set_option linter.all false
set_option maxRecDepth 100000
set_option maxHeartbeats 4000000
namespace Z
open PySem PySem.Spec PyProof.Rows L2
/-! ### (v,) * k for 0 ≤ k -/
theorem tmul0 (l : Addr) (v : Value) (n : Nat) (dd : Option Addr) (sl : Array (Option Value)) (u : Tok) :
    Meets (Builtin.«tuple.__mul__» ⟨[.ref l, .int 0 u], []⟩) (fun _ R s => s.heap.get? l = some { cls := .type "tuple", dict := dd, data := .seq #[v] n, slots := sl } ∧
      R (.ok (.ret (Value.ref s.heap.objs.size))) { s with heap := s.heap.push { cls := Value.type "tuple", data := Data.seq #[] }, toks := s.toks }) :=
  .of_wp fun prog w A R s h => by
    obtain ⟨hp, g, d, tk, os⟩ := s
    obtain ⟨hl, h⟩ := h
    have f1 := AutoSeq1.idx_int
    wp_walk using AutoSeq1.wpAny_loadPart' hl
    exact ⟨_, rfl, h⟩
theorem tmul1 (l : Addr) (items : Array Value) (n : Nat) (dd : Option Addr) (sl : Array (Option Value)) (u : Tok) :
    Meets (Builtin.«tuple.__mul__» ⟨[.ref l, .int 1 u], []⟩) (fun _ R s => s.heap.get? l = some { cls := .type "tuple", dict := dd, data := .seq items n, slots := sl } ∧ R (.ok (.ret (Value.ref l))) s) :=
  .of_wp fun prog w A R s h => by
    obtain ⟨hp, g, d, tk, os⟩ := s
    obtain ⟨hl, h⟩ := h
    have f1 := AutoSeq1.idx_int
    wp_walk using AutoSeq1.wpAny_loadPart' hl
    exact ⟨_, rfl, h⟩
theorem same_new {H : Hp} {p : Addr} {o : HO} (h : H p = none) : Same H (upd H p o) := fun b x e => by
  rw [upd_ne (ne_of_none e h)]
  exact e
def rRepU : R2 := fun x y H Q => ∃ l k v, x = .ref l ∧ y = .int k ∧ H l = some (.tup [v]) ∧ 0 ≤ k ∧ k ≤ 1000 ∧ ∀ p H', Same H H' → H' p = some (.tup (List.replicate k.toNat v)) → Q (.ref p) H'
theorem op_repU {X : Cx} : OpR X (binaryOp .Mult) rRepU := by
  intro pins s σ H x y vv uu Q I rx ry h
  obtain ⟨l, k, v, rfl, rfl, hT, h0, h1, q⟩ := id h
  by_cases k2 : 2 ≤ k
  · refine op_repT pins s σ H _ _ vv uu Q I rx ry ⟨l, k, [v], rfl, rfl, .inl (.inl hT), by simp, k2, h1, by simp, fun p np => q p _ (same_new np) ?_⟩
    rw [upd_same]
    congr 2
    generalize k.toNat = m
    induction m with
    | zero => rfl
    | succ m ih => rw [List.replicate_succ, List.flatten_cons, ih, List.replicate_succ]; rfl
  · cases rx
    obtain ⟨t, rfl⟩ := ry
    obtain ⟨its, r, ⟨⟨cls, dd, data, sl⟩, ho, hc, n, hd⟩, hs⟩ := I.tuple (.inl (.inl hT) : SqT X.K H l [v])
    simp only at hc hd
    subst hc hd
    obtain ⟨u, rfl, ru⟩ := Vals.one r
    by_cases k1 : k = 1
    · subst k1
      refine wpAny_binaryOp_repeat_ref (T := "tuple") (U := "int") (by decide) ⟨_, ho, rfl⟩ (fun s' => typeIs_int s' 1 t) noFill_tuple_mul F.fills_int_mul F.slot_int_rmul repeat_tuple F.slot_int_index.lookup
        (call_meets F.slot_int_rmul (typeIs_int s 1 t) F.entry_int_rmul (F.args_int_rmul_2 _ _) (int_rmul_tuple 1 t l [u].toArray n dd sl)
          ⟨ho, rfl, ⟨_, ho, rfl⟩, call_meets F.slot_tuple_mul ⟨_, ho, rfl⟩ F.entry_tuple_mul (F.args_tuple_mul_2 _ _) (tmul1 l [u].toArray n dd sl t) ⟨ho, ?_⟩⟩)
      exact ⟨.ref l, H, I, rfl, q l H (Same.refl H) hT⟩
    · have k0 : k = 0 := by omega
      subst k0
      refine wpAny_binaryOp_repeat_ref (T := "tuple") (U := "int") (by decide) ⟨_, ho, rfl⟩ (fun s' => typeIs_int s' 0 t) noFill_tuple_mul F.fills_int_mul F.slot_int_rmul repeat_tuple F.slot_int_index.lookup
        (call_meets F.slot_int_rmul (typeIs_int s 0 t) F.entry_int_rmul (F.args_int_rmul_2 _ _) (int_rmul_tuple 0 t l [u].toArray n dd sl)
          ⟨ho, rfl, ⟨_, ho, rfl⟩, call_meets F.slot_tuple_mul ⟨_, ho, rfl⟩ F.entry_tuple_mul (F.args_tuple_mul_2 _ _) (tmul0 l u n dd sl t) ⟨ho, ?_⟩⟩)
      refine ⟨.ref s.heap.objs.size, _, I.laid (t' := s.toks) (o := .tup []) (fun b ob z => Heap.get?_push_of_some _ z) (Nat.le_refl _) ?_, rfl, q _ _ (same_new (I.hok.fresh (Nat.le_refl _))) upd_same⟩
      exact ⟨Nat.zero_le _, [], .nil, IsTup.new _ _⟩
/-! ### loops and comprehensions over any iterator -/
def forW (J : It) (g : TG) (tb : TS) (D : Ends) (σ : L2.St) (H : Hp) : Prop := ∃ W : Nat → Nat → L2.St → Hp → Prop, (∃ m, W 0 m σ H) ∧ ∀ i m σ H, W i m σ H →
  (J.stop i H ∧ D.nx σ H) ∨ (J.go i H ∧ ∃ N : L2.St → Hp → Prop, (∀ σ' H', N σ' H' → ∃ m', m' < m ∧ W (i + 1) m' σ' H') ∧ ∀ x H', J.yld i H x H' → g x σ H' fun σ2 H2 => tb { D with nx := N, ct := N, bk := D.nx } σ2 H2)
theorem for_gen {J : It} {n : Nat} {g : TG} {tb : TS} {D : Ends} {σ : L2.St} {H : Hp} (Pv : Nat → L2.St → Hp → Prop) (h0 : Pv 0 σ H) (hgo : ∀ i σ H, i < n → Pv i σ H → J.go i H) (hst : ∀ σ H, Pv n σ H → J.stop n H)
    (hs : ∀ i σ H x H', i < n → Pv i σ H → J.yld i H x H' → g x σ H' fun σ2 H2 => tb { D with nx := Pv (i + 1), ct := Pv (i + 1), bk := D.nx } σ2 H2) (hd : ∀ σ H, Pv n σ H → D.nx σ H) : forW J g tb D σ H := by
  refine ⟨fun i m σ H => m = n - i ∧ i ≤ n ∧ Pv i σ H, ⟨n, by omega, Nat.zero_le _, h0⟩, fun i m σ H w => ?_⟩
  obtain ⟨rfl, hi, p⟩ := w
  by_cases hlt : i < n
  · exact .inr ⟨hgo i σ H hlt p, Pv (i + 1), fun σ' H' z => ⟨n - (i + 1), by omega, rfl, hlt, z⟩, fun x H' y => hs i σ H x H' hlt p y⟩
  · have e : i = n := by omega
    subst e
    exact .inl ⟨hst σ H p, hd σ H p⟩
def lcW (J : It) (g : TG) (tt : TT) (te : TE) (vs : List Nat) (σ : L2.St) (D : Addr) (Qd : Hp → Prop) (H1 : Hp) : Prop := ∃ W : Nat → Nat → Hp → Prop, (∃ m, W 0 m (upd H1 D (.lst []))) ∧ ∀ i m H, W i m H →
  (J.stop i H ∧ Qd H) ∨ (J.go i H ∧ ∃ Nx : Hp → Prop, (∀ H', Nx H' → ∃ m', m' < m ∧ W (i + 1) m' H') ∧ ∀ x H', J.yld i H x H' → g x (wipe σ vs) H' fun σ2 H2 => wipe σ2 vs = wipe σ vs ∧ tt σ2 H2 fun b H3 =>
    if b = true then te σ2 H3 fun y H4 => ∃ acc, H4 D = some (.lst acc) ∧ acc.length < sizeLine ∧ Nx (upd H4 D (.lst (acc ++ [y]))) else Nx H3)
theorem lc_gen {J : It} {n : Nat} {g : TG} {tt : TT} {te : TE} {vs : List Nat} {σ : L2.St} {H1 : Hp} {D : Addr} {Qd : Hp → Prop} (Pv : Nat → Hp → Prop) (h0 : Pv 0 (upd H1 D (.lst []))) (hgo : ∀ i H, i < n → Pv i H → J.go i H) (hst : ∀ H, Pv n H → J.stop n H)
    (hs : ∀ i H x H', i < n → Pv i H → J.yld i H x H' → g x (wipe σ vs) H' fun σ2 H2 => wipe σ2 vs = wipe σ vs ∧ tt σ2 H2 fun b H3 =>
      if b = true then te σ2 H3 fun y H4 => ∃ acc, H4 D = some (.lst acc) ∧ acc.length < sizeLine ∧ Pv (i + 1) (upd H4 D (.lst (acc ++ [y]))) else Pv (i + 1) H3) (hd : ∀ H, Pv n H → Qd H) : lcW J g tt te vs σ D Qd H1 := by
  refine ⟨fun i m H => m = n - i ∧ i ≤ n ∧ Pv i H, ⟨n, by omega, Nat.zero_le _, h0⟩, fun i m H w => ?_⟩
  obtain ⟨rfl, hi, p⟩ := w
  by_cases hlt : i < n
  · exact .inr ⟨hgo i H hlt p, Pv (i + 1), fun H' z => ⟨n - (i + 1), by omega, rfl, hlt, z⟩, fun x H' y => hs i H x H' hlt p y⟩
  · have e : i = n := by omega
    subst e
    exact .inl ⟨hst H p, hd H p⟩
/-! ### a def of the module that may be called by its name -/
structure Cal (P : Program) (w : World) (K : PySem.W.Frag) (mg : Str → Option Value) (base : Heap) (k : Nat) (x : Str) (sp : Sp) : Prop where
  ex : ∃ (f : Addr) (fd : FuncData) (ps : List Str), FnOk P w K mg base CX0 k f fd ps sp ∧ mg x = some (.ref f) ∧ PySem.W.keepIn K (.ref f) = true ∧ Binds K fd ps []
section
variable {X : Cx} {k j : Nat} {x : Str} {sp : Sp} {p pos : Pos} {e : Expr} {es : List Expr} {t : TA}
theorem pe_cl (c : Cal X.prog X.w X.K X.mg X.base k x sp) (hr : Room j X.A) (hk : k ≤ j) (hg : Gl X x) (ha : PA X (e :: es) t)
    (hdb : (x == ("__debug__" : Str)) = false := by decide) (he : starEach (e :: es) X.env = (false, eval e X.env) :: starEach es X.env := by rfl) (hpl : (backTo pos (starEach es X.env)).any (·.1) = false := by rfl) : PE X (.Call (.Name x p) (e :: es) [] pos) (tCall sp [] E0 t) := by
  obtain ⟨f, fd, ps, F, hm, kp, b⟩ := c.ex
  exact pe_call F (hr.mono hk) hg hm kp b .nil pass0 ha hdb he hpl
end
structure CalK (P : Program) (w : World) (K : PySem.W.Frag) (mg : Str → Option Value) (base : Heap) (k : Nat) (x : Str) (n : Nat) (ks : List Str) (gV : List V → List V → List V) (sp : Sp) : Prop where
  ex : ∃ (f : Addr) (fd : FuncData) (ps : List Str) (g : List Value → List Value → List Value), FnOk P w K mg base CX0 k f fd ps sp ∧ mg x = some (.ref f) ∧ PySem.W.keepIn K (.ref f) = true ∧ KBn K fd ps n ks g gV
section
variable {X : Cx} {k j n : Nat} {x : Str} {sp : Sp} {ks : List Str} {gV : List V → List V → List V} {p pos : Pos} {e : Expr} {es : List Expr} {kws : List Keyword} {t tk : TA}
theorem pe_clK (c : CalK X.prog X.w X.K X.mg X.base k x n ks gV sp) (hr : Room j X.A) (hk : k ≤ j) (hg : Gl X x) (ha : PA X (e :: es) t) (hkw : PK X kws tk)
    (hall : (backToKw pos (keywordEach kws X.env)).all (·.1.isSome) = true := by rfl) (hks : (backToKw pos (keywordEach kws X.env)).filterMap (·.1) = ks := by rfl) (hdb : (x == ("__debug__" : Str)) = false := by decide)
    (he : starEach (e :: es) X.env = (false, eval e X.env) :: starEach es X.env := by rfl) (hpl : ((backTo pos (starEach (e :: es) X.env)).any (·.1) || (backToKw pos (keywordEach kws X.env)).any (·.1.isNone)) = false := by rfl) :
    PE X (.Call (.Name x p) (e :: es) kws pos) (tCallN n ks.length sp gV E0 t tk) := by
  obtain ⟨f, fd, ps, g, F, hm, kp, b⟩ := c.ex
  exact pe_callN F (hr.mono hk) hg hm kp b pass0 ha hkw hall hks hdb he hpl
end
/-! ### heaps -/
/-- all but p stands -/
def SB (p : Addr) (H H' : Hp) : Prop := ∀ b o, b ≠ p → H b = some o → H' b = some o
theorem Same.sb {p : Addr} {H H' : Hp} (s : Same H H') : SB p H H' := fun b o _ h => s b o h
theorem SB.trans {p : Addr} {H H1 H2 : Hp} (a : SB p H H1) (b : SB p H1 H2) : SB p H H2 := fun c o n h => b c o n (a c o n h)
theorem SB.upd {p : Addr} {H H' : Hp} {o : HO} (s : SB p H H') : SB p H (upd H' p o) := fun b u n h => by
  rw [upd_ne n]
  exact s b u n h
theorem SB.same {p : Addr} {H H' : Hp} (s : SB p H H') (n : H p = none) : Same H H' := fun b o h => s b o (ne_of_none h n) h
theorem Same.mut {p : Addr} {H H' : Hp} {o : HO} (s : Same H H') (n : H p = none) : Same H (L2.upd H' p o) := fun b u h => by
  rw [upd_ne (ne_of_none h n)]
  exact s b u h
theorem SB.sq {K : PySem.W.Frag} {p a : Addr} {H H' : Hp} {xs : List V} (s : SB p H H') (n : a ≠ p) (h : SqL K H a xs) : SqL K H' a xs := by
  rcases h with (h | ⟨o, h⟩) | h
  · exact .inl (.inl (s _ _ n h))
  · exact .inl (.inr ⟨o, s _ _ n h⟩)
  · exact .inr h
theorem Same.sqT {K : PySem.W.Frag} {a : Addr} {H H' : Hp} {xs : List V} (s : Same H H') (h : SqT K H a xs) : SqT K H' a xs := by
  rcases h with (h | ⟨o, h⟩) | h
  · exact .inl (.inl (s _ _ h))
  · exact .inl (.inr ⟨o, s _ _ h⟩)
  · exact .inr h
theorem Same.sqK {b : Bool} {K : PySem.W.Frag} {a : Addr} {H H' : Hp} {xs : List V} (s : Same H H') (h : SqK b K H a xs) : SqK b K H' a xs := by
  cases b
  · exact Z.Same.sqT s h
  · exact s.seq h
theorem at_map {α : Type} {f : α → V} {xs : List α} {i : Nat} {x : α} (h : xs[i]? = some x) : atI (xs.map f) (i : Int) = some (f x) := atI_nat (by rw [List.getElem?_map, h]; rfl)
theorem of_map {α : Type} {f : α → V} {xs : List α} {i : Nat} {v : V} (h : (xs.map f)[i]? = some v) : ∃ x, xs[i]? = some x ∧ v = f x := by
  rw [List.getElem?_map] at h
  cases e : xs[i]? with
  | none => rw [e] at h; cases h
  | some x => rw [e] at h; exact ⟨x, rfl, (Option.some.inj h).symm⟩
end Z
set_option Elab.async false
set_option linter.all false
set_option maxRecDepth 100000
set_option maxHeartbeats 4000000
namespace Z
open PySem PySem.Spec PyProof.Rows L2
open C8 (pss_cut tCut)
local macro_rules | `(tactic| walk_at "num") => `(tactic| first | omega | decide | exact ⟨by omega, by omega⟩ | exact ⟨by omega, by omega, by omega⟩ | exact ⟨by decide, by decide, by decide⟩ | exact Or.inl ⟨by omega, by omega⟩ | exact Or.inr ⟨by omega, by omega⟩)
local macro_rules | `(tactic| walk_at "go") => `(tactic| repeat (first | refine ⟨_, rfl, ?_⟩ | refine ⟨_, _, rfl, rfl, ?_⟩ | refine ⟨_, _, rfl, rfl, (by walk_at "num"), ?_⟩ | refine Or.inl ⟨_, rfl, ?_⟩ | refine ⟨rfl, ?_⟩ | refine And.intro (by walk_at "num") ?_))
def topS (i : Nat) : Stmt := PySem.Challenge.pw_signedpacts_k16_need_values.main.body.getD i (.Pass ⟨0, 0, 0, 0⟩)
abbrev s_cell : Stmt := topS 19
abbrev N_cell : List Str := ["_law_script", "_law_k"]
abbrev P_cell : List Str := ["_law_script", "_law_k"]
theorem sc_cell : FnScope N_cell P_cell (defScope s_cell) := ⟨rfl, rfl, rfl, by decide +kernel, rfl, by decide +kernel, by decide +kernel⟩
abbrev s_draws : Stmt := topS 20
abbrev N_draws : List Str := ["_law_cell_here", "_law_many", "_law_rest", "_law_large", "_law_seed", "_law_found", "_law_k"]
abbrev P_draws : List Str := ["_law_cell_here", "_law_many"]
theorem sc_draws : FnScope N_draws P_draws (defScope s_draws) := ⟨rfl, rfl, rfl, by decide +kernel, rfl, by decide +kernel, by decide +kernel⟩
abbrev s_take : Stmt := topS 21
abbrev N_take : List Str := ["_law_draws_here", "_law_place"]
abbrev P_take : List Str := ["_law_draws_here", "_law_place"]
theorem sc_take : FnScope N_take P_take (defScope s_take) := ⟨rfl, rfl, rfl, by decide +kernel, rfl, by decide +kernel, by decide +kernel⟩
abbrev FnP (K : PySem.W.Frag) (x : Str) (st : Stmt) (f : Addr) (fd : FuncData) : Prop := FunD K x x (defArgs st) (defBody st) (defScope st) [] [] f fd
section
variable {P : Program} {w : World} {K : PySem.W.Frag} {mg : Str → Option Value} {base : Heap} {f : Addr} {fd : FuncData}
theorem cal_of {k : Nat} {x : Str} {st : Stmt} {ps : List Str} {sp : Sp} (F : FnP K x st f fd) (g : mg x = some (.ref f)) (b : Binds K fd ps []) (h : FnOk P w K mg base CX0 k f fd ps sp) : Cal P w K mg base k x sp := ⟨f, fd, ps, h, g, F.kp, b⟩
/-! ### _law_cell -/
def spCell (K : PySem.W.Frag) : Sp := fun vs H Q _ => ∃ (a : Addr) (ns : List Int) (k : Nat), vs = [.ref a, .int (k : Int)] ∧ SqL K H a (ns.map V.int) ∧ Q (.int (ns.getD k 0)) H
theorem ok_cell (F : FnP K "_law_cell" s_cell f fd) (m_len : mg "len" = none) (m_int : mg "int" = none) : FnOk P w K mg base CX0 1 f fd P_cell (spCell K) := by
  refine F.ok sc_cell (fun vs H Q E h => ?_) (fun cdv A outer s H vs Q E hr h => ?_)
  · obtain ⟨a, ns, k, rfl, _⟩ := h
    rfl
  · obtain ⟨a, ns, k, rfl, hS, q⟩ := h
    refine ⟨_, PSs.nox (pss_cons (ps_if (pt_cmpR op_lt (pv 1) (pe_callB call_len_seq (by rfl) m_len PySem.boot_len (pa_cons (pv 0) pa_nil)) (nomark _)) (pss_one (ps_ret (pe_callTy call_int1 (by rfl) m_int (by decide +kernel) (pa_cons (pe_ix ix_list (pv 0) (pv 1) (fun _ _ => rfl)) pa_nil)))) pss_nil)
      (pss_one (ps_ret pe_int))), ?_⟩
    walk_at "go"
    refine ⟨a, _, rfl, .inl hS, ?_⟩
    walk_at "go"
    rw [List.length_map]
    refine ite2 (fun e => ?_) (fun e => ?_)
    · have hk : k < ns.length := by have := of_decide_eq_true e; omega
      walk_at "go"
      refine ⟨a, _, _, _, rfl, rfl, hS, at_map (List.getElem?_eq_getElem hk), ?_⟩
      walk_at "go"
      rw [List.getD_eq_getElem?_getD, List.getElem?_eq_getElem hk] at q
      exact q
    · have hk : ¬ k < ns.length := fun z => e (decide_eq_true (by omega))
      rw [List.getD_eq_getElem?_getD, List.getElem?_eq_none (by omega)] at q
      exact q
/-! ### _law_draws -/
def Dr (n : Nat) (ds : List Int) : Prop := ds.length = n ∧ ∀ d ∈ ds, 0 ≤ d ∧ d < 1000000
def spDraws : Sp := fun vs H Q _ => ∃ (c : Int) (n : Nat), vs = [.int c, .int (n : Int)] ∧ n ≤ 100000 ∧ ∀ p ds, H p = none → Dr n ds → Q (.ref p) (upd H p (.lst (ds.map V.int)))
theorem ok_draws (F : FnP K "_law_draws" s_draws f fd) (m_int : mg "int" = none) (m_abs : mg "abs" = none) (m_range : mg "range" = none) : FnOk P w K mg base CX0 1 f fd P_draws spDraws := by
  refine F.ok sc_draws (fun vs H Q E h => ?_) (fun cdv A outer s H vs Q E hr h => ?_)
  · obtain ⟨c, n, rfl, _⟩ := h
    rfl
  · obtain ⟨c, n, rfl, hn, q⟩ := h
    refine ⟨_, PSs.nox (pss_cons (ps_set (i := 2) sc_draws.nd rfl (by first | exact .inl rfl | exact .inr rfl) (pe_callB call_abs (by rfl) m_abs (by decide +kernel) (pa_cons (pe_callTy call_int1 (by rfl) m_int (by decide +kernel) (pa_cons (pv 0) pa_nil)) pa_nil)))
      (pss_cons (ps_set (i := 3) sc_draws.nd rfl (by first | exact .inl rfl | exact .inr rfl) (pe_cmpR op_ge (pv 2) (pe_op op_pow pe_int pe_int) (nomark _)))
      (pss_cons (ps_set (i := 4) sc_draws.nd rfl (by first | exact .inl rfl | exact .inr rfl) (pe_op op_mod (pe_callTy call_int1 (by rfl) m_int (by decide +kernel) (pa_cons (pv 2) pa_nil)) pe_int))
      (pss_cons (ps_set (i := 5) sc_draws.nd rfl (by first | exact .inl rfl | exact .inr rfl) (pe_lst pa_nil))
      (pss_cons (ps_for PassesOwn.never rfl (pi_range1 (by rfl) m_range (pa_cons (pv 1) pa_nil)) (pg_name (i := 6) sc_draws.nd rfl (by first | exact .inl rfl | exact .inr rfl))
        (pss_cons (ps_set (i := 4) sc_draws.nd rfl (by first | exact .inl rfl | exact .inr rfl) (pe_op op_mod (pe_callTy call_int1 (by rfl) m_int (by decide +kernel) (pa_cons (pe_op op_add (pe_op op_add (pe_op op_mul (pv 4) pe_int) (pe_op op_mul pe_int (pv 6))) pe_int) pa_nil)) pe_int))
      (pss_one (ps_if (PW.pt (pw_and (pt_val (pv 3)) (pw_and1 (pt_cmpR op_gt (pv 2) pe_int (nomark _))))) (pss_cons (ps_expr (pe_bm PySem.F.plainAttrs_list PySem.F.slot_list_append PySem.F.type_list_append mt_append (pv 5) (pa_cons (pe_op op_mod (pe_callTy call_int1 (by rfl) m_int (by decide +kernel) (pa_cons (pv 2) pa_nil)) pe_int) pa_nil)))
      (pss_one (ps_set (i := 2) sc_draws.nd rfl (by first | exact .inl rfl | exact .inr rfl) (pe_op op_fdiv (pv 2) pe_int)))) (pss_one (ps_expr (pe_bm PySem.F.plainAttrs_list PySem.F.slot_list_append PySem.F.type_list_append mt_append (pv 5) (pa_cons (pe_op op_mod (pe_callTy call_int1 (by rfl) m_int (by decide +kernel) (pa_cons (pe_op op_fdiv (pe_op op_mod (pe_callTy call_int1 (by rfl) m_int (by decide +kernel) (pa_cons (pe_op op_add (pe_op op_mul (pv 4) pe_int) (pe_op op_mul pe_int (pv 6))) pa_nil)) pe_int) pe_int) pa_nil)) pe_int) pa_nil))))))))
      (pss_one (ps_ret (pv 5)))))))), ?_⟩
    walk_at "go"
    intro p np
    walk_at "go"
    refine for_gen (n := n) (fun i σ H1 => ∃ (r : Int) (z : Int) (ds : List Int) (v : Option V), 0 ≤ r ∧ 0 ≤ z ∧ z < 2147483647 ∧ Dr i ds ∧ H1 = upd H p (.lst (ds.map V.int)) ∧
      σ = [some (.int c), some (.int (n : Int)), some (.int r), some (.bl (decide ((10 : Int) ^ 18 ≤ (if c < 0 then -c else c)))), some (.int z), some (.ref p), v]) ?_ ?_ ?_ ?_ ?_
    · refine ⟨_, _, [], none, ?_, ?_, ?_, ⟨rfl, fun d hd => nomatch hd⟩, rfl, rfl⟩
      · split <;> omega
      · omega
      · omega
    · intro i σ H1 hi _
      show i < (n : Int).toNat
      omega
    · intro σ H1 _
      show (n : Int).toNat ≤ n
      omega
    · rintro i σ H1 x H' hi ⟨r, z, ds, v, hr0, hz0, hz1, hd, rfl, rfl⟩ ⟨rfl, rfl⟩
      have hlen : (ds.map V.int).length < sizeLine := by
        rw [List.length_map, hd.1]
        exact Nat.lt_of_lt_of_le hi (Nat.le_trans hn (by decide))
      have fin : ∀ (r' z' d : Int) (u : Option V), 0 ≤ r' → 0 ≤ z' → z' < 2147483647 → 0 ≤ d → d < 1000000 → ∃ (r : Int) (z : Int) (es : List Int) (v : Option V), 0 ≤ r ∧ 0 ≤ z ∧ z < 2147483647 ∧ Dr (i + 1) es ∧ upd (upd H p (.lst (ds.map V.int))) p (.lst (ds.map V.int ++ [.int d])) = upd H p (.lst (es.map V.int)) ∧
          [some (.int c), some (.int (n : Int)), some (.int r'), some (.bl (decide ((10 : Int) ^ 18 ≤ (if c < 0 then -c else c)))), some (.int z'), some (.ref p), u] = [some (.int c), some (.int (n : Int)), some (.int r), some (.bl (decide ((10 : Int) ^ 18 ≤ (if c < 0 then -c else c)))), some (.int z), some (.ref p), v] := by
        intro r' z' d u a1 a2 a3 a4 a5
        refine ⟨r', z', ds ++ [d], u, a1, a2, a3, ⟨by rw [List.length_append, hd.1]; rfl, fun x hx => ?_⟩, ?_, rfl⟩
        · rcases List.mem_append.mp hx with h | h
          · exact hd.2 x h
          · rw [List.mem_singleton.mp h]
            exact ⟨a4, a5⟩
        · rw [upd_upd, List.map_append]
          rfl
      walk_at "go"
      refine ite2 (fun e => ?_) (fun e => ?_)
      · walk_at "go"
        refine ite2 (fun e2 => ?_) (fun e2 => ?_)
        · walk_at "go"
          refine ⟨.inl ⟨rfl, _, .inl (.inl upd_same)⟩, ?_⟩
          walk_at "go"
          refine ⟨_, _, _, rfl, rfl, upd_same, hlen, ?_⟩
          walk_at "go"
          exact fin _ _ _ _ (by omega) (by omega) (by omega) (by omega) (by omega)
        · walk_at "go"
          refine ⟨.inl ⟨rfl, _, .inl (.inl upd_same)⟩, ?_⟩
          walk_at "go"
          refine ⟨_, _, _, rfl, rfl, upd_same, hlen, ?_⟩
          walk_at "go"
          exact fin _ _ _ _ (by omega) (by omega) (by omega) (by omega) (by omega)
      · walk_at "go"
        refine ⟨.inl ⟨rfl, _, .inl (.inl upd_same)⟩, ?_⟩
        walk_at "go"
        refine ⟨_, _, _, rfl, rfl, upd_same, hlen, ?_⟩
        walk_at "go"
        exact fin _ _ _ _ (by omega) (by omega) (by omega) (by omega) (by omega)
    · rintro σ H1 ⟨r, z, ds, v, hr0, hz0, hz1, hd, rfl, rfl⟩
      walk_at "go"
      exact q p ds np hd
/-! ### _law_take -/
def spTake (K : PySem.W.Frag) : Sp := fun vs H Q _ => ∃ (a p : Addr) (n m : Nat) (ds : List Int), vs = [.ref a, .ref p] ∧ SqL K H a (ds.map V.int) ∧ Dr n ds ∧ H p = some (.lst [.int (m : Int)]) ∧ a ≠ p ∧ ∀ r : Int, 0 ≤ r → r < 1000000 → Q (.int r) (upd H p (.lst [.int ((m + 1 : Nat) : Int)]))
theorem ok_take (F : FnP K "_law_take" s_take f fd) (m_len : mg "len" = none) : FnOk P w K mg base CX0 1 f fd P_take (spTake K) := by
  refine F.ok sc_take (fun vs H Q E h => ?_) (fun cdv A outer s H vs Q E hr h => ?_)
  · obtain ⟨a, p, n, m, ds, rfl, _⟩ := h
    rfl
  · obtain ⟨a, p, n, m, ds, rfl, hS, hd, hp, ne, q⟩ := h
    refine ⟨_, PSs.nox (pss_cons (ps_asg (pe_op op_add (pe_ix ix_list (pv 1) pe_int (fun _ _ => rfl)) pe_int) (pg_sub (pv 1) pe_int set_list))
      (pss_cons (ps_if (pt_cmpR op_gt (pe_ix ix_list (pv 1) pe_int (fun _ _ => rfl)) (pe_callB call_len_seq (by rfl) m_len PySem.boot_len (pa_cons (pv 0) pa_nil)) (nomark _)) (pss_one (ps_ret pe_int)) pss_nil)
      (pss_one (ps_ret (pe_ix ix_list (pv 0) (pe_op op_sub (pe_ix ix_list (pv 1) pe_int (fun _ _ => rfl)) pe_int) (fun _ _ => rfl)))))), ?_⟩
    have sb : SB p H (upd H p (.lst [.int ((m + 1 : Nat) : Int)])) := SB.upd (Z.Same.sb (Same.refl H))
    have hS' := sb.sq ne hS
    walk_at "go"
    refine ⟨p, _, 0, _, rfl, rfl, SqL.of hp, rfl, ?_⟩
    walk_at "go"
    refine ⟨p, _, 0, 0, rfl, rfl, hp, rfl, ?_⟩
    show tSeq _ _ _ _ (upd H p (.lst [.int ((m : Int) + 1)]))
    rw [show ((m : Int) + 1) = ((m + 1 : Nat) : Int) by omega]
    walk_at "go"
    refine ⟨p, _, 0, _, rfl, rfl, SqL.of upd_same, rfl, ?_⟩
    walk_at "go"
    refine ⟨a, _, rfl, .inl hS', ?_⟩
    walk_at "go"
    rw [List.length_map]
    refine ite2 (fun e => ?_) (fun e => ?_)
    · exact q 0 (by omega) (by omega)
    · have hk : m < ds.length := by
        apply Decidable.byContradiction
        intro z
        exact e (decide_eq_true (by omega))
      walk_at "go"
      refine ⟨p, _, 0, _, rfl, rfl, SqL.of upd_same, rfl, ?_⟩
      walk_at "go"
      refine ⟨a, _, _, _, rfl, rfl, hS', at_of (by omega) (show (ds.map V.int)[m]? = some (.int ds[m]) by rw [List.getElem?_map, List.getElem?_eq_getElem hk]; rfl), ?_⟩
      have h1 := hd.2 ds[m] (List.getElem_mem hk)
      exact q _ h1.1 h1.2
end
end Z
set_option Elab.async false
set_option linter.all false
set_option maxRecDepth 100000
set_option maxHeartbeats 4000000
namespace Z
open PySem PySem.Spec PyProof.Rows L2
/-! ### data -/
def sqD (b : Bool) (ds : List PyData) : PyData := match b with
  | true => .list ds
  | false => .tuple ds
def intsD (b : Bool) (ns : List Int) : PyData := sqD b (ns.map PyData.int)
def matD (b : Bool) (rs : List (List Int)) : PyData := sqD b (rs.map (intsD b))
theorem dp_sq {b : Bool} {K : PySem.W.Frag} {H : Hp} {a : Addr} {xs : List V} {ds : List PyData} (h : SqK b K H a xs) (d : DpAll K H xs ds) : Dp K H (.ref a) (sqD b ds) := by
  cases b
  · exact .tup h d
  · exact .lst h d
theorem dpa_ints {K : PySem.W.Frag} {H : Hp} : ∀ ns : List Int, DpAll K H (ns.map V.int) (ns.map PyData.int)
  | [] => .nil
  | n :: r => .cons (.int n) (dpa_ints r)
theorem dp_ints {b : Bool} {K : PySem.W.Frag} {H : Hp} {a : Addr} {ns : List Int} (h : SqK b K H a (ns.map V.int)) : Dp K H (.ref a) (intsD b ns) := dp_sq h (dpa_ints ns)
/-- a matrix: a list (or tuple) of lists (or tuples) of ints, at ps -/
def Mat (b : Bool) (K : PySem.W.Frag) (H : Hp) (a : Addr) (ps : List Addr) (rs : List (List Int)) : Prop := SqK b K H a (ps.map V.ref) ∧ ps.length = rs.length ∧ ∀ (i : Nat) (p : Addr) (r : List Int), ps[i]? = some p → rs[i]? = some r → SqK b K H p (r.map V.int)
theorem Mat.mono {b : Bool} {K : PySem.W.Frag} {H H' : Hp} {a : Addr} {ps : List Addr} {rs : List (List Int)} (s : Same H H') (m : Mat b K H a ps rs) : Mat b K H' a ps rs := ⟨Z.Same.sqK s m.1, m.2.1, fun i p r h1 h2 => Z.Same.sqK s (m.2.2 i p r h1 h2)⟩
theorem dpa_mat {b : Bool} {K : PySem.W.Frag} {H : Hp} : ∀ (ps : List Addr) (rs : List (List Int)), ps.length = rs.length → (∀ (i : Nat) (p : Addr) (r : List Int), ps[i]? = some p → rs[i]? = some r → SqK b K H p (r.map V.int)) → DpAll K H (ps.map V.ref) (rs.map (intsD b))
  | [], [], _, _ => .nil
  | p :: ps, r :: rs, hl, h => .cons (dp_ints (h 0 p r rfl rfl)) (dpa_mat ps rs (by simpa using hl) fun i q s h1 h2 => h (i + 1) q s h1 h2)
theorem Mat.dp {b : Bool} {K : PySem.W.Frag} {H : Hp} {a : Addr} {ps : List Addr} {rs : List (List Int)} (m : Mat b K H a ps rs) : Dp K H (.ref a) (matD b rs) := dp_sq m.1 (dpa_mat ps rs m.2.1 m.2.2)
theorem lay_ints : ∀ ns : List Int, PyData.canLayAll0 (ns.map PyData.int) = true
  | [] => rfl
  | n :: r => by
    rw [List.map_cons, PyData.canLayAll0, lay_ints r]
    rfl
theorem dep_ints : ∀ ns : List Int, PyData.depthAll (ns.map PyData.int) = 0
  | [] => rfl
  | n :: r => by
    rw [List.map_cons, PyData.depthAll, dep_ints r]
    rfl
theorem shaped_ints (b : Bool) (ns : List Int) : SeqAt.shaped (intsD b ns) = true := by
  unfold SeqAt.shaped intsD
  cases b
  · show (PyData.canLayAll0 (ns.map PyData.int) && decide (PyData.depthAll (ns.map PyData.int) + 1 ≤ 64)) = true
    rw [lay_ints, dep_ints]
    rfl
  · show (PyData.canLayAll0 (ns.map PyData.int) && decide (PyData.depthAll (ns.map PyData.int) + 1 ≤ 64)) = true
    rw [lay_ints, dep_ints]
    rfl
theorem lay_mat (b : Bool) : ∀ rs : List (List Int), PyData.canLayAll0 (rs.map (intsD b)) = true
  | [] => rfl
  | n :: r => by
    rw [List.map_cons, PyData.canLayAll0, lay_mat b r, SeqAt.canLay_of_shaped (shaped_ints b n)]
    rfl
theorem dep_mat (b : Bool) : ∀ rs : List (List Int), PyData.depthAll (rs.map (intsD b)) ≤ 1
  | [] => Nat.zero_le _
  | n :: r => by
    rw [List.map_cons, PyData.depthAll]
    have h := dep_mat b r
    have h2 : (intsD b n).depth = 1 := by
      cases b
      · show PyData.depthAll (n.map PyData.int) + 1 = 1
        rw [dep_ints]
      · show PyData.depthAll (n.map PyData.int) + 1 = 1
        rw [dep_ints]
    omega
theorem shaped_mat (b : Bool) (rs : List (List Int)) : SeqAt.shaped (matD b rs) = true := by
  have h := dep_mat b rs
  unfold SeqAt.shaped matD
  cases b
  · show (PyData.canLayAll0 (rs.map (intsD false)) && decide (PyData.depthAll (rs.map (intsD false)) + 1 ≤ 64)) = true
    rw [lay_mat, decide_eq_true (by omega)]
    rfl
  · show (PyData.canLayAll0 (rs.map (intsD true)) && decide (PyData.depthAll (rs.map (intsD true)) + 1 ≤ 64)) = true
    rw [lay_mat, decide_eq_true (by omega)]
    rfl
theorem same2 {K : PySem.W.Frag} {H : Hp} {x y : V} {d : PyData} {R : PyData → PyData → Prop} (hx : Dp K H x d) (hy : Dp K H y d) (hs : SeqAt.shaped d = true) (q : R d d) : ∃ d' e', Dp K H x d' ∧ Dp K H y e' ∧ SeqAt.shaped d' = true ∧ SeqAt.shaped e' = true ∧ R d' e' := ⟨d, d, hx, hy, hs, hs, q⟩
theorem eqv_same {d : PyData} (hs : SeqAt.shaped d = true) : PyData.eqv d d = true := SeqAt.eqv_refl d (SeqAt.canLay_of_shaped hs)
/-! ### a target that is one of two kinds -/
def gOr (t u : TG) : TG := fun v σ H Q => t v σ H Q ∨ u v σ H Q
theorem pg_or {X : Cx} {e : Expr} {t u : TG} (h1 : PG X e t) (h2 : PG X e u) : PG X e (gOr t u) := by
  refine ⟨fun pins s σ H v uu Q I r hw => ?_⟩
  rcases hw with h | h
  · exact h1.run pins s σ H v uu Q I r h
  · exact h2.run pins s σ H v uu Q I r h
/-! ### isinstance of built-in kinds -/
theorem isi {K : PySem.W.Frag} {H : Hp} {x : V} {T c : String} {b : Bool} {R : Bool → Prop} (t : TyOf K H x (.type T)) (h : kitB T c = some b) (q : R b) : ∃ (x' c' : V) (t' u' : Value) (b' : Bool), [x, .ty c] = [x', c'] ∧ ClsV c' u' ∧ TyX K H x' t' ∧ PySem.W.kitOne K t' u' = some b' ∧ R b' :=
  ⟨x, .ty c, .type T, .type c, b, rfl, .ty c, .base t, kit_ty h, q⟩
/-! ### rules by the written part itself (within a comprehension's block) -/
section
variable {X : Cx} {K : PySem.W.Frag}
theorem ix_list_K (h : X.K = K) : IxR X (rIxL K) := by subst h; exact ix_list
theorem ix_tup_K (h : X.K = K) : IxR X (rIxT K) := by subst h; exact ix_tup
theorem ix_seq_K (h : X.K = K) : IxR X (rIx K) := by subst h; exact ix_seq
theorem call_len_seq_K (h : X.K = K) : CallR X (.builtin "len") (fun xs H Q => ∃ p ys, xs = [.ref p] ∧ (SqL K H p ys ∨ SqT K H p ys) ∧ Q (.int ys.length) H) := by subst h; exact call_len_seq
theorem call_list_of_K (h : X.K = K) : CallR X (.type "list") (fun xs H Q => ∃ p ys, xs = [.ref p] ∧ (SqL K H p ys ∨ SqT K H p ys) ∧ ∀ l, H l = none → Q (.ref l) (upd H l (.lst ys))) := by subst h; exact call_list_of
theorem call_tuple_of_K (h : X.K = K) : CallR X (.type "tuple") (fun xs H Q => ∃ p ys, xs = [.ref p] ∧ ((SqL K H p ys ∧ ∀ l, H l = none → Q (.ref l) (upd H l (.tup ys))) ∨ (SqT K H p ys ∧ Q (.ref p) H))) := by subst h; exact call_tuple_of
theorem op_in_seq_K (h : X.K = K) : OpR X (compareOp .In) (rIn K false) := by subst h; exact op_in_seq
theorem op_notIn_seq_K (h : X.K = K) : OpR X (compareOp .NotIn) (rIn K true) := by subst h; exact op_notIn_seq
theorem op_eqD_K (h : X.K = K) (hu : X.A.units + 64 < cLine) : OpR X (compareOp .Eq) (rEqD K) := by subst h; exact op_eqD hu
theorem op_neD_K (h : X.K = K) (hu : X.A.units + 64 < cLine) : OpR X (compareOp .NotEq) (rNeD K) := by subst h; exact op_neD hu
theorem call_isi_K (h : X.K = K) : CallR X (.builtin "isinstance") (rIsi K) := by subst h; exact call_isi
end
/-! ### great products -/
theorem big_mul {i j : Int} (hi : i.natAbs < 2 ^ 4000) (hj : j.natAbs < 2 ^ 4000) : CMulX i j := mulx_ok hi hj (by decide)
/-! ### sums of multiples of rows -/
def combN (rs : List (List Int)) (fs : List Int) (w : Nat) : Nat → List Int
  | 0 => List.replicate w 0
  | n + 1 => List.zipWith (fun a b => a + fs.getD n 0 * b) (combN rs fs w n) (rs.getD n [])
theorem combN_len {rs : List (List Int)} {fs : List Int} {w : Nat} (h : ∀ r ∈ rs, r.length = w) : ∀ n, n ≤ rs.length → (combN rs fs w n).length = w
  | 0, _ => List.length_replicate
  | n + 1, hn => by
    rw [combN, List.length_zipWith, combN_len h n (by omega), List.getD_eq_getElem?_getD, List.getElem?_eq_getElem (by omega), Option.getD_some, h _ (List.getElem_mem _)]
    omega
theorem combN_at {rs : List (List Int)} {fs : List Int} {w i c : Nat} (hi : i < rs.length) (hf : i < fs.length) (c1 : c < (combN rs fs w i).length) (c2 : c < rs[i].length) : (combN rs fs w (i + 1))[c]? = some ((combN rs fs w i)[c] + fs[i] * rs[i][c]) := by
  have g1 : fs.getD i 0 = fs[i] := by rw [List.getD_eq_getElem?_getD, List.getElem?_eq_getElem hf]; rfl
  have g2 : rs.getD i [] = rs[i] := by rw [List.getD_eq_getElem?_getD, List.getElem?_eq_getElem hi]; rfl
  rw [combN, List.getElem?_zipWith, g1, g2, List.getElem?_eq_getElem c1, List.getElem?_eq_getElem c2]
end Z
set_option Elab.async false
set_option linter.all false
set_option maxRecDepth 100000
set_option maxHeartbeats 4000000
namespace Z
open PySem PySem.Spec PyProof.Rows L2
/-! ### own classes: making, methods, calls of instances, == -/
structure Mak (P : Program) (w : World) (K : PySem.W.Frag) (mg : Str → Option Value) (base : Heap) (k : Nat) (x : Str) (sp : Sp) : Prop where
  ex : ∃ (C f : Addr) (fd : FuncData) (ps : List Str) (si : Sp), Mk K C f ∧ FnOk P w K mg base CX0 k f fd ps si ∧ mg x = some (.ref C) ∧ Binds K fd ps [] ∧
    ∀ vs H Q E, sp vs H Q E → ∀ n dx, H n = none → H dx = none → dx ≠ n → si (.ref n :: vs) (upd (upd H dx (.own n)) n (.ins C dx [])) (fun v H2 => v = .non ∧ Q (.ref n) H2) E
structure Met (P : Program) (w : World) (K : PySem.W.Frag) (mg : Str → Option Value) (base : Heap) (k : Nat) (C : Addr) (m : Str) (sp : Sp) : Prop where
  ex : ∃ (f : Addr) (fd : FuncData) (ps : List Str), Cls K C ∧ Meth K C m f ∧ FnOk P w K mg base CX0 k f fd ps sp ∧ Binds K fd ps []
section
variable {X : Cx} {k j : Nat} {x m : Str} {sp : Sp} {C : Addr} {p pos apos : Pos} {e o : Expr} {es : List Expr} {t : TA} {ta : TE}
theorem pe_mk (c : Mak X.prog X.w X.K X.mg X.base k x sp) (hr : Room j X.A) (hk : k + 1 ≤ j) (hg : Gl X x) (ha : PA X (e :: es) t)
    (hdb : (x == ("__debug__" : Str)) = false := by decide) (he : starEach (e :: es) X.env = (false, eval e X.env) :: starEach es X.env := by rfl) (hpl : (backTo pos (starEach es X.env)).any (·.1) = false := by rfl) : PE X (.Call (.Name x p) (e :: es) [] pos) (tCall sp [] E0 t) := by
  obtain ⟨C, f, fd, ps, si, M, F, hm, b, imp⟩ := c.ex
  constructor
  intro pins s σ H Q I h
  refine wpAny_Call_Name_kw (ld_glob I hg hm ?_ hdb)
  refine PySem.W.callWith_K (h₀ := X.base) I.ok.mod.kin M.kp (thn (ha.run pos pins s σ H _ I h) fun us s1 ⟨vs, H1, I1, r, q⟩ => ⟨I1.kIn, ?_⟩) he hpl
  have q2 : sp vs H1 Q E0 := by
    have z : sp (vs ++ []) H1 Q E0 := q
    rw [List.append_nil] at z
    exact z
  refine run_make (dvs := []) M F (hr.mono hk) b .nil pass0 I1 r (fun n dx n1 n2 n3 => ?_)
  rw [List.append_nil]
  exact imp _ _ _ _ q2 n dx n1 n2 n3
theorem pe_me {pl : Sem Bool} (c : Met X.prog X.w X.K X.mg X.base k C m sp) (he : PE X o ta) (hr : Room j X.A) (hk : k ≤ j) (ha : PA X (e :: es) t)
    (hst : starEach (e :: es) X.env = (false, eval e X.env) :: starEach es X.env := by rfl) (hpl : (backTo pos (starEach es X.env)).any (·.1) = false := by rfl)
    (ht : eval (.Call (.Attribute o m apos) (e :: es) [] pos) X.env = (do
      let ov ← eval o X.env
      standAt apos.atName
      let (f, first) ← holding [ov] (getMethod ov m pl)
      callWith pos f first (backTo pos (starEach (e :: es) X.env)) (backToKw pos (keywordEach [] X.env))) := by rfl) : PE X (.Call (.Attribute o m apos) (e :: es) [] pos) (tMeth C m sp [] E0 ta t) := by
  obtain ⟨f, fd, ps, cl, me, F, b⟩ := c.ex
  exact pe_meth he cl me F (hr.mono hk) b .nil pass0 ha hst hpl ht
theorem pe_me0 {pl : Sem Bool} (c : Met X.prog X.w X.K X.mg X.base k C m sp) (he : PE X o ta) (hr : Room j X.A) (hk : k ≤ j)
    (ht : eval (.Call (.Attribute o m apos) [] [] pos) X.env = (do
      let ov ← eval o X.env
      standAt apos.atName
      let (f, first) ← holding [ov] (getMethod ov m pl)
      callWith pos f first (backTo pos (starEach [] X.env)) (backToKw pos (keywordEach [] X.env))) := by rfl) : PE X (.Call (.Attribute o m apos) [] [] pos) (tMeth C m sp [] E0 ta tNil) := by
  obtain ⟨f, fd, ps, cl, me, F, b⟩ := c.ex
  exact pe_meth0 he cl me F (hr.mono hk) b .nil pass0 ht
end
/-! ### f(e, ..), f an instance of C -/
structure Cob (P : Program) (w : World) (K : PySem.W.Frag) (mg : Str → Option Value) (base : Heap) (k : Nat) (C : Addr) (sp : Sp) : Prop where
  ex : ∃ g : Addr, StX.CallO K C g ∧ FnR P w K mg base CX0 k g sp
def tCo (C : Addr) (sp : Sp) (tf : TE) (t : TA) : TE := fun σ H Q => tf σ H fun y H1 => ∃ a, y = V.ref a ∧ t σ H1 fun vs H2 => (∃ dx fs, H2 a = some (.ins C dx fs)) ∧ sp (V.ref a :: vs) H2 Q E0
section
variable {X : Cx} {k j : Nat} {sp : Sp} {C : Addr} {pos : Pos} {e fe : Expr} {es : List Expr} {t : TA} {tf : TE}
theorem pe_co (c : Cob X.prog X.w X.K X.mg X.base k C sp) (hf : PE X fe tf) (hr : Room j X.A) (hk : k ≤ j) (ha : PA X (e :: es) t)
    (ht : eval (.Call fe (e :: es) [] pos) X.env = (do callWith pos (← eval fe X.env) [] (backTo pos (starEach (e :: es) X.env)) (backToKw pos (keywordEach [] X.env))) := by rfl)
    (he : starEach (e :: es) X.env = (false, eval e X.env) :: starEach es X.env := by rfl) (hpl : (backTo pos (starEach es X.env)).any (·.1) = false := by rfl) : PE X (.Call fe (e :: es) [] pos) (tCo C sp tf t) := by
  obtain ⟨g, co, F⟩ := c.ex
  constructor
  intro pins s σ H Q I h
  refine Call_ (thn (hf.run pins s σ H _ I h) fun u s1 ⟨y, H1, I1, ry, a, ey, q⟩ => ?_) ht
  subst ey
  obtain rfl : u = Value.ref a := ry
  refine StX.callO_with (thn (ha.run pos pins s1 σ H1 _ I1 q) fun us s2 ⟨vs, H2, I2, r, hi, q2⟩ => ?_) he hpl
  have hi2 : StX.InsC X H2 a C := .inr hi
  obtain ⟨ox, od, J, hd⟩ := StX.insC_at I2 hi2
  exact ⟨⟨C, ox, od, J, hd⟩, StX.run_callO co F (hr.mono hk) pass0 I2 hi2 r q2⟩
end
/-! ### a == b by the class's own __eq__ -/
structure Eqo (P : Program) (w : World) (K : PySem.W.Frag) (mg : Str → Option Value) (base : Heap) (k : Nat) (C : Addr) (sp : Sp) : Prop where
  ex : ∃ (f : Addr) (fd : FuncData) (ps : List Str), FnOk P w K mg base CX0 k f fd ps sp ∧ PySem.W.findIn K (.ref C) "__eq__" = some (some (.ref f)) ∧ PySem.W.isFn K (.ref f) = true ∧ Binds K fd ps []
def rOwn (C : Addr) (sp : Sp) : R2 := fun x y H Q => ∃ a b dx dy fs gs, x = .ref a ∧ y = .ref b ∧ H a = some (.ins C dx fs) ∧ H b = some (.ins C dy gs) ∧ sp [.ref a, .ref b] H (fun v H' => ∃ r, v = .bl r ∧ Q v H') E0
theorem op_own {X : Cx} {k j : Nat} {C : Addr} {sp : Sp} (c : Eqo X.prog X.w X.K X.mg X.base k C sp) (hr : Room j X.A) (hk : k ≤ j) : OpR X (compareOp .Eq) (rOwn C sp) := by
  intro pins s σ H x y v u Q I rx ry hq
  obtain ⟨f, fd, ps, F, hs, hf, hb⟩ := c.ex
  obtain ⟨a, b, dx, dy, fs, gs, rfl, rfl, ha, hb', q⟩ := hq
  cases rx
  cases ry
  obtain ⟨mA, J, _⟩ := ins_get I.hok ha
  obtain ⟨mB, J', _⟩ := ins_get I.hok hb'
  obtain ⟨od, J, _⟩ := J.look
  obtain ⟨od', J', _⟩ := J'.look
  obtain ⟨m, hF⟩ := I.fr
  show wpAny (model X.prog X.w) X.A (richCompare .Eq (Value.ref a) (Value.ref b)) (EP X pins σ Q) X.xe s
  refine PySem.W.cmp_K (op := .Eq) (tb := .ref C) (hr.mono hk).units0 hF I.ok.mod.kin J J'.type (by simp [PySem.W.notFirst]) hs hf ?_
  have r2 : Vals [V.ref a, V.ref b] [Value.ref a, Value.ref b] := .cons rfl (.cons rfl .nil)
  refine thn (run_fn (dvs := []) F (hr.mono hk) hb .nil pass0 I r2 q) fun r s' z => ?_
  obtain ⟨v, H', I', rv, b', rfl, q'⟩ := z
  cases rv
  exact ⟨.bl b', H', I', rfl, q'⟩
end Z
set_option Elab.async false
set_option linter.all false
namespace Nd
/-! ### needs: the mathematics -/
abbrev Rs := List (Int × Option Int)
def rise (k : Int) (p : Int × Option Int) : Int := if k ≤ p.1 then 0 else match p.2 with
  | none => k - p.1
  | some h => if k < h then k - p.1 else h - p.1
def Fs (rs : Rs) (k : Int) : Int := (rs.map (rise k)).sum
/-- the pairs lie behind the edge e, one behind another with gaps, none but the last is open -/
def Good : Int → Rs → Prop
  | _, [] => True
  | e, (l, none) :: r => e < l ∧ r = []
  | e, (l, some h) :: r => e < l ∧ l < h ∧ Good h r
theorem Good.weak {e e' : Int} (h : e' ≤ e) : ∀ {rs : Rs}, Good e rs → Good e' rs
  | [], _ => trivial
  | (l, none) :: r, g => ⟨by have := g.1; omega, g.2⟩
  | (l, some x) :: r, g => ⟨by have := g.1; omega, g.2⟩
theorem Fs_nil (k : Int) : Fs [] k = 0 := rfl
theorem Fs_cons (p : Int × Option Int) (rs : Rs) (k : Int) : Fs (p :: rs) k = rise k p + Fs rs k := by
  unfold Fs
  rw [List.map_cons, List.sum_cons]
theorem Fs_append (a b : Rs) (k : Int) : Fs (a ++ b) k = Fs a k + Fs b k := by
  unfold Fs
  rw [List.map_append, List.sum_append]
theorem rise_zero {k : Int} {p : Int × Option Int} (h : k ≤ p.1) : rise k p = 0 := if_pos h
theorem rise_none {k l : Int} (h : l < k) : rise k (l, none) = k - l := if_neg (by omega : ¬ k ≤ l)
theorem rise_some {k l x : Int} (h : l < k) : rise k (l, some x) = if k < x then k - l else x - l := if_neg (by omega : ¬ k ≤ l)
theorem Fs_zero {k : Int} : ∀ {e : Int} {rs : Rs}, Good e rs → k ≤ e → Fs rs k = 0
  | _, [], _, _ => rfl
  | e, (l, none) :: r, g, h => by
    have g1 := g.1
    rw [Fs_cons, rise_zero (show k ≤ l by omega), g.2]
    rfl
  | e, (l, some x) :: r, g, h => by
    have g1 := g.1
    have g2 := g.2.1
    rw [Fs_cons, rise_zero (show k ≤ l by omega), Fs_zero g.2.2 (by omega)]
    rfl
theorem Good.drop : ∀ {e : Int} {rs : Rs} (i : Nat), Good e rs → ∃ e', Good e' (rs.drop i)
  | e, rs, 0, g => ⟨e, g⟩
  | e, [], i + 1, _ => ⟨e, trivial⟩
  | e, (l, none) :: r, i + 1, g => by
    rw [g.2]
    exact ⟨e, by simp [Good]⟩
  | e, (l, some x) :: r, i + 1, g => Good.drop i g.2.2
/-- behind a low edge that k does not pass nothing is added -/
theorem Fs_stop {rs : Rs} {e k : Int} (g : Good e rs) {i : Nat} {l : Int} {h : Option Int} (hi : rs[i]? = some (l, h)) (hk : k ≤ l) : Fs rs k = Fs (rs.take i) k := by
  obtain ⟨e', g'⟩ := g.drop i
  have hd : rs.drop i = (l, h) :: rs.drop (i + 1) := by
    obtain ⟨hlt, e1⟩ := List.getElem?_eq_some_iff.mp hi
    rw [List.drop_eq_getElem_cons hlt, e1]
  have e2 : Fs (rs.drop i) k = 0 := by
    rw [hd] at g' ⊢
    rw [Fs_cons, rise_zero hk]
    cases h with
    | none => rw [g'.2]; rfl
    | some x =>
      rw [Fs_zero g'.2.2 (by have := g'.2.1; omega)]
      rfl
  have e3 : Fs rs k = Fs (rs.take i ++ rs.drop i) k := by rw [List.take_append_drop]
  rw [e3, Fs_append, e2]
  omega
theorem Fs_take {rs : Rs} {k : Int} {i : Nat} {p : Int × Option Int} (hi : rs[i]? = some p) : Fs (rs.take (i + 1)) k = Fs (rs.take i) k + rise k p := by
  rw [List.take_add_one, hi, Fs_append]
  show _ = _
  rw [show (some p).toList = [p] from rfl, Fs_cons, Fs_nil]
  omega
theorem rise_bounds {x y l : Int} {h : Option Int} (hl : ∀ v, h = some v → l < v) (hxy : x ≤ y) : 0 ≤ rise y (l, h) - rise x (l, h) ∧ 0 ≤ rise x (l, h) := by
  unfold rise
  dsimp only
  cases h with
  | none => dsimp only; constructor <;> (repeat' split) <;> omega
  | some v =>
    have := hl v rfl
    dsimp only
    constructor <;> (repeat' split) <;> omega
/-- the sum does not fall, and it grows by at most one for one -/
theorem Fs_slope {x y : Int} (hxy : x ≤ y) : ∀ {e : Int} {rs : Rs}, Good e rs → 0 ≤ Fs rs x ∧ Fs rs x ≤ Fs rs y ∧ (Fs rs y - Fs rs x ≤ y - x) ∧ (e ≤ y → Fs rs y ≤ y - e)
  | e, [], _ => ⟨by rw [Fs_nil]; omega, by rw [Fs_nil, Fs_nil]; omega, by rw [Fs_nil, Fs_nil]; omega, fun _ => by rw [Fs_nil]; omega⟩
  | e, (l, none) :: r, g => by
    have g1 := g.1
    rw [g.2, Fs_cons, Fs_cons, Fs_nil, Fs_nil]
    unfold rise
    dsimp only
    refine ⟨?_, ?_, ?_, fun _ => ?_⟩ <;> (repeat' split) <;> omega
  | e, (l, some h) :: r, g => by
    have g1 := g.1
    have g2 := g.2.1
    obtain ⟨i1, i2, i3, i4⟩ := Fs_slope hxy g.2.2
    rw [Fs_cons, Fs_cons]
    have z1 : x ≤ h → Fs r x = 0 := fun q => Fs_zero g.2.2 q
    have z2 : y ≤ h → Fs r y = 0 := fun q => Fs_zero g.2.2 q
    by_cases hy : y ≤ h
    · have a1 := z2 hy
      have a2 := z1 (by omega)
      rw [a1, a2]
      unfold rise
      dsimp only
      refine ⟨?_, ?_, ?_, fun _ => ?_⟩ <;> (repeat' split) <;> omega
    · have a4 := i4 (by omega)
      by_cases hx : x ≤ h
      · have a2 := z1 hx
        rw [a2]
        unfold rise
        dsimp only
        refine ⟨?_, ?_, ?_, fun _ => ?_⟩ <;> (repeat' split) <;> omega
      · unfold rise
        dsimp only
        refine ⟨?_, ?_, ?_, fun _ => ?_⟩ <;> (repeat' split) <;> omega
/-- flat_point as it goes -/
def fp : Rs → Int → Int → Option Int
  | [], left, edge => some (edge + left)
  | (l, h) :: r, left, edge => if left ≤ l - edge then some (edge + left) else match h with
    | none => none
    | some x => fp r (left - (l - edge)) x
theorem fp_spec : ∀ {rs : Rs} {A E : Int}, Good (E - 1) rs → 0 ≤ A → match fp rs A E with
    | some x => E ≤ x ∧ ∀ y, E ≤ y → (A ≤ (y - E) - Fs rs y ↔ x ≤ y)
    | none => ∀ y, E ≤ y → (y - E) - Fs rs y < A
  | [], A, E, _, hA => ⟨by omega, fun y hy => by rw [Fs_nil]; constructor <;> intro h <;> omega⟩
  | (l, h) :: r, A, E, g, hA => by
    unfold fp
    by_cases c : A ≤ l - E
    · rw [if_pos c]
      refine ⟨by omega, fun y hy => ?_⟩
      by_cases yl : y ≤ l
      · have z : Fs ((l, h) :: r) y = 0 := Fs_stop g (i := 0) rfl yl
        rw [z]
        constructor <;> intro <;> omega
      · have z : Fs ((l, h) :: r) l = 0 := Fs_stop g (i := 0) rfl (Int.le_refl l)
        have s := (Fs_slope (x := l) (y := y) (by omega) g).2.2.1
        rw [z] at s
        constructor <;> intro <;> omega
    · rw [if_neg c]
      cases h with
      | none =>
        have g2 := g.2
        subst g2
        intro y hy
        rw [Fs_cons, Fs_nil]
        by_cases yl : y ≤ l
        · rw [rise_zero yl]; omega
        · rw [rise_none (by omega)]; omega
      | some x =>
        have g1 := g.1
        have g2 := g.2.1
        have ih := fp_spec (rs := r) (A := A - (l - E)) (E := x) (g.2.2.weak (by omega)) (by omega)
        dsimp only
        have low : ∀ y, E ≤ y → y < x → (y - E) - Fs ((l, some x) :: r) y < A := fun y hy hx => by
          rw [Fs_cons, Fs_zero g.2.2 (by omega)]
          by_cases yl : y ≤ l
          · rw [rise_zero yl]; omega
          · rw [rise_some (by omega), if_pos hx]; omega
        have high : ∀ y, x ≤ y → (y - E) - Fs ((l, some x) :: r) y = (y - x) - Fs r y + (l - E) := fun y hx => by
          rw [Fs_cons, rise_some (by omega), if_neg (by omega)]
          omega
        cases e : fp r (A - (l - E)) x with
        | some q =>
          rw [e] at ih
          refine ⟨by have := ih.1; omega, fun y hy => ?_⟩
          by_cases hx : y < x
          · have a := low y hy hx
            have b := ih.1
            constructor <;> intro <;> omega
          · have a := high y (by omega)
            have b := ih.2 y (by omega)
            rw [a]
            constructor
            · intro h1
              exact b.mp (by omega)
            · intro h1
              have := b.mpr h1
              omega
        | none =>
          rw [e] at ih
          intro y hy
          by_cases hx : y < x
          · exact low y hy hx
          · have a := high y (by omega)
            have b := ih y (by omega)
            omega
end Nd
set_option Elab.async false
set_option linter.all false
namespace Nd
def top : Int → Rs → Option Int
  | t, [] => some t
  | _, (_, none) :: _ => none
  | t, (l, some h) :: r => top (t + h - l) r
def bnd : Int → Rs → Int
  | t, [] => t
  | t, (l, none) :: _ => if l > t then l else t
  | t, (l, some h) :: r => bnd (t + h - l) r
/-- the last pair is open, from l on -/
def opn : Rs → Option Int
  | [] => none
  | [(l, none)] => some l
  | [(_, some _)] => none
  | _ :: q :: r => opn (q :: r)
theorem ends_spec : ∀ {rs : Rs} {e t : Int}, Good e rs → match opn rs with
    | some l => e < l ∧ bnd t rs = (if l > t + Fs rs l then l else t + Fs rs l) ∧ (∀ y, l ≤ y → Fs rs y = Fs rs l + (y - l)) ∧ top t rs = none
    | none => (∀ y, t + Fs rs y ≤ bnd t rs) ∧ top t rs = some (bnd t rs)
  | [], e, t, _ => ⟨fun y => by rw [Fs_nil]; show t + 0 ≤ t; omega, rfl⟩
  | [(l, none)], e, t, g => by
    have z : Fs [(l, none)] l = 0 := by rw [Fs_cons, rise_zero (Int.le_refl l), Fs_nil]; rfl
    refine ⟨g.1, ?_, fun y hy => ?_, rfl⟩
    · rw [z]; show (if l > t then l else t) = _; rw [Int.add_zero]
    · rw [z, Fs_cons, Fs_nil]
      by_cases h : y ≤ l
      · rw [rise_zero h]; omega
      · rw [rise_none (by omega)]; omega
  | [(l, some h)], e, t, g => by
    have g2 := g.2.1
    refine ⟨fun y => ?_, rfl⟩
    rw [Fs_cons, Fs_nil]
    show t + (rise y (l, some h) + 0) ≤ t + h - l
    unfold rise
    dsimp only
    (repeat' split) <;> omega
  | (l, none) :: q :: r, e, t, g => by
    have := g.2
    cases this
  | (l, some h) :: q :: r, e, t, g => by
    have g2 := g.2.1
    have ih := ends_spec (rs := q :: r) (e := h) (t := t + h - l) g.2.2
    show match opn (q :: r) with
      | some l' => _
      | none => _
    cases c : opn (q :: r) with
    | some l' =>
      rw [c] at ih
      obtain ⟨i1, i2, i3, i4⟩ := ih
      have e1 : ∀ y, h ≤ y → Fs ((l, some h) :: q :: r) y = (h - l) + Fs (q :: r) y := fun y hy => by
        rw [Fs_cons, rise_some (by omega), if_neg (by omega)]
      have g1 := g.1
      refine ⟨by omega, ?_, fun y hy => ?_, i4⟩
      · show bnd (t + h - l) (q :: r) = _
        rw [i2, e1 l' (by omega)]
        rw [show t + h - l + Fs (q :: r) l' = t + (h - l + Fs (q :: r) l') by omega]
      · rw [e1 y (by omega), e1 l' (by omega), i3 y hy]
        omega
    | none =>
      rw [c] at ih
      refine ⟨fun y => ?_, ih.2⟩
      have := ih.1 y
      rw [Fs_cons]
      show t + (rise y (l, some h) + Fs (q :: r) y) ≤ bnd (t + h - l) (q :: r)
      have b : rise y (l, some h) ≤ h - l := by
        unfold rise
        dsimp only
        (repeat' split) <;> omega
      omega
def val (st : Option Int) (rs : Rs) (nv : Option Int) (k : Option Int) : Option Int := match st, k with
  | some s, some k => some (s + Fs rs k)
  | _, _ => nv
/-- the greatest x with f(x) ≥ x; the least with f(x) ≤ x -/
def grt (s : Int) (rs : Rs) : Option Int := (fp rs (s + 1) 0).map (· - 1)
def lst (s : Int) (rs : Rs) : Option Int := fp rs s 0
theorem lst_spec {s : Int} {rs : Rs} (g : Good (-1) rs) (hs : 0 ≤ s) : match lst s rs with
    | some x => 0 ≤ x ∧ ∀ y, 0 ≤ y → (s + Fs rs y ≤ y ↔ x ≤ y)
    | none => ∀ y, 0 ≤ y → y < s + Fs rs y := by
  have h := fp_spec (rs := rs) (A := s) (E := 0) g hs
  unfold lst
  cases e : fp rs s 0 with
  | some x =>
    rw [e] at h
    refine ⟨h.1, fun y hy => ?_⟩
    have := h.2 y hy
    constructor
    · intro z
      exact this.mp (by omega)
    · intro z
      have := this.mpr z
      omega
  | none =>
    rw [e] at h
    intro y hy
    have := h y hy
    omega
theorem grt_spec {s : Int} {rs : Rs} (g : Good (-1) rs) (hs : 0 ≤ s) : match grt s rs with
    | some x => 0 ≤ x ∧ ∀ y, 0 ≤ y → (y ≤ s + Fs rs y ↔ y ≤ x)
    | none => ∀ y, 0 ≤ y → y ≤ s + Fs rs y := by
  have h := fp_spec (rs := rs) (A := s + 1) (E := 0) g (by omega)
  unfold grt
  cases e : fp rs (s + 1) 0 with
  | some x =>
    rw [e] at h
    have pos := h.2 0 (by omega)
    have z0 := (Fs_slope (x := 0) (y := 0) (by omega) g).1
    have x1 : ¬ x ≤ 0 := fun z => by
      have := pos.mpr z
      omega
    show 0 ≤ x - 1 ∧ ∀ y, 0 ≤ y → (y ≤ s + Fs rs y ↔ y ≤ x - 1)
    refine ⟨by omega, fun y hy => ?_⟩
    have := h.2 y hy
    constructor
    · intro z
      apply Decidable.byContradiction
      intro q
      have := this.mpr (by omega)
      omega
    · intro z
      apply Decidable.byContradiction
      intro q
      have := this.mp (by omega)
      omega
  | none =>
    rw [e] at h
    intro y hy
    have := h y hy
    omega
theorem grt_none {s l : Int} {rs : Rs} (g : Good (-1) rs) (hs : 0 ≤ s) (ho : opn rs = some l) (hl : l ≤ s + Fs rs l) : grt s rs = none := by
  have h := grt_spec g hs
  have e := ends_spec (t := s) g
  rw [ho] at e
  cases c : grt s rs with
  | none => rfl
  | some x =>
    rw [c] at h
    exfalso
    have h1 := h.2 (max l (x + 1)) (by omega)
    have h2 := e.2.2.1 (max l (x + 1)) (by omega)
    have h3 := h1.mp (by omega)
    omega
theorem lst_none {s l : Int} {rs : Rs} (g : Good (-1) rs) (hs : 0 ≤ s) (ho : opn rs = some l) (hl : l < s + Fs rs l) : lst s rs = none := by
  have h := lst_spec g hs
  have e := ends_spec (t := s) g
  rw [ho] at e
  cases c : lst s rs with
  | none => rfl
  | some x =>
    rw [c] at h
    exfalso
    have h1 := h.2 (max l x) (by omega)
    have h2 := e.2.2.1 (max l x) (by omega)
    have h3 := h1.mpr (by omega)
    omega
/-- where the search for the greatest one begins -/
theorem grt_top {s : Int} {rs : Rs} (g : Good (-1) rs) (hs : 0 ≤ s) (hn : ∀ l, opn rs = some l → ¬ l ≤ s + Fs rs l) : s + Fs rs (bnd s rs + 1) < bnd s rs + 1 ∧ 0 ≤ bnd s rs := by
  have e := ends_spec (t := s) g
  have z0 := (Fs_slope (x := 0) (y := 0) (by omega) g).1
  cases c : opn rs with
  | some l =>
    rw [c] at e
    have h1 := hn l c
    obtain ⟨e1, e2, e3, e4⟩ := e
    rw [if_pos (by omega)] at e2
    rw [e2, e3 (l + 1) (by omega)]
    omega
  | none =>
    rw [c] at e
    have h1 := e.1 (bnd s rs + 1)
    have h2 := e.1 0
    omega
theorem lst_top {s : Int} {rs : Rs} (g : Good (-1) rs) (hs : 0 ≤ s) (hn : ∀ l, opn rs = some l → ¬ l < s + Fs rs l) : s + Fs rs (bnd s rs) ≤ bnd s rs ∧ 0 ≤ bnd s rs := by
  have e := ends_spec (t := s) g
  have z0 := (Fs_slope (x := 0) (y := 0) (by omega) g).1
  cases c : opn rs with
  | some l =>
    rw [c] at e
    have h1 := hn l c
    obtain ⟨e1, e2, e3, e4⟩ := e
    by_cases q : l > s + Fs rs l
    · rw [if_pos q] at e2
      rw [e2]
      omega
    · rw [if_neg q] at e2
      have q2 : s + Fs rs l = l := by omega
      rw [e2, q2]
      omega
  | none =>
    rw [c] at e
    have h1 := e.1 (bnd s rs)
    have h2 := e.1 0
    omega
theorem grt_is {s x : Int} {rs : Rs} (g : Good (-1) rs) (hs : 0 ≤ s) (h0 : 0 ≤ x) (h1 : x ≤ s + Fs rs x) (h2 : s + Fs rs (x + 1) < x + 1) : grt s rs = some x := by
  have h := grt_spec g hs
  cases c : grt s rs with
  | none =>
    rw [c] at h
    have := h (x + 1) (by omega)
    omega
  | some y =>
    rw [c] at h
    have a := (h.2 x h0).mp h1
    have b : ¬ x + 1 ≤ y := fun z => by
      have := (h.2 (x + 1) (by omega)).mpr z
      omega
    rw [show y = x by omega]
theorem lst_is {s x : Int} {rs : Rs} (g : Good (-1) rs) (hs : 0 ≤ s) (h0 : 0 ≤ x) (h1 : s + Fs rs x ≤ x) (h2 : x = 0 ∨ x - 1 < s + Fs rs (x - 1)) : lst s rs = some x := by
  have h := lst_spec g hs
  cases c : lst s rs with
  | none =>
    rw [c] at h
    have := h x h0
    omega
  | some y =>
    rw [c] at h
    have a := (h.2 x h0).mp h1
    have b := h.1
    rcases h2 with z | z
    · rw [show y = x by omega]
    · by_cases hx : x = 0
      · rw [show y = x by omega]
      · have d : ¬ y ≤ x - 1 := fun q => by
          have := (h.2 (x - 1) (by omega)).mpr q
          omega
        rw [show y = x by omega]
end Nd
set_option Elab.async false
set_option linter.all false
set_option maxRecDepth 100000
set_option maxHeartbeats 4000000
namespace Z
open PySem PySem.Spec PyProof.Rows L2 Nd
/-! ### None or a number; pairs; lists of pairs -/
def oV : Option Int → V
  | none => .non
  | some i => .int i
theorem oV_non {o : Option Int} : decide (oV o = V.non) = o.isNone := by cases o <;> rfl
def Ris (b c : Bool) (K : PySem.W.Frag) (H : Hp) (a : Addr) (ps : List Addr) (rs : Rs) : Prop := SqK b K H a (ps.map V.ref) ∧ ps.length = rs.length ∧ ∀ (i : Nat) (p : Addr) (q : Int × Option Int), ps[i]? = some p → rs[i]? = some q → SqK c K H p [.int q.1, oV q.2]
theorem Ris.mono {b c : Bool} {K : PySem.W.Frag} {H H' : Hp} {a : Addr} {ps : List Addr} {rs : Rs} (s : Same H H') (r : Ris b c K H a ps rs) : Ris b c K H' a ps rs := ⟨Z.Same.sqK s r.1, r.2.1, fun i p q h1 h2 => Z.Same.sqK s (r.2.2 i p q h1 h2)⟩
theorem _root_.Z.SqK.or {b : Bool} {K : PySem.W.Frag} {H : Hp} {a : Addr} {xs : List V} (h : SqK b K H a xs) : SqL K H a xs ∨ SqT K H a xs := by
  cases b
  · exact .inr h
  · exact .inl h
/-! ### what is walked: a list or a tuple -/
inductive Eor (A B : Prop) : Prop
  | l : A → Eor A B
  | r : B → Eor A B
def iOr (a b : TI) : TI := fun σ H R => Eor (a σ H R) (b σ H R)
theorem pi_or {X : Cx} {tg e : Expr} {a b : TI} (h1 : PI X tg e a) (h2 : PI X tg e b) : PI X tg e (iOr a b) := by
  constructor
  intro pins s σ H R I h
  rcases h with h | h
  · exact h1.run pins s σ H R I h
  · exact h2.run pins s σ H R I h
theorem pi_seq {X : Cx} {tg l : Expr} {tl : TE} (h : PE X l tl) : PI X tg l (iOr (iList X.K tl) (iTup X.K tl)) := pi_or (pi_list h) (pi_tup h)
def ItS (b : Bool) (K : PySem.W.Frag) (a : Addr) : It := match b with
  | true => Itl K a
  | false => Itt K a
theorem its_go {b : Bool} {K : PySem.W.Frag} {H : Hp} {a : Addr} {xs : List V} {i : Nat} {x : V} (h : SqK b K H a xs) (e : xs[i]? = some x) : (ItS b K a).go i H := by
  cases b
  · exact ⟨_, _, h, e⟩
  · exact ⟨_, _, h, e⟩
theorem its_stop {b : Bool} {K : PySem.W.Frag} {H : Hp} {a : Addr} {xs : List V} {i : Nat} (h : SqK b K H a xs) (e : xs.length ≤ i) : (ItS b K a).stop i H := by
  cases b
  · exact ⟨_, h, e⟩
  · exact ⟨_, h, e⟩
theorem its_yld {b : Bool} {K : PySem.W.Frag} {H H' : Hp} {a : Addr} {xs : List V} {i : Nat} {x : V} (h : SqK b K H a xs) (y : (ItS b K a).yld i H x H') : H' = H ∧ xs[i]? = some x := by
  cases b
  · exact ⟨y.1, y.2 _ h⟩
  · exact ⟨y.1, y.2 _ h⟩
theorem iSeq_of {b : Bool} {K : PySem.W.Frag} {σ : L2.St} {H : Hp} {tl : TE} {R : It → Hp → Prop} {a : Addr} {xs : List V} (h : ∀ Q : VK, Q (.ref a) H → tl σ H Q) (hs : SqK b K H a xs) (q : R (ItS b K a) H) : iOr (iList K tl) (iTup K tl) σ H R := by
  cases b
  · exact .r (h _ ⟨a, rfl, ⟨_, hs⟩, q⟩)
  · exact .l (h _ ⟨a, rfl, ⟨_, hs⟩, q⟩)
abbrev gPair (K : PySem.W.Frag) (i j : Nat) : TG := gOr (gUnl K 2 (gCons (gName i) (gCons (gName j) gNil))) (gTup K 2 (gCons (gName i) (gCons (gName j) gNil)))
theorem gpair_of {c : Bool} {K : PySem.W.Frag} {i j : Nat} {p : Addr} {x y : V} {σ : L2.St} {H : Hp} {Q : L2.St → Hp → Prop} (h : SqK c K H p [x, y]) (q : Q ((σ.set i (some x)).set j (some y)) H) : gPair K i j (.ref p) σ H Q := by
  cases c
  · exact .inr ⟨p, _, rfl, h, rfl, x, [y], rfl, y, [], rfl, rfl, q⟩
  · exact .inl ⟨p, _, rfl, h, rfl, x, [y], rfl, y, [], rfl, rfl, q⟩
/-- for low, high in rises, the list standing still -/
theorem for_pairs {b c : Bool} {K : PySem.W.Frag} {a : Addr} {ps : List Addr} {rs : Rs} {H0 : Hp} {i1 i2 j : Nat} {tb : TS} {D : Ends} {σ : L2.St} {H : Hp} (hR : Ris b c K H0 a ps rs) (s0 : Same H0 H) (hj : σ[j]? = some (some (.ref a))) (Pv : Nat → L2.St → Hp → Prop) (h0 : Pv 0 σ H) (hq : ∀ i σ H1, Pv i σ H1 → Same H0 H1)
    (hs : ∀ (i : Nat) (l : Int) (h : Option Int) (σ : L2.St) (H1 : Hp), rs[i]? = some (l, h) → Pv i σ H1 → tb { D with nx := Pv (i + 1), ct := Pv (i + 1), bk := D.nx } ((σ.set i1 (some (.int l))).set i2 (some (oV h))) H1)
    (hd : ∀ σ H1, Pv rs.length σ H1 → D.nx σ H1) : tFor (iOr (iList K (tVar j)) (iTup K (tVar j))) (gPair K i1 i2) tb D σ H := by
  refine iSeq_of (b := b) (fun Q q => ⟨_, hj, q⟩) (Z.Same.sqK s0 hR.1) ?_
  refine for_gen (n := rs.length) Pv h0 ?_ ?_ ?_ hd
  · intro i σ1 H1 hi p
    have hi2 : i < ps.length := by rw [hR.2.1]; exact hi
    exact its_go (x := .ref ps[i]) (Z.Same.sqK (hq i σ1 H1 p) hR.1) (by rw [List.getElem?_map, List.getElem?_eq_getElem hi2]; rfl)
  · intro σ1 H1 p
    exact its_stop (Z.Same.sqK (hq _ σ1 H1 p) hR.1) (by rw [List.length_map, hR.2.1]; exact Nat.le_refl _)
  · intro i σ1 H1 x H' hi p y
    have s1 := hq i σ1 H1 p
    obtain ⟨rfl, ex⟩ := its_yld (Z.Same.sqK s1 hR.1) y
    obtain ⟨q, eq, rfl⟩ := of_map ex
    have er : rs[i]? = some (rs[i].1, rs[i].2) := List.getElem?_eq_getElem hi
    exact gpair_of (Z.Same.sqK s1 (hR.2.2 i q _ eq er)) (hs i _ _ σ1 H' er p)
abbrev FnM (K : PySem.W.Frag) (x q : Str) (st : Stmt) (f : Addr) (fd : FuncData) : Prop := FunD K x q (defArgs st) (defBody st) (defScope st) [] [] f fd
theorem fnr_of {P : Program} {w : World} {K : PySem.W.Frag} {mg : Str → Option Value} {base : Heap} {k : Nat} {f : Addr} {fd : FuncData} {ps : List Str} {sp : Sp} (F : FnOk P w K mg base CX0 k f fd ps sp) (b : Binds K fd ps []) : FnR P w K mg base CX0 k f sp := (FnOk.raw (dvs := []) F b .nil).imp fun vs H Q E h => by
  show sp (vs ++ []) H Q E
  rw [List.append_nil]
  exact h
theorem relv_ref {a : Addr} : L2.RelV (.ref a) (.ref a) := rfl
/-- an if that only guards -/
theorem cut_stay {t u : TS} {D : Ends} {σ : L2.St} {H : Hp} (h : t { D with nx := fun σ' H' => σ' = σ ∧ H' = H } σ H) (h2 : u D σ H) : C8.tCut t u D σ H := ⟨_, h, fun σ' H' z => by
  obtain ⟨rfl, rfl⟩ := z
  exact h2⟩
/-- the fields of a need -/
def NeedAt (C : Addr) (K : PySem.W.Frag) (H : Hp) (n : Addr) (st : Option Int) (rs : Rs) (nv : Option Int) : Prop := ∃ dx r ps, H n = some (.ins C dx [("start", oV st), ("rises", .ref r), ("never", oV nv)]) ∧ Ris false false K H r ps rs ∧ H r = some (.tup (ps.map V.ref))
theorem NeedAt.mono {C : Addr} {K : PySem.W.Frag} {H H' : Hp} {n : Addr} {st nv : Option Int} {rs : Rs} (s : Same H H') (h : NeedAt C K H n st rs nv) : NeedAt C K H' n st rs nv := by
  obtain ⟨dx, r, ps, e, h2, h3⟩ := h
  exact ⟨dx, r, ps, s _ _ e, h2.mono s, s _ _ h3⟩
/-- for pair in rises, a tuple standing still -/
theorem for_prs {c : Bool} {K : PySem.W.Frag} {a : Addr} {ps : List Addr} {rs : Rs} {H0 : Hp} {i1 : Nat} {tb : TS} {D : Ends} {σ : L2.St} {H : Hp} (hR : Ris false c K H0 a ps rs) (Pv : Nat → L2.St → Hp → Prop) (h0 : Pv 0 σ H) (hq : ∀ i σ H1, Pv i σ H1 → Same H0 H1)
    (hs : ∀ (i : Nat) (p : Addr) (l : Int) (h : Option Int) (σ : L2.St) (H1 : Hp), rs[i]? = some (l, h) → SqK c K H1 p [.int l, oV h] → Pv i σ H1 → tb { D with nx := Pv (i + 1), ct := Pv (i + 1), bk := D.nx } (σ.set i1 (some (.ref p))) H1)
    (hd : ∀ σ H1, Pv rs.length σ H1 → D.nx σ H1) : forW (Itt K a) (gName i1) tb D σ H := by
  refine for_gen (n := rs.length) Pv h0 ?_ ?_ ?_ hd
  · intro i σ1 H1 hi p
    have hi2 : i < ps.length := by rw [hR.2.1]; exact hi
    exact its_go (b := false) (x := .ref ps[i]) (Z.Same.sqK (hq i σ1 H1 p) hR.1) (by rw [List.getElem?_map, List.getElem?_eq_getElem hi2]; rfl)
  · intro σ1 H1 p
    exact its_stop (b := false) (Z.Same.sqK (hq _ σ1 H1 p) hR.1) (by rw [List.length_map, hR.2.1]; exact Nat.le_refl _)
  · intro i σ1 H1 x H' hi p y
    have s1 := hq i σ1 H1 p
    obtain ⟨rfl, ex⟩ := its_yld (b := false) (Z.Same.sqK s1 hR.1) y
    obtain ⟨q, eq, rfl⟩ := of_map ex
    have er : rs[i]? = some (rs[i].1, rs[i].2) := List.getElem?_eq_getElem hi
    exact hs i q _ _ σ1 H' er (Z.Same.sqK s1 (hR.2.2 i q _ eq er)) p
end Z
set_option Elab.async false
set_option linter.all false
set_option maxRecDepth 100000
set_option maxHeartbeats 4000000
namespace Z
open PySem PySem.Spec PyProof.Rows L2 NdefX
/-! ### an own exception whose __init__ begins with super().__init__(..) -/
/-- what the written part says of it: the function f of the class C (cell cc, code c) -/
structure SupK (P : Program) (K : PySem.W.Frag) (C f c cc : Addr) (fd : FuncData) : Prop where
  lk : ∃ oc od osl, K.lookup f = some ⟨oc, od, .func fd, osl⟩
  code : ∃ (ccl : Value) (cdd : Option Addr) (vs : Array Value) (ccs : Array (Option Value)) (file : Str) (tf : Tok), K.lookup c = some ⟨ccl, cdd, .fields vs, ccs⟩ ∧ vs[2]? = some (.str file tf) ∧ ((P.main.file : Str) == file) = true
  cell : ∃ cl cld csl, K.lookup cc = some ⟨cl, cld, .cell (some (.ref C)), csl⟩
  top : (P.main.scope.names.lookup ("super" : Str)).isSome = false
  mro : PySem.W.mroIn K C (.ref C) = some true
  opq : PySem.W.nsIn K cStatics "thirdparty.any" = some none
  ini : PySem.W.ks_superIn K C C "__init__" = some (some (.builtin "ValueError.__init__"))
  sub : PySem.W.subIn K (.ref C) (.type "ValueError") = some true
  exi : PySem.W.excInitIn K C He.veBase "ValueError.__new__" = true
  oex : OexC K C
section
variable {CX : CXT} {P : Program} {w : World} {K : PySem.W.Frag} {mg : Str → Option Value} {base : Heap} {N ps : List Str} {F : NF} {f C a cc : Addr} {A : Around} {outer : List Env} {s0 s : Shared} {H0 H : Hp} {E : XK} {σ : L2.St}
/-- the bound __init__ called -/
theorem call_mw {X : Cx} {pins : List (Addr × Obj)} {u : Addr} {us : List Value} {Q : Value → Shared → Prop} {E : Value → Shared → Prop} {A : Around} (S : SupK X.prog X.K C f c cc fd) (I : Inv X ((u, PySem.W.kxs_mw "ValueError.__init__" a) :: pins) σ H s) (e : H a = some (exo a C none)) (hz : us.length ≤ sizeLine)
    (h : ∀ s', Inv X ((u, PySem.W.kxs_mw "ValueError.__init__" a) :: pins) σ H s' → Q .none s') : wpAny (model X.prog X.w) A (call (.ref u) us) Q E s := by
  have FB := F.excBase_ValueError
  obtain ⟨nm, N', qn, bs, bm, hdct, sn, sub, ab, col, dd, k0, k1, k2, k3, k5, hC, hT⟩ := PySem.W.excInit_of I.kIn S.exi
  have hu := (I.pin (u, PySem.W.kxs_mw "ValueError.__init__" a) (List.mem_append_right _ (List.mem_cons_self ..))).1
  obtain ⟨t1, he⟩ := exo_at I.hok e
  obtain ⟨hh, g, d, tk, os⟩ := s
  refine wpAny_call (codeAny_of_tree ?_)
  show wpAny _ A.in1 (callAny (.ref u) ⟨us, []⟩) _ _ _
  simp only [callAny]
  refine wpAny_bind (wpAny_load hu ?_)
  simp only [PySem.W.kxs_mw, show (Value.type "method-wrapper" == Value.type "method" || Value.type "method-wrapper" == Value.type "builtin_function_or_method" || Value.type "method-wrapper" == Value.type "method-wrapper") = true by decide, if_true]
  refine PySem.W.KFB.if_so (by decide) ?_
  refine wpAny_bind (PySem.W.check_bound_init FB.toExcCallFacts hC he rfl ?_)
  refine wpAny_bind (wpAny_pure (wpAny_pure ?_))
  refine ⟨plainId_quiet FB.init.plain _, codeAny_builtin FB.initEntry ?_⟩
  refine PySem.W.exc_init_tree (cls := .ref C) (t0 := t1) (dv := none) (c2 := .none) (c3 := .none) (b4 := .bool false) he hz fun h' k hx _ => ?_
  have J := I.write (t' := tk) (x := a) (e := a) (o := exo a C none) (by rw [e]; exact True.intro) (.inl rfl) k ⟨_, hx⟩ (exo_ok hx)
  have eu : upd H a (exo a C none) = H := by
    funext b
    by_cases hb : b = a
    · rw [hb, upd_same, e]
    · rw [upd_ne hb]
  rw [eu] at J
  exact h _ J
/-- super().__init__(e, ..), the first statement -/
theorem super_first {pl : Sem Bool} {fd : FuncData} {ar : Arg} {t : TA} {e : Expr} {es : List Expr} {p0 p1 p2 pos pos2 : Pos} {Qn : Hp → Prop} (S : SupK P K C f F.c cc fd) (hcl : F.cl = [(("__class__" : Str), cc)]) (hp : (fd.params.posonlyargs ++ fd.params.args).head? = some ar)
    (hks : F.scope.names.lookup ("super" : Str) = some .globalImplicit) (hkc : F.scope.names.lookup ("__class__" : Str) = some .free) (hka : F.scope.names.lookup ar.arg = some .local) (hk : F.scope.kind = .function) (m_super : mg "super" = none)
    (hN : N[0]? = some ar.arg) (ha : PA (ncx CX P w K mg base N F f A outer s0 H0 E) (e :: es) t) (I : Inv (ncx CX P w K mg base N F f A outer s0 H0 E) [] σ H s) (hs : σ[0]? = some (some (.ref a))) (hx : H a = some (exo a C none))
    (ht : t σ H fun vs H1 => vs.length ≤ 1000 ∧ H1 a = some (exo a C none) ∧ Qn H1)
    (hint : interactive (ncx CX P w K mg base N F f A outer s0 H0 E).env = false := by rfl) (hsw : swapsWith (.Call (.Attribute (.Call (.Name "super" p0) [] [] p1) "__init__" p2) (e :: es) [] pos) none pos2.line (ncx CX P w K mg base N F f A outer s0 H0 E).env = pure false := by rfl)
    (hev : eval (.Call (.Attribute (.Call (.Name "super" p0) [] [] p1) "__init__" p2) (e :: es) [] pos) (ncx CX P w K mg base N F f A outer s0 H0 E).env = (do
      let ov ← attributeBase (.Call (.Name "super" p0) [] [] p1) "__init__" (ncx CX P w K mg base N F f A outer s0 H0 E).env (eval (.Call (.Name "super" p0) [] [] p1) (ncx CX P w K mg base N F f A outer s0 H0 E).env)
      standAt p2.atName
      let (g, first) ← holding [ov] (getMethod ov "__init__" pl)
      callWith pos g first (backTo pos (starEach (e :: es) (ncx CX P w K mg base N F f A outer s0 H0 E).env)) []) := by rfl)
    (he : starEach (e :: es) (ncx CX P w K mg base N F f A outer s0 H0 E).env = (false, eval e (ncx CX P w K mg base N F f A outer s0 H0 E).env) :: starEach es (ncx CX P w K mg base N F f A outer s0 H0 E).env := by rfl) (hpl : (backTo pos (starEach es (ncx CX P w K mg base N F f A outer s0 H0 E).env)).any (·.1) = false := by rfl) :
    _root_.PySem.wpAt (model P w) (ncx CX P w K mg base N F f A outer s0 H0 E).A (.func F.body (ncx CX P w K mg base N F f A outer s0 H0 E).env) (exec (.Expr (.Call (.Attribute (.Call (.Name "super" p0) [] [] p1) "__init__" p2) (e :: es) [] pos) pos2) (ncx CX P w K mg base N F f A outer s0 H0 E).env)
      (fun fl s' => fl = .next ∧ ∃ H1, Inv (ncx CX P w K mg base N F f A outer s0 H0 E) [] σ H1 s' ∧ H1 a = some (exo a C none) ∧ Qn H1) (ncx CX P w K mg base N F f A outer s0 H0 E).xe s := by
  obtain ⟨oc, od, osl, lkf⟩ := S.lk
  obtain ⟨ccl, cdd, vs, ccs, file, tf, lkc, hvs, hfile⟩ := S.code
  obtain ⟨cl, cld, csl, lkcc⟩ := S.cell
  have KX : K.In s.heap := I.kIn
  obtain ⟨m, hn, hl⟩ := I.loc
  obtain ⟨u, ru, lu⟩ := hl 0 ar.arg (.ref a) hN hs (.inl hka)
  obtain rfl : u = .ref a := ru
  have hma : m ar.arg = some (.ref a) := by
    rcases lu with ⟨_, z⟩ | ⟨z, _⟩
    · exact z
    · rcases z with z | z
      · rw [show (ncx CX P w K mg base N F f A outer s0 H0 E).env.kindOf ar.arg = some .local from hka] at z; cases z
      · rw [show (ncx CX P w K mg base N F f A outer s0 H0 E).env.kindOf ar.arg = some .local from hka] at z; cases z
  obtain ⟨nm, q, NN, bs, bm, sn, sub, ab, col, dd, k0, k1, k2, k3, k5, hC, hbm⟩ := S.oex.cls
  obtain ⟨t1, hox⟩ := exo_at I.hok hx
  refine ks_wpAt_Expr_any (ks_wpAt_MethodCall ?_ hev) hint hsw
  refine ks_wpAt_super_base (env := (ncx CX P w K mg base N F f A outer s0 H0 E).env) (cc := F.c) hks hkc (by decide) rfl (KX _ _ lkf) rfl hp rfl (KX _ _ lkc) rfl hvs hfile S.top ?_
  obtain ⟨mb, h1, h2⟩ := I.mod.blt
  refine PySem.W.ks_loadName_global hk hks (Calls.loadGlobal_builtin (by rw [I.ok.glob]; exact I.mod.glob.keeps I.bk) m_super (by rw [I.ok.blt]; exact h1.keeps I.bk) ((h2 "super" (by decide)).trans (by decide +kernel)) ⟨rfl, ?_⟩)
  refine wpAny_loadName_free hk hkc (c := cc) (by show F.cl.lookup _ = _; rw [hcl]; rfl) ⟨_, KX _ _ lkcc, rfl⟩ ?_
  refine wpAny_loadName_local hk hka hn hma ?_
  refine ks_wpAny_isType_cls (KX _ _ hC) rfl ⟨rfl, ?_⟩
  obtain ⟨hh, g, d, tk, os⟩ := s
  refine ks_wpAny_call_super (KX _ _ hC) rfl hox rfl (fun c z => by cases z) (PySem.W.looks_mroIn KX S.mro) (fun h' eso kso => ?_)
  have I2 : Inv (ncx CX P w K mg base N F f A outer s0 H0 E) [] σ H ⟨h', g, d, tk, os⟩ := I.kept kso
  have KX2 : K.In h' := I2.kIn
  have hox2 := kso _ _ hox
  have IA : PySem.W.InstAt h' a _ C none := ⟨hox2, rfl, rfl, trivial⟩
  have hI : PySem.W.Looks (model P w) h' (isInstance (.ref a) (.type "ValueError")) true := IA.type.andThen (PySem.W.looks_subIn KX2 S.sub)
  have hm := S.ini
  cases hc : PySem.W.clsIn K C with
  | none =>
    unfold PySem.W.ks_superIn at hm
    rw [hc] at hm
    cases hm
  | some cd =>
    unfold PySem.W.ks_superIn at hm
    rw [hc] at hm
    refine PySem.W.kxs_getMethod PySem.W.kxs_ValueError eso (PySem.W.looks_opaque KX2 S.opq) (l₀ := cd.mro) ?_ rfl KX2 hm hI (PySem.W.ks_ne KX2 IA hc) (by decide) ?_
    · exact fun A Q E s k q => wpAny_bind ((PySem.W.looks_clsIn KX2 hc) A _ E s k (wpAny_pure q))
    · have I3 : Inv (ncx CX P w K mg base N F f A outer s0 H0 E) [(h'.objs.size, PySem.W.kxs_mw "ValueError.__init__" a)] σ H ⟨h'.push (PySem.W.kxs_mw "ValueError.__init__" a), g, d, tk + 1, os⟩ := ClX.pin_new I2 (fun b o e => Heap.get?_push_of_some _ e) (Nat.le_refl _) (Heap.get?_push_at rfl rfl) (fun v z => by cases z)
      rw [he]
      refine PySem.W.kxs_callWith (i := "ValueError.__init__") (x := a) (by show (false || (backTo pos (starEach es _)).any (·.1)) = false; rw [hpl]; rfl) ?_
      refine PySem.Calls.evalArgs_plain ?_
      have hrun := ha.run pos _ _ σ H _ I3 ht
      rw [he] at hrun
      refine thn hrun fun us s3 ⟨ws, H3, I4, r, q1, q2, q3⟩ => ?_
      refine ⟨ClX.pin_at I4, ?_⟩
      refine call_mw (X := ncx CX P w K mg base N F f A outer s0 H0 E) S I4 q2 (by show us.length ≤ sizeLine; rw [← r.length]; exact Nat.le_trans q1 (by decide)) fun s' I5 => ⟨rfl, H3, ClX.unpin I5, q2, q3⟩
theorem wpAt_to {M : Model} {A : Around} {c : Code} {α : Type} {m : Sem α} {Q Q' : α → Shared → Prop} {E : Value → Shared → Prop} {s : Shared} (h : _root_.PySem.wpAt M A c m Q E s) (hq : ∀ a s', Q a s' → Q' a s') : _root_.PySem.wpAt M A c m Q' E s := ks_wpAt_mono h hq fun _ _ z => z
/-- THE RULE: such an __init__, the rest of its body by its readings -/
theorem sup_ok {pl : Sem Bool} {fd : FuncData} {dV kV doc pm ct : Value} {an : Option Addr} {ar : Arg} {k : Nat} {sp : Sp} {txt : Str} {j : Nat} {p0 p1 p2 p3 pos pos2 : Pos} {rest : List Stmt} (hfd : fd = PySem.W.fnX F.name F.qual F.params F.body F.scope F.cl dV kV doc pm an (.ref F.c) ct)
    (S : SupK P K C f F.c cc fd) (hcd : PySem.W.codeIn K (.ref F.c) F.qual = true) (NS : NScope N ps ["__class__"] F.scope) (hcl : F.cl = [(("__class__" : Str), cc)]) (hp : (F.params.posonlyargs ++ F.params.args).head? = some ar) (hks : F.scope.names.lookup ("super" : Str) = some .globalImplicit) (m_super : mg "super" = none)
    (hN : N[0]? = some ar.arg) (hka : F.scope.names.lookup ar.arg = some .local)
    (hb : F.body = .Expr (.Call (.Attribute (.Call (.Name "super" p0) [] [] p1) "__init__" p2) [.Constant (.str txt) j p3] [] pos) pos2 :: rest)
    (len : ∀ vs H Q E, sp vs H Q E → vs.length = ps.length) (hself : ∀ vs H Q E, sp vs H Q E → ∃ a vs', vs = .ref a :: vs' ∧ H a = some (exo a C none))
    (hint : ∀ (A : Around) (outer : List Env) (s : Shared) (H : Hp) (E : XK), interactive (ncx CX P w K mg base N F f A outer s H E).env = false)
    (hsw : ∀ (A : Around) (outer : List Env) (s : Shared) (H : Hp) (E : XK), swapsWith (.Call (.Attribute (.Call (.Name "super" p0) [] [] p1) "__init__" p2) [.Constant (.str txt) j p3] [] pos) none pos2.line (ncx CX P w K mg base N F f A outer s H E).env = pure false)
    (hev : ∀ (A : Around) (outer : List Env) (s : Shared) (H : Hp) (E : XK), eval (.Call (.Attribute (.Call (.Name "super" p0) [] [] p1) "__init__" p2) [.Constant (.str txt) j p3] [] pos) (ncx CX P w K mg base N F f A outer s H E).env = (do
      let ov ← attributeBase (.Call (.Name "super" p0) [] [] p1) "__init__" (ncx CX P w K mg base N F f A outer s H E).env (eval (.Call (.Name "super" p0) [] [] p1) (ncx CX P w K mg base N F f A outer s H E).env)
      standAt p2.atName
      let (g, first) ← holding [ov] (getMethod ov "__init__" pl)
      callWith pos g first (backTo pos (starEach [.Constant (.str txt) j p3] (ncx CX P w K mg base N F f A outer s H E).env)) []))
    (hrest : ∀ (A : Around) (outer : List Env) (s : Shared) (H : Hp) (vs : List V) (Q : VK) (E : XK), sp vs H Q E → ∃ t, PSs (ncx CX P w K mg base N F f A outer s H E) rest t ∧ t { nx := fun _ H' => Q .non H', rt := Q } (startF N vs [some (.ref C)]) H) : FnOk P w K mg base CX (k + 1) f fd ps sp := by
  refine ⟨len, fun A outer s H args us vs Q E hr e0 hbn r hsp => ?_⟩
  have hl := len _ _ _ _ hsp
  have KX : K.In s.heap := e0.mod.kin.keeps fun b o e => (e0.bs b o e).1
  have lim : s.heap.NoLimit := e0.mod.nolimit.keeps fun b o e => (e0.bs b o e).1
  obtain ⟨oc, od, osl, lkf⟩ := S.lk
  obtain ⟨cl, cld, csl, lkcc⟩ := S.cell
  have CA : CellsAt F.cl ["__class__"] [some (.ref C)] s.heap H := by
    refine ⟨rfl, fun y c e => ?_, fun x y c e1 e2 => ?_, fun i y e => ?_⟩
    · rw [hcl] at e
      have ec : c = cc := by
        unfold List.lookup at e
        split at e
        · exact (Option.some.inj e).symm
        · cases e
      subst ec
      exact ⟨(e0.bs _ _ (e0.mod.kin _ _ lkcc)).2, _, _, KX _ _ lkcc, rfl⟩
    · rw [hcl] at e1 e2
      have k : ∀ z : Str, ([(("__class__" : Str), cc)] : List (Str × Addr)).lookup z = some c → z = "__class__" := fun z e => by
        unfold List.lookup at e
        split at e
        · next h => exact beq_iff_eq.mp h
        · cases e
      rw [k x e1, k y e2]
    · have ey : y = "__class__" := by
        cases i with
        | zero => exact (Option.some.inj e).symm
        | succ i => cases e
      subst ey
      refine ⟨cc, by rw [hcl]; rfl, fun v hv => ?_⟩
      have ei : i = 0 := by
        cases i with
        | zero => rfl
        | succ i => cases e
      subst ei
      obtain rfl : V.ref C = v := Option.some.inj (Option.some.inj hv)
      exact ⟨.ref C, rfl, _, KX _ _ lkcc, rfl⟩
  subst hfd
  refine ks_codeAny_call_defAt hr.depth (KX _ _ lkf) rfl lim (PySem.W.codeRec_of KX hcd) rfl hbn NS.nocell (fun ⟨n, _⟩ hy => NS.par n (List.of_mem_zip hy).1) (fun h₁ hns kp => ?_) NS.co NS.gen NS.kind
  show _root_.PySem.wpAt _ (ncx CX P w K mg base N F f A outer s H E).A (.func F.body (ncx CX P w K mg base N F f A outer s H E).env) (execs F.body (ncx CX P w K mg base N F f A outer s H E).env) _ (ncx CX P w K mg base N F f A outer s H E).xe _
  have I : Inv (ncx CX P w K mg base N F f A outer s H E) [] (startF N vs [some (.ref C)]) H { s with heap := h₁, toks := s.toks + (ps.zip us).length } := inv_startN NS hr.hd e0 hl r CA hns kp
  obtain ⟨a, vs', rfl, hx⟩ := hself _ _ _ _ hsp
  have hexe : execs F.body (ncx CX P w K mg base N F f A outer s H E).env = execs (.Expr (.Call (.Attribute (.Call (.Name "super" p0) [] [] p1) "__init__" p2) [.Constant (.str txt) j p3] [] pos) pos2 :: rest) (ncx CX P w K mg base N F f A outer s H E).env := by rw [hb]
  rw [hexe]
  refine ks_wpAt_execs_cons (wpAt_to (super_first (Qn := fun H1 => H1 = H) S hcl hp hks (NS.frk _ (List.mem_cons_self ..)) hka NS.kind m_super hN (pa_cons pe_str pa_nil) I rfl hx ⟨by simp, hx, rfl⟩ (hint A outer s H E) (hsw A outer s H E) (hev A outer s H E)) ?_)
  rintro fl s1 ⟨rfl, H1, I1, _, rfl⟩
  obtain ⟨t, ht, hq⟩ := hrest A outer s H1 _ Q E hsp
  refine wpAt_of_wpAny (wpAny_mono (ht.run [] _ _ H1 _ I1 hq) (fun fl s' hs => ?_) fun e s' hs => hs)
  have fin : ∀ {σ' : L2.St} {H' : Hp} {v : V} {u : Value}, Inv (ncx CX P w K mg base N F f A outer s H1 E) [] σ' H' s' → L2.RelV v u → Q v H' → CE outer P w H1 s Q u s' :=
    fun {σ' H' v u} J rv q => ⟨v, H', J.os, J.bare, J.base, J.hok, rv, q⟩
  cases fl with
  | ret u =>
    obtain ⟨v, σ', H', J, rv, q⟩ := hs
    exact fin J rv q
  | next =>
    obtain ⟨σ', H', J, q⟩ := hs
    exact fin (v := V.non) (u := Value.none) J rfl q
  | brk =>
    obtain ⟨_, _, _, q⟩ := hs
    exact False.elim q
  | cont =>
    obtain ⟨_, _, _, q⟩ := hs
    exact False.elim q
end
end Z
set_option Elab.async false
set_option linter.all false
set_option maxRecDepth 100000
set_option maxHeartbeats 4000000
namespace Z
open PySem PySem.Spec PyProof.Rows L2 NdefX
/-! ### class X(..): def __init__(self, v): super().__init__("text"); self.field = v -/
def spEx (C : Addr) (field : Str) : Sp := fun vs H Q _ => ∃ (a : Addr) (v : V), vs = [.ref a, v] ∧ H a = some (exo a C none) ∧ ∀ dx, H dx = none → dx ≠ a → Q .non (upd (upd H dx (exd dx [(field, v)])) a (exo a C (some dx)))
theorem exn_ok {P : Program} {w : World} {K : PySem.W.Frag} {mg : Str → Option Value} {base : Heap} {F : NF} {f C cc : Addr} {pl : Sem Bool} {fd : FuncData} {dV kV doc pm ct : Value} {an : Option Addr} {ar : Arg} {txt v field : Str} {j : Nat} {p0 p1 p2 p3 pos pos2 q1 q2 q3 q4 : Pos} (hfd : fd = PySem.W.fnX F.name F.qual F.params F.body F.scope F.cl dV kV doc pm an (.ref F.c) ct)
    (S : SupK P K C f F.c cc fd) (hcd : PySem.W.codeIn K (.ref F.c) F.qual = true) (NS : NScope ["self", v, "__class__"] ["self", v] ["__class__"] F.scope) (hcl : F.cl = [(("__class__" : Str), cc)]) (hp : (F.params.posonlyargs ++ F.params.args).head? = some ar) (har : ar.arg = "self") (hks : F.scope.names.lookup ("super" : Str) = some .globalImplicit) (m_super : mg "super" = none)
    (hno : PySem.W.findIn K (.ref C) field = some none) (hvd : (v == ("__debug__" : Str)) = false) (hvc : (v == ("__classdict__" : Str)) = false)
    (hb : F.body = [.Expr (.Call (.Attribute (.Call (.Name "super" p0) [] [] p1) "__init__" p2) [.Constant (.str txt) j p3] [] pos) pos2, .Assign [.Attribute (.Name "self" q1) field q2] (.Name v q3) q4])
    (hint : ∀ (A : Around) (outer : List Env) (s : Shared) (H : Hp) (E : XK), interactive (ncx CX0 P w K mg base ["self", v, "__class__"] F f A outer s H E).env = false)
    (hsw : ∀ (A : Around) (outer : List Env) (s : Shared) (H : Hp) (E : XK), swapsWith (.Call (.Attribute (.Call (.Name "super" p0) [] [] p1) "__init__" p2) [.Constant (.str txt) j p3] [] pos) none pos2.line (ncx CX0 P w K mg base ["self", v, "__class__"] F f A outer s H E).env = pure false)
    (hev : ∀ (A : Around) (outer : List Env) (s : Shared) (H : Hp) (E : XK), eval (.Call (.Attribute (.Call (.Name "super" p0) [] [] p1) "__init__" p2) [.Constant (.str txt) j p3] [] pos) (ncx CX0 P w K mg base ["self", v, "__class__"] F f A outer s H E).env = (do
      let ov ← attributeBase (.Call (.Name "super" p0) [] [] p1) "__init__" (ncx CX0 P w K mg base ["self", v, "__class__"] F f A outer s H E).env (eval (.Call (.Name "super" p0) [] [] p1) (ncx CX0 P w K mg base ["self", v, "__class__"] F f A outer s H E).env)
      standAt p2.atName
      let (g, first) ← holding [ov] (getMethod ov "__init__" pl)
      callWith pos g first (backTo pos (starEach [.Constant (.str txt) j p3] (ncx CX0 P w K mg base ["self", v, "__class__"] F f A outer s H E).env)) []))
    (hs2 : ∀ (A : Around) (outer : List Env) (s : Shared) (H : Hp) (E : XK), swapsWith (.Name v q3) (some (.Attribute (.Name "self" q1) field q2)) q4.line (ncx CX0 P w K mg base ["self", v, "__class__"] F f A outer s H E).env = pure false) : FnOk P w K mg base CX0 1 f fd ["self", v] (spEx C field) := by
  refine sup_ok (k := 0) (rest := [.Assign [.Attribute (.Name "self" q1) field q2] (.Name v q3) q4]) hfd S hcd NS hcl hp hks m_super (by rw [har]; rfl) (by rw [har]; exact NS.par _ (List.mem_cons_self ..)) hb (fun vs H Q E h => ?_) (fun vs H Q E h => ?_) hint hsw hev (fun A outer s H vs Q E h => ?_)
  · obtain ⟨a, y, rfl, _⟩ := h
    rfl
  · obtain ⟨a, y, rfl, hx, _⟩ := h
    exact ⟨a, [y], rfl, hx⟩
  · obtain ⟨a, y, rfl, hx, q⟩ := h
    refine ⟨_, pss_one (ps_ost (pe_var (i := 0) rfl (.inl (NS.par _ (List.mem_cons_self ..)))) (pe_var (i := 1) rfl (.inl (NS.par _ (List.mem_cons_of_mem _ (List.mem_cons_self ..)))) hvd hvc) (hs2 A outer s H E)), ?_⟩
    refine ⟨y, rfl, .ref a, rfl, a, C, rfl, S.oex, hno, .inl ⟨hx, fun dx n1 n2 => ?_⟩⟩
    exact q dx n1 n2
/-! ### raise X(e) -/
structure Exn (P : Program) (w : World) (K : PySem.W.Frag) (mg : Str → Option Value) (base : Heap) (x : Str) (C : Addr) (field : Str) : Prop where
  oex : OexC K C
  gl : mg x = some (.ref C)
  ini : ∃ fI fd ps, PySem.W.findIn K (.ref C) "__init__" = some (some (.ref fI)) ∧ PySem.W.typeIn K (.ref fI) = some (.type "function") ∧ FnOk P w K mg base CX0 1 fI fd ps (spEx C field) ∧ Binds K fd ps []
section
variable {X : Cx} {x field : Str} {C : Addr} {j : Nat} {e : Expr} {ta : TA} {p pos pos2 : Pos} {W : WX}
theorem pmk_exn (c : Exn X.prog X.w X.K X.mg X.base x C field) (hr : Room j X.A) (hk : 2 ≤ j) (hg : Gl X x) (ha : PA X [e] ta) (hdb : (x == ("__debug__" : Str)) = false := by decide) (he : starEach [e] X.env = (false, eval e X.env) :: starEach [] X.env := by rfl) (hpl : (backTo pos (starEach [] X.env)).any (·.1) = false := by rfl) :
    PMk X (.Call (.Name x p) [e] [] pos) (tMkO C (spEx C field) [] ta) := by
  obtain ⟨fI, fd, ps, iC, tI, F1, b⟩ := c.ini
  exact pmk_oex (X := X) (pos := pos) (p := p) (dvs := []) c.oex iC tI F1 (hr.mono hk) b .nil pass0 hg c.gl ha hdb he hpl
/-- raise X(e) -/
theorem ps_exn (hc : X.calm = true) (tk : Takes X W) (c : Exn X.prog X.w X.K X.mg X.base x C field) (hr : Room j X.A) (hk : 2 ≤ j) (hg : Gl X x) (ha : PA X [e] ta) (hdb : (x == ("__debug__" : Str)) = false := by decide) (he : starEach [e] X.env = (false, eval e X.env) :: starEach [] X.env := by rfl) (hpl : (backTo pos (starEach [] X.env)).any (·.1) = false := by rfl) :
    PS X (.Raise (some (.Call (.Name x p) [e] [] pos)) none pos2) (fun _ σ H => tMkO C (spEx C field) [] ta σ H fun cls d H' => W cls d σ H') := ps_raise hc tk (pmk_exn c hr hk hg ha hdb he hpl)
end
/-- what is left to show of X(v) -/
theorem mkx_of {C : Addr} {field : Str} {v : V} {H1 : Hp} {Q : XK} (q : ∀ d, H1 d = none → Q (.ref C) (some d) (upd H1 d (.xd [(field, v)]))) :
    [v].length ≤ 1000 ∧ ∀ a, H1 a = none → spEx C field (.ref a :: ([v] ++ [])) (upd H1 a (exo a C none)) (fun v H2 => v = .non ∧ ∃ (d : Addr) (fs : List (Str × V)), H2 a = some (exo a C (some d)) ∧ H2 d = some (exd d fs) ∧ H1 d = none ∧ Q (.ref C) (some d) (upd (del H2 a) d (.xd fs))) (fun _ _ _ => False) := by
  refine ⟨by simp, fun a na => ⟨a, v, rfl, upd_same, fun dx n1 n2 => ⟨rfl, dx, [(field, v)], upd_same, ?_, ?_, ?_⟩⟩⟩
  · rw [upd_ne n2, upd_same]
  · rw [← n1, upd_ne n2]
  · have n3 : H1 dx = none := by rw [← n1, upd_ne n2]
    have e1 : upd (del (upd (upd (upd H1 a (exo a C none)) dx (exd dx [(field, v)])) a (exo a C (some dx))) a) dx (.xd [(field, v)]) = upd H1 dx (.xd [(field, v)]) := by
      funext b
      by_cases hb : b = dx
      · rw [hb, upd_same, upd_same]
      · rw [upd_ne hb, upd_ne hb]
        by_cases ha2 : b = a
        · rw [ha2, del_same, na]
        · rw [del_ne ha2, upd_ne ha2, upd_ne hb, upd_ne ha2]
    rw [e1]
    exact q dx n3
/-! ### calls that may raise -/
structure CalX (P : Program) (w : World) (K : PySem.W.Frag) (mg : Str → Option Value) (base : Heap) (k : Nat) (x : Str) (sp : Sp) : Prop where
  ex : ∃ (f : Addr) (fd : FuncData) (ps : List Str), FnOk P w K mg base (L2.CX P w) k f fd ps sp ∧ mg x = some (.ref f) ∧ PySem.W.keepIn K (.ref f) = true ∧ Binds K fd ps []
structure MakX (P : Program) (w : World) (K : PySem.W.Frag) (mg : Str → Option Value) (base : Heap) (k : Nat) (x : Str) (C : Addr) (sp : Sp) : Prop where
  ex : ∃ (f : Addr) (fd : FuncData) (ps : List Str), Mk K C f ∧ FnOk P w K mg base (L2.CX P w) k f fd ps sp ∧ mg x = some (.ref C) ∧ Binds K fd ps []
structure MetX (P : Program) (w : World) (K : PySem.W.Frag) (mg : Str → Option Value) (base : Heap) (k : Nat) (C : Addr) (m : Str) (sp : Sp) : Prop where
  ex : ∃ (f : Addr) (fd : FuncData) (ps : List Str), Cls K C ∧ Meth K C m f ∧ FnOk P w K mg base (L2.CX P w) k f fd ps sp ∧ Binds K fd ps []
structure CobX (P : Program) (w : World) (K : PySem.W.Frag) (mg : Str → Option Value) (base : Heap) (k : Nat) (C : Addr) (sp : Sp) : Prop where
  ex : ∃ (g : Addr) (fd : FuncData) (ps : List Str), StX.CallO K C g ∧ FnOk P w K mg base (L2.CX P w) k g fd ps sp ∧ Binds K fd ps []
/-- C(e, ..) by its __init__'s promise; what is raised at the slots -/
def tMkW (C : Addr) (sp : Sp) (E : L2.St → XK) (t : TA) : TE := fun σ H Q => t σ H fun vs H1 => ∀ n dx, H1 n = none → H1 dx = none → dx ≠ n → sp (.ref n :: vs) (upd (upd H1 dx (.own n)) n (.ins C dx [])) (fun v H2 => v = .non ∧ Q (.ref n) H2) (E σ)
def tCoW (C : Addr) (sp : Sp) (E : L2.St → XK) (tf : TE) (t : TA) : TE := fun σ H Q => tf σ H fun y H1 => ∃ a, y = V.ref a ∧ t σ H1 fun vs H2 => (∃ dx fs, H2 a = some (.ins C dx fs)) ∧ sp (V.ref a :: vs) H2 Q (E σ)
def tMeW (C : Addr) (m : Str) (sp : Sp) (E : L2.St → XK) (ta : TE) (t : TA) : TE := fun σ H Q => ta σ H fun x H1 => ∃ a dx fs, x = V.ref a ∧ H1 a = some (.ins C dx fs) ∧ List.lookup m fs = none ∧ t σ H1 fun vs H2 => sp (x :: vs) H2 Q (E σ)
section
variable {X : Cx} {k j : Nat} {x m : Str} {sp : Sp} {C : Addr} {p pos apos : Pos} {e o fe : Expr} {es : List Expr} {t : TA} {ta tf : TE} {W : WX} {E : L2.St → XK}
theorem passS0 {σ : L2.St} : PassesAt (L2.CX X.prog X.w) X σ E0 := fun pins H s e s' I c => passL pins σ H s e s' I c
/-- any result of a promise, at the slots -/
theorem back_at {σ : L2.St} {H : Hp} {s : Shared} {pins : List (Addr × Obj)} {Q : VK} {E : XK} {CX : CXT} (hx : PassesAt CX X σ E) (I : Inv X pins σ H s) : ∀ (r : Result) (s' : Shared), CR CX X.stack X.prog X.w H s Q E r s' → match r with
    | .ok (.ret v) => EP X pins σ Q v s'
    | .ok _ => False
    | .error e => X.xe e s'
  | .error e, s', h => hx pins H s e s' I h
  | .ok (.ret u), s', h => I.after h
  | .ok .next, s', h => h
  | .ok .brk, s', h => h
  | .ok .cont, s', h => h
theorem pe_clE (c : CalX X.prog X.w X.K X.mg X.base k x sp) (hx : ∀ σ, PassesAt (L2.CX X.prog X.w) X σ (E σ)) (hr : Room j X.A) (hk : k ≤ j) (hg : Gl X x) (ha : PA X (e :: es) t) (hdb : (x == ("__debug__" : Str)) = false := by decide) (he : starEach (e :: es) X.env = (false, eval e X.env) :: starEach es X.env := by rfl) (hpl : (backTo pos (starEach es X.env)).any (·.1) = false := by rfl) :
    PE X (.Call (.Name x p) (e :: es) [] pos) (tCallS sp E t) := by
  obtain ⟨f, fd, ps, F, hm, kp, b⟩ := c.ex
  exact pe_callS F (hr.mono hk) hg hm kp b hx ha hdb he hpl
theorem pe_mkE (c : MakX X.prog X.w X.K X.mg X.base k x C sp) (hx : ∀ σ, PassesAt (L2.CX X.prog X.w) X σ (E σ)) (hr : Room j X.A) (hk : k + 1 ≤ j) (hg : Gl X x) (ha : PA X (e :: es) t) (hdb : (x == ("__debug__" : Str)) = false := by decide) (he : starEach (e :: es) X.env = (false, eval e X.env) :: starEach es X.env := by rfl) (hpl : (backTo pos (starEach es X.env)).any (·.1) = false := by rfl) :
    PE X (.Call (.Name x p) (e :: es) [] pos) (tMkW C sp E t) := by
  obtain ⟨f, fd, ps, M, F, hm, b⟩ := c.ex
  constructor
  intro pins s σ H Q I h
  refine wpAny_Call_Name_kw (ld_glob I hg hm ?_ hdb)
  refine PySem.W.callWith_K (h₀ := X.base) I.ok.mod.kin M.kp (thn (ha.run pos pins s σ H _ I h) fun us s1 z => ?_) he hpl
  obtain ⟨vs, H1, I1, rr, q⟩ := z
  refine ⟨I1.kIn, ?_⟩
  obtain ⟨n, hn⟩ : ∃ n, n = s1.heap.objs.size := ⟨_, rfl⟩
  have q1 := q (n + 1) n (I1.hok.fresh (by rw [hn]; exact Nat.le_succ _)) (I1.hok.fresh (by rw [hn]; exact Nat.le_refl _)) (Nat.ne_of_lt (Nat.lt_succ_self _))
  subst hn
  have J := Inv.made (C := C) I1
  have r3 : Vals (V.ref (s1.heap.objs.size + 1) :: vs) (Value.ref (s1.heap.objs.size + 1) :: us) := .cons rfl rr
  have b3 := b { s1 with heap := (s1.heap.push PySem.W.emptyDict).push (PySem.W.instObj C s1.heap.objs.size) } (Value.ref (s1.heap.objs.size + 1) :: us) J.kIn (by rw [List.append_nil, ← r3.length]; exact F.len _ _ _ _ q1)
  rw [List.append_nil] at b3
  have run := F.run _ X.stack _ _ _ _ _ _ _ ((hr.mono hk).make C us []) (J.env0.make C us []) b3 r3 q1
  refine wpAny_call (make_map (f := f) I1.kIn M.makes M.init (beq_iff_eq.mp M.fn) (codeAny_mono run fun r s' hq => ?_))
  have z := back_at (hx σ) J r s' hq
  match r, z with
  | .error e, z => exact z
  | .ok (.ret u), ⟨v, H', J', rv, ev, q3⟩ =>
    subst ev
    exact ⟨rv, V.ref (s1.heap.objs.size + 1), H', J', rfl, q3⟩
theorem run_atE {f : Addr} {fd : FuncData} {ps : List Str} {σ : L2.St} {H : Hp} {s : Shared} {pins : List (Addr × Obj)} {Q : VK} {us : List Value} {vs : List V} (F : FnOk X.prog X.w X.K X.mg X.base (L2.CX X.prog X.w) k f fd ps sp) (b : Binds X.K fd ps []) (hx : PassesAt (L2.CX X.prog X.w) X σ (E σ)) (hr : Room k X.A) (I : Inv X pins σ H s) (r : Vals vs us) (h : sp vs H Q (E σ)) :
    codeAny (model X.prog X.w) X.A (.call (.ref f) ⟨us, []⟩) (fun r s' => match r with | .ok (.ret v) => EP X pins σ Q v s' | .ok _ => False | .error e => X.xe e s') s := by
  have b3 := b s us I.kIn (by rw [List.append_nil, ← r.length]; exact F.len _ _ _ _ h)
  rw [List.append_nil] at b3
  exact codeAny_mono (F.run _ X.stack _ _ _ _ _ _ _ hr I.env0 b3 r h) (back_at hx I)
theorem pe_coE (c : CobX X.prog X.w X.K X.mg X.base k C sp) (hf : PE X fe tf) (hx : ∀ σ, PassesAt (L2.CX X.prog X.w) X σ (E σ)) (hr : Room j X.A) (hk : k ≤ j) (ha : PA X (e :: es) t)
    (ht : eval (.Call fe (e :: es) [] pos) X.env = (do callWith pos (← eval fe X.env) [] (backTo pos (starEach (e :: es) X.env)) (backToKw pos (keywordEach [] X.env))) := by rfl)
    (he : starEach (e :: es) X.env = (false, eval e X.env) :: starEach es X.env := by rfl) (hpl : (backTo pos (starEach es X.env)).any (·.1) = false := by rfl) : PE X (.Call fe (e :: es) [] pos) (tCoW C sp E tf t) := by
  obtain ⟨g, fd, ps, co, F, b⟩ := c.ex
  constructor
  intro pins s σ H Q I h
  refine Call_ (thn (hf.run pins s σ H _ I h) fun u s1 ⟨y, H1, I1, ry, a, ey, q⟩ => ?_) ht
  subst ey
  obtain rfl : u = Value.ref a := ry
  refine StX.callO_with (thn (ha.run pos pins s1 σ H1 _ I1 q) fun us s2 z => ?_) he hpl
  obtain ⟨vs, H2, I2, r, hi, q2⟩ := z
  have hi2 : StX.InsC X H2 a C := .inr hi
  obtain ⟨ox, od, J, hd⟩ := StX.insC_at I2 hi2
  exact ⟨⟨C, ox, od, J, hd⟩, wpAny_call (PySem.W.kco_code I2.kIn J hd co.at_ co.fn co.fi (run_atE (vs := .ref a :: vs) (us := .ref a :: us) F b (hx σ) (hr.mono hk) I2 (.cons rfl r) q2))⟩
theorem pe_meE {pl : Sem Bool} (c : MetX X.prog X.w X.K X.mg X.base k C m sp) (ho : PE X o ta) (hx : ∀ σ, PassesAt (L2.CX X.prog X.w) X σ (E σ)) (hr : Room j X.A) (hk : k ≤ j) (ha : PA X (e :: es) t)
    (hst : starEach (e :: es) X.env = (false, eval e X.env) :: starEach es X.env := by rfl) (hpl : (backTo pos (starEach es X.env)).any (·.1) = false := by rfl)
    (ht : eval (.Call (.Attribute o m apos) (e :: es) [] pos) X.env = (do
      let ov ← eval o X.env
      standAt apos.atName
      let (g, first) ← holding [ov] (getMethod ov m pl)
      callWith pos g first (backTo pos (starEach (e :: es) X.env)) (backToKw pos (keywordEach [] X.env))) := by rfl) : PE X (.Call (.Attribute o m apos) (e :: es) [] pos) (tMeW C m sp E ta t) := by
  obtain ⟨f, fd, ps, cl, me, F, b⟩ := c.ex
  constructor
  intro pins s σ H Q I h
  refine PySem.W.methodCall_KW (pl := pl) (thn (ho.run pins s σ H _ I h) fun u s1 z => ?_) ht
  obtain ⟨y, H1, I1, ry, a, dx, fs, ey, ea, l, q⟩ := z
  subst ey
  obtain rfl : u = Value.ref a := ry
  refine getmeth_ok I1 ea cl me l ?_
  refine PySem.W.callWith_K (first := [.ref a]) (h₀ := X.base) I.ok.mod.kin me.kp (thn (ha.run pos pins s1 σ H1 _ I1 q) fun us s2 z => ?_) hst hpl
  obtain ⟨vs, H2, I2, r, q2⟩ := z
  exact ⟨I2.kIn, wpAny_call (run_atE (vs := .ref a :: vs) (us := .ref a :: us) F b (hx σ) (hr.mono hk) I2 (.cons rfl r) q2)⟩
theorem takes_fn {P : Program} {w : World} {K : PySem.W.Frag} {mg : Str → Option Value} {base : Heap} {N : List Str} {qual : Str} {scope : Scope} {f : Addr} {cd : Value} {A : Around} {outer : List Env} {s : Shared} {H : Hp} {E : XK} : Takes (cxOf (L2.CX P w) P w K mg base N qual scope f cd A outer s H E) (fun cls d _ H' => E cls d H') := takes_of rfl rfl rfl rfl
end
end Z
set_option Elab.async false
set_option linter.all false
set_option maxRecDepth 100000
set_option maxHeartbeats 4000000
namespace Z
open PySem PySem.Spec PyProof.Rows L2 NdefX
/-! ### what the head tells of such a class -/
def oexB (K : PySem.W.Frag) (C : Addr) : Bool := (match K.lookup C with
  | some ⟨.type t, _, .cls cd, sl⟩ => (match cd.mro, sl.toList with
    | .ref D :: bm, [_, _, _, _, some (.builtin n), _] => decide (t = "type") && (decide (D = C) && (decide (n = "ValueError.__new__") && (!cd.hasDel && (cd.hasDict && PySem.HandSPX.refsVE bm))))
    | _, _ => false)
  | _ => false) && (He.eqO (PySem.W.findIn K (.ref C) "__setattr__") (some (some (.builtin "object.__setattr__"))) && (decide (PySem.W.subIn K (.ref C) (.type "BaseException") = some true) && (decide (PySem.W.typeIn K (.ref C) = some (.type "type")) && PySem.W.keepIn K (.ref C))))
theorem oexB_ok {K : PySem.W.Frag} {C : Addr} (h : oexB K C = true) : OexC K C := by
  obtain ⟨h0, h⟩ := He.ba h
  obtain ⟨h1, h⟩ := He.ba h
  obtain ⟨h2, h⟩ := He.ba h
  obtain ⟨h3, h4⟩ := He.ba h
  refine ⟨?_, He.eqO_ok h1, of_decide_eq_true h2, of_decide_eq_true h3, h4⟩
  split at h0
  · next t dd cd sl lk =>
    split at h0
    · next D bm a0 a1 a2 a3 n a5 em es =>
      obtain ⟨g1, h0⟩ := He.ba h0
      obtain ⟨g2, h0⟩ := He.ba h0
      obtain ⟨g3, h0⟩ := He.ba h0
      obtain ⟨g4, h0⟩ := He.ba h0
      obtain ⟨g5, g6⟩ := He.ba h0
      have g1 := of_decide_eq_true g1
      have g2 := of_decide_eq_true g2
      have g3 := of_decide_eq_true g3
      subst g1 g2 g3
      obtain ⟨c1, c2, c3, c4, c5, c6, c7, c8, c9, c10, c11⟩ := cd
      have k3 : c3 = .ref D :: bm := em
      have k4 : c11 = false := by
        have z : (!c11) = true := g4
        cases c11
        · rfl
        · cases z
      have k5 : c6 = true := g5
      clear em g4 g5
      subst k3 k4 k5
      refine ⟨c1, c5, c4, c2, bm, c7, c8, c9, c10, dd, a0, a1, a2, a3, a5, ?_, g6⟩
      rw [lk]
      have : sl = #[a0, a1, a2, a3, some (.builtin "ValueError.__new__"), a5] := by
        apply Array.toList_inj.mp
        rw [es]
      rw [this]
    · cases h0
  · cases h0
def initFd (K : PySem.W.Frag) (C : Addr) : Option FuncData := match K.lookup (He.ma K C "__init__") with
  | some ⟨_, _, .func fd, _⟩ => some fd
  | _ => none
abbrev SupV : Type := Option (Str × Str × Arguments × FuncBody × Scope × Addr × List Str × Value × Addr)
def supObs (K : PySem.W.Frag) (x : Str) : SupV := (initFd K (He.ga K x)).map fun fd => (fd.name, fd.qualname, fd.params, fd.body, fd.scope, fd.globals, fd.closure.map (·.1), fd.defaults, fd.builtins)
def supVal (q : Str) (st : Stmt) : SupV := some ("__init__", q, defArgs st, .stmts (defBody st), defScope st, mainGlobals, ["__class__"], .none, builtinsNs)
def supB (fl : Str) (K : PySem.W.Frag) (C : Addr) (q : Str) : Bool := (match initFd K C with
  | some fd => (match fd.code, fd.closure with
    | .ref c, [(_, cc)] => PySem.W.codeIn K (.ref c) q && ((match K.lookup c with
      | some ⟨_, _, .fields vs, _⟩ => (match (vs[2]? : Option Value) with
        | some (.str file _) => fl == file
        | _ => false)
      | _ => false) && (match K.lookup cc with
      | some ⟨_, _, .cell (some (.ref D)), _⟩ => decide (D = C)
      | _ => false))
    | _, _ => false)
  | none => false) && (decide (PySem.W.mroIn K C (.ref C) = some true) && (He.eqO (PySem.W.nsIn K cStatics "thirdparty.any") (some none) && (He.eqO (PySem.W.ks_superIn K C C "__init__") (some (some (.builtin "ValueError.__init__"))) && (decide (PySem.W.subIn K (.ref C) (.type "ValueError") = some true) && (PySem.W.excInitIn K C He.veBase "ValueError.__new__" && oexB K C)))))
theorem sup_of {P : Program} {K : PySem.W.Frag} {x q fl : Str} {st : Stmt} (h1 : supObs K x = supVal q st) (h2 : supB fl K (He.ga K x) q = true) (hfl : ((P.main.file : Str) == fl) = true) (htop : (P.main.scope.names.lookup ("super" : Str)).isSome = false) :
    ∃ (c cc : Addr) (fd : FuncData) (kV doc pm ct : Value) (an : Option Addr), fd = PySem.W.fnX "__init__" q (defArgs st) (defBody st) (defScope st) [(("__class__" : Str), cc)] .none kV doc pm an (.ref c) ct ∧ SupK P K (He.ga K x) (He.ma K (He.ga K x) "__init__") c cc fd ∧ PySem.W.codeIn K (.ref c) q = true := by
  obtain ⟨g0, h2⟩ := He.ba h2
  obtain ⟨g1, h2⟩ := He.ba h2
  obtain ⟨g2, h2⟩ := He.ba h2
  obtain ⟨g3, h2⟩ := He.ba h2
  obtain ⟨g4, h2⟩ := He.ba h2
  obtain ⟨g5, g6⟩ := He.ba h2
  unfold supObs at h1
  cases e : initFd K (He.ga K x) with
  | none =>
    rw [e] at h1
    cases h1
  | some fd =>
    rw [e] at h1 g0
    have lk : ∃ oc od osl, K.lookup (He.ma K (He.ga K x) "__init__") = some ⟨oc, od, .func fd, osl⟩ := by
      unfold initFd at e
      split at e
      · next oc od fd' osl l =>
        cases e
        exact ⟨_, _, _, l⟩
      · cases e
    obtain ⟨n1, n2, n3, n4, n5, n6, n7, n8, n9, n10, n11, n12, n13, n14, n15⟩ := fd
    have h1 : (some (n1, n2, n3, n4, n5, n6, n7.map (·.1), n8, n15) : SupV) = supVal q st := h1
    unfold supVal at h1
    simp only [Option.some.injEq, Prod.mk.injEq] at h1
    obtain ⟨a1, a2, a3, a4, a5, a6, a7, a8, a9⟩ := h1
    subst a1 a2 a3 a4 a5 a6 a8 a9
    dsimp only at g0
    split at g0
    · next c y cc =>
      obtain ⟨b1, g0⟩ := He.ba g0
      obtain ⟨b2, b3⟩ := He.ba g0
      have ey : y = "__class__" := by
        have := a7
        simpa using this
      subst ey
      refine ⟨c, cc, _, _, _, _, _, _, rfl, ⟨lk, ?_, ?_, htop, of_decide_eq_true g1, He.eqO_ok g2, He.eqO_ok g3, of_decide_eq_true g4, g5, oexB_ok g6⟩, b1⟩
      · split at b2
        · next u1 u2 vs u3 l =>
          split at b2
          · next file tf ev =>
            refine ⟨_, _, vs, _, file, tf, l, ev, ?_⟩
            rw [beq_iff_eq.mp b2] at hfl
            exact hfl
          · cases b2
        · cases b2
      · split at b3
        · next u1 u2 D u3 l =>
          have := of_decide_eq_true b3
          subst this
          exact ⟨_, _, _, l⟩
        · cases b3
    · cases g0
end Z
set_option Elab.async false
set_option linter.all false
set_option maxRecDepth 100000
set_option maxHeartbeats 4000000
namespace Z
open PySem PySem.Spec PyProof.Rows L2 NdefX
/-! ### isinstance(e, c), e a caught error with a dict of its own -/
def rIsX (K : PySem.W.Frag) (a : Addr) (cls : Value) (d : Option Addr) : List V → Hp → VK → Prop := fun xs H Q => ∃ (D dd : Addr) (fs : List (Str × V)) (c : V) (cv : Value) (b : Bool), cls = .ref D ∧ d = some dd ∧ ExcC K D ∧ H dd = some (.xd fs) ∧ xs = [.ref a, c] ∧ (∀ u, RelV c u → u = cv) ∧ PySem.W.kitOne K (.ref D) cv = some b ∧ Q (.bl b) H
theorem call_isX {X : Cx} {a : Addr} {cls : Value} {d : Option Addr} {oe : Obj} {pn : List (Addr × Obj)} (hz : Zc cls d oe) (hf : ∃ vs, oe.data = .fields vs) : CallR (X.suite a ((a, oe) :: pn)) (.builtin "isinstance") (rIsX X.K a cls d) := by
  intro pins s σ H xs us Q I r h
  obtain ⟨D, dd, fs, c, cv, b, rfl, rfl, C, ed, rfl, hcv, e, q⟩ := h
  obtain ⟨u1, u2, rfl, r1, r2⟩ := vals2 r
  cases r1
  have ec := hcv _ r2
  subst ec
  obtain ⟨hget, _⟩ := I.pin (a, oe) (List.mem_append.mpr (.inl List.mem_cons_self))
  obtain ⟨vs, hv⟩ := hf
  have hx : ObjOk X.prog X.w H s.heap dd (.xd fs) := I.hok dd _ ed
  obtain ⟨mA, hns, hr⟩ := hx
  obtain ⟨od, ho, hl⟩ := lookIn_ns hns
  have J : PySem.W.InstAt s.heap a oe D (some od) := ⟨hget, hz.1, by unfold PySem.W.notCls; rw [hv] <;> rfl, by rw [hz.2]; exact ho⟩
  have hcl : (PySem.W.clsIn X.K D).isSome = true := by
    obtain ⟨cd, hc, _⟩ := PySem.W.any_some C.hd
    rw [hc]
    rfl
  exact PySem.W.kia_one (PySem.W.kitx_exc hcl C.hg C.hk C.hs C.ha C.hn C.ht C.hm) I.kIn J e (fun z => nomatch z) fun tk => ⟨.bl b, H, I.kept (t' := tk) fun _ _ z => z, rfl, q⟩
end Z
set_option Elab.async false
set_option linter.all false
set_option maxRecDepth 100000
set_option maxHeartbeats 4000000
namespace Z
open PySem PySem.Spec PyProof.Rows L2 NdefX
/-! ### the head with own exceptions: facts of defs and classes, one more Bool, the __init__s -/
def asX (g : Addr → Option Obj) (n : Nat) : List Addr := He.asD g n ++ [cStatics]
def hookX (n : Nat) (fa : List He.Fa) (fn : List He.DefD) (xs : List Str) (vs : List SupV) (ex : PySem.W.Frag → Bool) : PySem.W.Hook where
  α := He.AlD × (List SupV × Bool)
  obs := fun s => (He.obsD fa fn (He.frG s.heap.get? (asX s.heap.get? n)), xs.map (supObs (He.frG s.heap.get? (asX s.heap.get? n))), ex (He.frG s.heap.get? (asX s.heap.get? n)))
  val := fun _ => (He.valD fn, vs, true)
  says := fun _ h => ∃ K : PySem.W.Frag, K.In h ∧ He.SaysD fa fn K ∧ xs.map (supObs K) = vs ∧ ex K = true
  of := fun _ _ e => ⟨_, He.frG_in, congrArg (fun z : He.AlD × (List SupV × Bool) => z.1) e, congrArg (fun z : He.AlD × (List SupV × Bool) => z.2.1) e, congrArg (fun z : He.AlD × (List SupV × Bool) => z.2.2) e⟩
  keeps := fun _ _ _ ⟨K, hK, c⟩ k => ⟨K, PySem.W.Frag.In.keeps hK k, c⟩
def obX (n : Nat) (fa : List He.Fa) (fn : List He.DefD) (xs : List Str) (ex : PySem.W.Frag → Bool) (g : Addr → Option Obj) : He.AlD × (List SupV × Bool) := (He.obsD fa fn (He.frG g (asX g n)), xs.map (supObs (He.frG g (asX g n))), ex (He.frG g (asX g n)))
theorem obX_eq {n : Nat} {fa : List He.Fa} {fn : List He.DefD} {xs : List Str} {vs : List SupV} {ex : PySem.W.Frag → Bool} {g : Addr → Option Obj} {s : Shared} (h : ∀ a, g a = s.heap.get? a) : obX n fa fn xs ex g = (hookX n fa fn xs vs ex).obs s := by
  have e : g = s.heap.get? := funext h
  rw [e] <;> rfl
theorem sup_at {xs : List Str} {vs : List SupV} {K : PySem.W.Frag} (e : xs.map (supObs K) = vs) (i : Nat) {x : Str} {v : SupV} (h1 : xs[i]? = some x := by rfl) (h2 : vs[i]? = some v := by rfl) : supObs K x = v := by
  have := congrArg (fun z : List SupV => z[i]?) e
  simp only [List.getElem?_map, h1, h2] at this
  exact Option.some.inj this
def excB (K : PySem.W.Frag) (D : Addr) : Bool := He.eqO (PySem.W.findIn K (.ref D) "__getattribute__") (some (some (.builtin "BaseException.__getattribute__"))) && (He.eqO (PySem.W.findIn K (.ref D) "__getattr__") (some none) && (decide (PySem.W.subIn K (.ref D) (.type "BaseException") = some true) && (PySem.W.hasDictIn K D && (He.eqO (PySem.W.findIn K (.ref D) "__class__") (some (some (.builtin "object.__class__"))) && (He.eqO (PySem.W.specialIn K (.builtin "object.__class__") "__get__") (some (some (.builtin "getset_descriptor.__get__"))) && (decide (PySem.W.takesIn K (.builtin "object.__class__") = some true) && decide (PySem.W.mroIn K D (.type "object") = some true)))))))
theorem excB_ok {K : PySem.W.Frag} {D : Addr} (h : excB K D = true) : ExcC K D ∧ XfC K D := by
  obtain ⟨h1, h⟩ := He.ba h
  obtain ⟨h2, h⟩ := He.ba h
  obtain ⟨h3, h⟩ := He.ba h
  obtain ⟨h4, h⟩ := He.ba h
  obtain ⟨h5, h⟩ := He.ba h
  obtain ⟨h6, h⟩ := He.ba h
  obtain ⟨h7, h8⟩ := He.ba h
  exact ⟨⟨He.eqO_ok h1, He.eqO_ok h2, of_decide_eq_true h3, h4, He.eqO_ok h5, He.eqO_ok h6, of_decide_eq_true h7, of_decide_eq_true h8⟩, ⟨He.eqO_ok h1, He.eqO_ok h2, of_decide_eq_true h3, h4⟩⟩
/-- an own exception class with the field -/
def exnB (fl q field : Str) (K : PySem.W.Frag) (C : Addr) : Bool := supB fl K C q && (He.eqO (PySem.W.findIn K (.ref C) "__init__") (some (some (.ref (He.ma K C "__init__")))) && (decide (PySem.W.typeIn K (.ref (He.ma K C "__init__")) = some (.type "function")) && (He.eqO (PySem.W.findIn K (.ref C) field) (some none) && excB K C)))
structure ExnF (K : PySem.W.Frag) (C : Addr) (q field fl : Str) : Prop where
  sup : supB fl K C q = true
  ini : PySem.W.findIn K (.ref C) "__init__" = some (some (.ref (He.ma K C "__init__")))
  ty : PySem.W.typeIn K (.ref (He.ma K C "__init__")) = some (.type "function")
  no : PySem.W.findIn K (.ref C) field = some none
  ec : ExcC K C
  xf : XfC K C
theorem exnB_ok {fl q field : Str} {K : PySem.W.Frag} {C : Addr} (h : exnB fl q field K C = true) : ExnF K C q field fl := by
  obtain ⟨h1, h⟩ := He.ba h
  obtain ⟨h2, h⟩ := He.ba h
  obtain ⟨h3, h⟩ := He.ba h
  obtain ⟨h4, h5⟩ := He.ba h
  exact ⟨h1, He.eqO_ok h2, of_decide_eq_true h3, He.eqO_ok h4, (excB_ok h5).1, (excB_ok h5).2⟩
def exmB (K : PySem.W.Frag) (a b : Addr) : Bool := decide (PySem.W.exmOne K (.ref a) (.ref b) = some true)
def kitVB (K : PySem.W.Frag) (a : Addr) (v : Value) (b : Bool) : Bool := decide (PySem.W.kitOne K (.ref a) v = some b)
end Z
set_option Elab.async false
set_option linter.all false
set_option maxRecDepth 100000
set_option maxHeartbeats 4000000
namespace Z
open Nd
open PySem PySem.Spec PyProof.Rows L2
open C8 (pss_cut tCut)
local macro_rules | `(tactic| walk_at "num") => `(tactic| first | rfl | omega | decide | exact Nat.le_of_lt (small1000 (by simp)) | exact ⟨by omega, by omega⟩ | exact ⟨by omega, by omega, by omega⟩ | exact ⟨by decide, by decide, by decide⟩ | exact Or.inl ⟨by omega, by omega⟩ | exact Or.inr ⟨by omega, by omega⟩)
local macro_rules | `(tactic| walk_at "go") => `(tactic| repeat (first | refine ⟨_, rfl, ?_⟩ | refine ⟨_, _, rfl, rfl, ?_⟩ | refine ⟨_, _, rfl, ?_⟩ | refine ⟨_, _, rfl, rfl, (by walk_at "num"), ?_⟩ | refine Or.inl ⟨_, rfl, ?_⟩ | refine ⟨_, _, _, _, rfl, rfl, (by assumption), (by rfl), ?_⟩ | refine ⟨_, _, _, _, _, rfl, (by assumption), (by assumption), (by assumption), (by rfl), ?_⟩ | refine ⟨rfl, ?_⟩ | refine And.intro (by walk_at "num") ?_))
abbrev s_value_at : Stmt := topS 7
abbrev N_value_at : List Str := ["start", "rises", "k", "value", "low", "high", "top"]
abbrev P_value_at : List Str := ["start", "rises", "k"]
theorem sc_value_at : FnScope N_value_at P_value_at (defScope s_value_at) := ⟨rfl, rfl, rfl, by decide +kernel, rfl, by decide +kernel, by decide +kernel⟩
abbrev s_greatest_value : Stmt := topS 16
abbrev N_greatest_value : List Str := ["start", "rises", "top", "edge", "low", "high"]
abbrev P_greatest_value : List Str := ["start", "rises"]
theorem sc_greatest_value : FnScope N_greatest_value P_greatest_value (defScope s_greatest_value) := ⟨rfl, rfl, rfl, by decide +kernel, rfl, by decide +kernel, by decide +kernel⟩
abbrev s_Need___init__ : Stmt := inClass (topS 17) 0
abbrev N_Need___init__ : List Str := ["self", "start", "rises", "never", "top", "low", "high"]
abbrev P_Need___init__ : List Str := ["self", "start", "rises", "never"]
theorem sc_Need___init__ : FnScope N_Need___init__ P_Need___init__ (defScope s_Need___init__) := ⟨rfl, rfl, rfl, by decide +kernel, rfl, by decide +kernel, by decide +kernel⟩
abbrev s_Need_value_for : Stmt := inClass (topS 17) 1
abbrev N_Need_value_for : List Str := ["self", "k"]
abbrev P_Need_value_for : List Str := ["self", "k"]
theorem sc_Need_value_for : FnScope N_Need_value_for P_Need_value_for (defScope s_Need_value_for) := ⟨rfl, rfl, rfl, by decide +kernel, rfl, by decide +kernel, by decide +kernel⟩
abbrev s_Need___call__ : Stmt := inClass (topS 17) 2
abbrev N_Need___call__ : List Str := ["self", "needed"]
abbrev P_Need___call__ : List Str := ["self", "needed"]
theorem sc_Need___call__ : FnScope N_Need___call__ P_Need___call__ (defScope s_Need___call__) := ⟨rfl, rfl, rfl, by decide +kernel, rfl, by decide +kernel, by decide +kernel⟩
abbrev s_Need___eq__ : Stmt := inClass (topS 17) 3
abbrev N_Need___eq__ : List Str := ["self", "other"]
abbrev P_Need___eq__ : List Str := ["self", "other"]
theorem sc_Need___eq__ : FnScope N_Need___eq__ P_Need___eq__ (defScope s_Need___eq__) := ⟨rfl, rfl, rfl, by decide +kernel, rfl, by decide +kernel, by decide +kernel⟩
section
variable {P : Program} {w : World} {K : PySem.W.Frag} {mg : Str → Option Value} {base : Heap} {f C : Addr} {fd : FuncData}
/-! ### value_at -/
def spValueAt (K : PySem.W.Frag) : Sp := fun vs H Q _ => ∃ (b c : Bool) (s k : Int) (r : Addr) (ps : List Addr) (rs : Rs), vs = [.int s, .ref r, .int k] ∧ Ris b c K H r ps rs ∧ Good (-1) rs ∧ Q (.int (s + Fs rs k)) H
theorem ok_value_at (F : FnP K "value_at" s_value_at f fd) : FnOk P w K mg base CX0 1 f fd P_value_at (spValueAt K) := by
  refine F.ok sc_value_at (fun vs H Q E h => ?_) (fun cdv A outer s H vs Q E hr h => ?_)
  · obtain ⟨b, c, s, k, r, ps, rs, rfl, _⟩ := h
    rfl
  · obtain ⟨b, c, s, k, r, ps, rs, rfl, hR, hg, q⟩ := h
    refine ⟨_, PSs.nox (pss_cons (ps_set (i := 3) sc_value_at.nd rfl (by first | exact .inl rfl | exact .inr rfl) (pv 0))
      (pss_cons (ps_for PassesOwn.never rfl (pi_seq (pv 1)) (pg_or (pg_unl rfl (pgs_cons (pg_name (i := 4) sc_value_at.nd rfl (by first | exact .inl rfl | exact .inr rfl)) (pgs_cons (pg_name (i := 5) sc_value_at.nd rfl (by first | exact .inl rfl | exact .inr rfl)) pgs_nil))) (pg_tup rfl (pgs_cons (pg_name (i := 4) sc_value_at.nd rfl (by first | exact .inl rfl | exact .inr rfl)) (pgs_cons (pg_name (i := 5) sc_value_at.nd rfl (by first | exact .inl rfl | exact .inr rfl)) pgs_nil))))
        (pss_cons (ps_if (pt_cmpR op_le (pv 2) (pv 4) (nomark _)) (pss_one ps_break) pss_nil)
      (pss_cons (ps_set (i := 6) sc_value_at.nd rfl (by first | exact .inl rfl | exact .inr rfl) (pe_ifExp (PW.pt (pw_or (pt_cmpR op_isN (pv 5) pe_non (nomark _)) (pw_or1 (pt_cmpR op_lt (pv 2) (pv 5) (nomark _))))) (pv 2) (pv 5)))
      (pss_one (ps_set (i := 3) sc_value_at.nd rfl (by first | exact .inl rfl | exact .inr rfl) (pe_op op_sub (pe_op op_add (pv 3) (pv 6)) (pv 4)))))))
      (pss_one (ps_ret (pv 3))))), ?_⟩
    walk_at "go"
    refine for_pairs (j := 1) hR (Same.refl H) (by rfl) (fun i σ H1 => H1 = H ∧ ∃ (x : Int) (v4 v5 v6 : Option V), x = s + Fs (rs.take i) k ∧ σ = [some (.int s), some (.ref r), some (.int k), some (.int x), v4, v5, v6]) ⟨rfl, s, none, none, none, ?_, rfl⟩ ?_ ?_ ?_
    · rw [List.take_zero, Fs_nil, Int.add_zero]
    · rintro i σ H1 ⟨rfl, _⟩
      exact Same.refl _
    · rintro i l h σ H1 hi ⟨rfl, x, v4, v5, v6, ex, rfl⟩
      walk_at "go"
      refine ite2 (fun e => ?_) (fun e => ?_)
      · have hk : k ≤ l := of_decide_eq_true e
        refine ⟨_, rfl, ?_⟩
        rw [ex, ← Fs_stop hg hi hk]
        exact q
      · have hk : ¬ k ≤ l := fun z => e (decide_eq_true z)
        have et := Fs_take (k := k) hi
        cases h with
        | none =>
          rw [rise_none (by omega)] at et
          walk_at "go"
          refine ⟨_, _, _, _, ?_, rfl⟩
          omega
        | some y =>
          rw [rise_some (by omega)] at et
          walk_at "go"
          refine ite2 (fun e2 => ?_) (fun e2 => ?_)
          · have hx : k < y := of_decide_eq_true e2
            rw [if_pos hx] at et
            walk_at "go"
            refine ⟨_, _, _, _, ?_, rfl⟩
            omega
          · have hx : ¬ k < y := fun z => e2 (decide_eq_true z)
            rw [if_neg hx] at et
            walk_at "go"
            refine ⟨_, _, _, _, ?_, rfl⟩
            omega
    · rintro σ H1 ⟨rfl, x, v4, v5, v6, ex, rfl⟩
      rw [List.take_length] at ex
      walk_at "go"
      rw [ex]
      exact q
/-! ### greatest_value -/
def tops : Option Int → Rs → Option Int
  | none, _ => none
  | some s, rs => top s rs
def chk : Option Int → Rs → Bool
  | _, [] => true
  | none, _ :: _ => false
  | some e, (l, h) :: r => decide (e < l) && ((match h with
    | none => true
    | some y => decide (l < y)) && chk h r)
def hok (l : Int) : Option Int → Bool
  | none => true
  | some y => decide (l < y)
theorem chk_cons (e l : Int) (h : Option Int) (r : Rs) : chk (some e) ((l, h) :: r) = (decide (e < l) && (hok l h && chk h r)) := by
  cases h <;> rfl
theorem chk_good : ∀ {rs : Rs} {e : Int}, chk (some e) rs = true → Good e rs
  | [], _, _ => trivial
  | (l, none) :: [], e, h => by
    have h : (decide (e < l) && (true && true)) = true := h
    exact ⟨by simpa using h, rfl⟩
  | (l, none) :: _ :: _, e, h => by
    have h : (decide (e < l) && (true && false)) = true := h
    simp at h
  | (l, some y) :: r, e, h => by
    have h : (decide (e < l) && (decide (l < y) && chk (some y) r)) = true := h
    obtain ⟨h1, h2⟩ := Bool.and_eq_true_iff.mp h
    obtain ⟨h2, h3⟩ := Bool.and_eq_true_iff.mp h2
    exact ⟨of_decide_eq_true h1, of_decide_eq_true h2, chk_good h3⟩
theorem good_chk : ∀ {rs : Rs} {e : Int}, Good e rs → chk (some e) rs = true
  | [], _, _ => rfl
  | (l, none) :: r, e, g => by
    obtain ⟨g1, rfl⟩ := g
    show (decide (e < l) && (true && true)) = true
    simp [g1]
  | (l, some y) :: r, e, g => by
    show (decide (e < l) && (decide (l < y) && chk (some y) r)) = true
    simp [g.1, g.2.1, good_chk g.2.2]
def fits (st : Option Int) (rs : Rs) : Bool := match st with
  | none => rs.isEmpty
  | some _ => chk (some (-1)) rs
def spGreatest (CN : Addr) (K : PySem.W.Frag) : Sp := fun vs H Q E => ∃ (b c : Bool) (st : Option Int) (r : Addr) (ps : List Addr) (rs : Rs), vs = [oV st, .ref r] ∧ Ris b c K H r ps rs ∧ (fits st rs = true → Q (oV (tops st rs)) H) ∧ (fits st rs = false → ∀ d, H d = none → E (.ref CN) (some d) (upd H d (.xd [("field", .str "rises")])))
theorem ok_greatest_value {CN : Addr} (F : FnP K "greatest_value" s_greatest_value f fd) (m_len : mg "len" = none) (x_BadNeed : Exn P w K mg base "BadNeed" CN "field") : FnOk P w K mg base (L2.CX P w) 3 f fd P_greatest_value (spGreatest CN K) := by
  refine F.ok sc_greatest_value (fun vs H Q E h => ?_) (fun cdv A outer s H vs Q E hr h => ?_)
  · obtain ⟨b, c, st, r, ps, rs, rfl, _⟩ := h
    rfl
  · obtain ⟨b, c, st, r, ps, rs, rfl, hR, q, qe⟩ := h
    have tk := takes_fn (P := P) (w := w) (K := K) (mg := mg) (base := base) (N := N_greatest_value) (qual := "greatest_value") (scope := defScope s_greatest_value) (f := f) (cd := cdv) (A := A) (outer := outer) (s := s) (H := H) (E := E)
    refine ⟨_, (pss_cons (ps_if (pt_cmpR op_isN (pv 0) pe_non (nomark _)) (pss_cons (ps_if (pt_cmpR op_gt (pe_callB call_len_seq (by rfl) m_len PySem.boot_len (pa_cons (pv 1) pa_nil)) pe_int (nomark _)) (pss_one (ps_exn rfl tk x_BadNeed hr (by decide) (by rfl) (pa_cons pe_str pa_nil))) pss_nil)
      (pss_one (ps_ret pe_non))) pss_nil)
      (pss_cons (ps_par (i := 2) (j := 3) (by rfl) sc_greatest_value.nd rfl rfl (by decide) rfl rfl (pa_cons (pv 0) (pa_cons (pe_un un_neg pe_int) pa_nil)) (by rfl))
      (pss_cons (ps_for (passes_of rfl) rfl (pi_seq (pv 1)) (pg_or (pg_unl rfl (pgs_cons (pg_name (i := 4) sc_greatest_value.nd rfl (by first | exact .inl rfl | exact .inr rfl)) (pgs_cons (pg_name (i := 5) sc_greatest_value.nd rfl (by first | exact .inl rfl | exact .inr rfl)) pgs_nil))) (pg_tup rfl (pgs_cons (pg_name (i := 4) sc_greatest_value.nd rfl (by first | exact .inl rfl | exact .inr rfl)) (pgs_cons (pg_name (i := 5) sc_greatest_value.nd rfl (by first | exact .inl rfl | exact .inr rfl)) pgs_nil))))
        (pss_cons (ps_if (PW.pt (pw_or (pt_cmpR op_isN (pv 3) pe_non (nomark _)) (pw_or (pt_cmpR op_le (pv 4) (pv 3) (nomark _)) (pw_or1 (PW.pt (pw_and (pt_cmpR op_notN (pv 5) pe_non (nomark _)) (pw_and1 (pt_cmpR op_le (pv 5) (pv 4) (nomark _))))))))) (pss_one (ps_exn rfl tk x_BadNeed hr (by decide) (by rfl) (pa_cons pe_str pa_nil))) pss_nil)
      (pss_cons (ps_set (i := 2) sc_greatest_value.nd rfl (by first | exact .inl rfl | exact .inr rfl) (pe_ifExp (pt_cmpR op_isN (pv 5) pe_non (nomark _)) pe_non (pe_op op_sub (pe_op op_add (pv 2) (pv 5)) (pv 4))))
      (pss_one (ps_set (i := 3) sc_greatest_value.nd rfl (by first | exact .inl rfl | exact .inr rfl) (pv 5))))))
      (pss_one (ps_ret (pv 2)))))), ?_⟩
    cases st with
    | none =>
      walk_at "go"
      refine ⟨r, _, rfl, hR.1.or, ?_⟩
      rw [List.length_map, hR.2.1]
      walk_at "go"
      refine ite2 (fun e => ?_) (fun e => ?_)
      · have hl : fits none rs = false := by
          cases rs with
          | nil => cases of_decide_eq_true e
          | cons _ _ => rfl
        exact mkx_of (qe hl)
      · have hl : fits none rs = true := by
          cases rs with
          | nil => rfl
          | cons _ _ =>
            refine absurd (decide_eq_true ?_) e
            show (0 : Int) < ((_ + 1 : Nat) : Int)
            omega
        walk_at "go"
        exact q hl
    | some s =>
      walk_at "go"
      refine for_pairs (j := 1) hR (Same.refl H) (by rfl) (fun i σ H1 => H1 = H ∧ ∃ (t e : Option Int) (v4 v5 : Option V), σ = [some (.int s), some (.ref r), some (oV t), some (oV e), v4, v5] ∧ chk e (rs.drop i) = chk (some (-1)) rs ∧ match t, e with
        | some t, some _ => top t (rs.drop i) = top s rs
        | none, none => top s rs = none
        | _, _ => False) ⟨rfl, some s, some (-1), none, none, rfl, rfl, rfl⟩ ?_ ?_ ?_
      · rintro i σ H1 ⟨rfl, _⟩
        exact Same.refl _
      · rintro i l h σ H1 hi ⟨rfl, t, e, v4, v5, rfl, zc, z⟩
        have hd : rs.drop i = (l, h) :: rs.drop (i + 1) := by
          rw [List.drop_eq_getElem?_toList_append, hi]
          rfl
        rw [hd] at z zc
        cases e with
        | none =>
          have hb : fits (some s) rs = false := zc.symm
          walk_at "go"
          exact (mkx_of (qe hb)).2
        | some e =>
          cases t with
          | none => cases z
          | some t =>
            rw [chk_cons] at zc
            walk_at "go"
            refine ite2 (fun e1 => ?_) (fun e1 => ?_)
            · have h1 : l ≤ e := of_decide_eq_true e1
              have hb : fits (some s) rs = false := by
                rw [decide_eq_false (by omega)] at zc
                exact zc.symm
              walk_at "go"
              exact (mkx_of (qe hb)).2
            · have h1 : ¬ l ≤ e := fun z => e1 (decide_eq_true z)
              rw [decide_eq_true (by omega), Bool.true_and] at zc
              cases h with
              | none =>
                walk_at "go"
                exact ⟨none, none, _, _, rfl, zc, z.symm⟩
              | some y =>
                walk_at "go"
                refine ite2 (fun e2 => ?_) (fun e2 => ?_)
                · have h2 : y ≤ l := of_decide_eq_true e2
                  have hb : fits (some s) rs = false := by
                    have zc : (decide (l < y) && chk (some y) (rs.drop (i + 1))) = chk (some (-1)) rs := zc
                    rw [decide_eq_false (by omega)] at zc
                    exact zc.symm
                  walk_at "go"
                  exact (mkx_of (qe hb)).2
                · have h2 : ¬ y ≤ l := fun z => e2 (decide_eq_true z)
                  have zc : (decide (l < y) && chk (some y) (rs.drop (i + 1))) = chk (some (-1)) rs := zc
                  rw [decide_eq_true (by omega), Bool.true_and] at zc
                  walk_at "go"
                  exact ⟨some (t + y - l), some y, _, _, rfl, zc, z⟩
      · rintro σ H1 ⟨rfl, t, e, v4, v5, rfl, zc, z⟩
        rw [List.drop_length] at z zc
        have hb : fits (some s) rs = true := by
          rw [← show chk e [] = fits (some s) rs from zc]
          cases e <;> rfl
        walk_at "go"
        have et : t = top s rs := by
          cases e with
          | none =>
            cases t with
            | none => exact z.symm
            | some t => cases z
          | some e =>
            cases t with
            | none => cases z
            | some t => exact z
        rw [et]
        exact q hb
end
end Z
set_option Elab.async false
set_option linter.all false
set_option maxRecDepth 100000
set_option maxHeartbeats 4000000
namespace Z
open Nd
open PySem PySem.Spec PyProof.Rows L2
open C8 (pss_cut tCut)
local macro_rules | `(tactic| walk_at "num") => `(tactic| first | rfl | omega | decide | exact Nat.le_of_lt (small1000 (by simp)) | exact ⟨by omega, by omega⟩ | exact ⟨by omega, by omega, by omega⟩ | exact ⟨by decide, by decide, by decide⟩ | exact Or.inl ⟨by omega, by omega⟩ | exact Or.inr ⟨by omega, by omega⟩)
local macro_rules | `(tactic| walk_at "go") => `(tactic| repeat (first | refine ⟨_, rfl, ?_⟩ | refine ⟨_, _, rfl, rfl, ?_⟩ | refine ⟨_, _, rfl, ?_⟩ | refine ⟨_, _, rfl, rfl, (by walk_at "num"), ?_⟩ | refine Or.inl ⟨_, rfl, ?_⟩ | refine ⟨_, _, _, _, rfl, rfl, (by assumption), (by rfl), ?_⟩ | refine ⟨_, _, _, _, _, rfl, (by assumption), (by assumption), (by assumption), (by rfl), ?_⟩ | refine ⟨rfl, ?_⟩ | refine And.intro (by walk_at "num") ?_))
/-- the comprehension that copies the pairs -/
theorem lc_copy {b c : Bool} {K : PySem.W.Frag} {a D : Addr} {ps : List Addr} {rs : Rs} {H0 : Hp} {i j : Nat} {te : TE} {vs : List Nat} {σ : L2.St} {Qd : Hp → Prop} (hR : Ris b c K H0 a ps rs) (hb : rs.length ≤ 100000) (nD : H0 D = none)
    (hw : ∀ x y : V, wipe (((wipe σ vs).set i (some x)).set j (some y)) vs = wipe σ vs)
    (ht : ∀ x y H1 (Q : VK), Same H0 H1 → (∀ T, H1 T = none → Q (.ref T) (upd H1 T (.tup [.int x, oV y]))) → te (((wipe σ vs).set i (some (.int x))).set j (some (oV y))) H1 Q)
    (hd : ∀ H1 (qs : List Addr), Same H0 H1 → H1 D = some (.lst (qs.map V.ref)) → qs.length = rs.length → (∀ (k : Nat) (p : Addr) (q : Int × Option Int), qs[k]? = some p → rs[k]? = some q → H1 p = some (.tup [.int q.1, oV q.2])) → Qd H1) : lcW (ItS b K a) (gPair K i j) tYes te vs σ D Qd H0 := by
  refine lc_gen (n := rs.length) (fun k H1 => Same H0 H1 ∧ ∃ qs : List Addr, H1 D = some (.lst (qs.map V.ref)) ∧ qs.length = k ∧ ∀ (k : Nat) (p : Addr) (q : Int × Option Int), qs[k]? = some p → rs[k]? = some q → H1 p = some (.tup [.int q.1, oV q.2])) ⟨same_new nD, [], upd_same, rfl, fun k p q h => nomatch h⟩ ?_ ?_ ?_ ?_
  · rintro k H1 hk ⟨s, _⟩
    have hi2 : k < ps.length := by rw [hR.2.1]; exact hk
    exact its_go (x := .ref ps[k]) (Z.Same.sqK s hR.1) (by rw [List.getElem?_map, List.getElem?_eq_getElem hi2]; rfl)
  · rintro H1 ⟨s, _⟩
    exact its_stop (Z.Same.sqK s hR.1) (by rw [List.length_map, hR.2.1]; exact Nat.le_refl _)
  · rintro k H1 v H' hk ⟨s, qs, eD, el, eq⟩ y
    obtain ⟨rfl, ex⟩ := its_yld (Z.Same.sqK s hR.1) y
    obtain ⟨p, ep, rfl⟩ := of_map ex
    have er : rs[k]? = some (rs[k].1, rs[k].2) := List.getElem?_eq_getElem hk
    refine gpair_of (Z.Same.sqK s (hR.2.2 k p _ ep er)) ⟨hw _ _, ?_⟩
    refine ht _ _ _ _ s (fun T nT => ?_)
    have sT : Same H' (upd H' T (.tup [.int rs[k].1, oV rs[k].2])) := same_new nT
    refine ⟨_, sT _ _ eD, ?_, ?_, qs ++ [T], ?_, ?_, ?_⟩
    · rw [List.length_map, el]
      exact Nat.lt_of_lt_of_le hk (Nat.le_trans hb (by decide))
    · exact Z.Same.mut (s.trans sT) nD
    · rw [upd_same, List.map_append]
      rfl
    · rw [List.length_append, el]
      rfl
    · intro k2 p2 q2 h1 h2
      have tD : T ≠ D := (ne_of_none eD nT).symm
      by_cases hlt : k2 < qs.length
      · rw [List.getElem?_append_left hlt] at h1
        have z := eq k2 p2 q2 h1 h2
        have pD : p2 ≠ D := fun e => by
          rw [e, eD] at z
          cases z
        rw [upd_ne pD]
        exact sT _ _ z
      · rw [List.getElem?_append_right (by omega)] at h1
        have h3 : k2 - qs.length = 0 := by
          have := (List.getElem?_eq_some_iff.mp h1).1
          simp at this
          omega
        rw [h3] at h1
        obtain rfl : T = p2 := Option.some.inj h1
        have h4 : k2 = k := by omega
        subst h4
        rw [er] at h2
        obtain rfl := Option.some.inj h2
        rw [upd_ne tD, upd_same]
  · rintro H1 ⟨s, qs, eD, el, eq⟩
    exact hd H1 qs s eD el eq
theorem sq_ins {b : Bool} {K : PySem.W.Frag} {H H' : Hp} {n C dx a : Addr} {fs : List (Str × V)} {xs : List V} (s : SB n H H') (hn : H n = some (.ins C dx fs)) (h : SqK b K H a xs) : SqK b K H' a xs := by
  have ne : ∀ {o : HO}, H a = some o → (∀ C dx fs, o ≠ .ins C dx fs) → a ≠ n := fun e z w => by
    rw [w, hn] at e
    exact z _ _ _ (Option.some.inj e).symm
  cases b
  · rcases h with (h | ⟨o, h⟩) | h
    · exact .inl (.inl (s _ _ (ne h fun _ _ _ => nofun) h))
    · exact .inl (.inr ⟨o, s _ _ (ne h fun _ _ _ => nofun) h⟩)
    · exact .inr h
  · rcases h with (h | ⟨o, h⟩) | h
    · exact .inl (.inl (s _ _ (ne h fun _ _ _ => nofun) h))
    · exact .inl (.inr ⟨o, s _ _ (ne h fun _ _ _ => nofun) h⟩)
    · exact .inr h
theorem Ris.ins {b c : Bool} {K : PySem.W.Frag} {H H' : Hp} {n C dx a : Addr} {fs : List (Str × V)} {ps : List Addr} {rs : Rs} (s : SB n H H') (hn : H n = some (.ins C dx fs)) (r : Ris b c K H a ps rs) : Ris b c K H' a ps rs := ⟨sq_ins s hn r.1, r.2.1, fun i p q h1 h2 => sq_ins s hn (r.2.2 i p q h1 h2)⟩
/-- an if that only guards, and what it tells -/
theorem cut_fact {p : Prop} {t u : TS} {D : Ends} {σ : L2.St} {H : Hp} (h : t { D with nx := fun σ' H' => σ' = σ ∧ H' = H ∧ p } σ H) (h2 : p → u D σ H) : C8.tCut t u D σ H := ⟨_, h, fun σ' H' z => by
  obtain ⟨rfl, rfl, hp⟩ := z
  exact h2 hp⟩
section
variable {P : Program} {w : World} {K : PySem.W.Frag} {mg : Str → Option Value} {base : Heap} {f C CN CA : Addr} {fd : FuncData}
def Ok (st : Option Int) (rs : Rs) (nv : Option Int) : Prop := fits st rs = true ∧ (∀ s, st = some s → 0 ≤ s) ∧ ∀ v, nv = some v → ∃ t, tops st rs = some t ∧ t ≤ v
theorem Ok.good {s : Int} {rs : Rs} {nv : Option Int} (h : Ok (some s) rs nv) : Good (-1) rs := chk_good h.1
def isNeg : Option Int → Bool
  | none => false
  | some s => decide (s < 0)
def lowNv (st : Option Int) (rs : Rs) : Option Int → Bool
  | none => false
  | some v => match tops st rs with
    | none => true
    | some t => decide (v < t)
def wrong (st : Option Int) (rs : Rs) (nv : Option Int) : Option Str := if isNeg st = true then some "start" else if fits st rs = false then some "rises" else if lowNv st rs nv = true then some "never" else none
theorem wrong_none {st nv : Option Int} {rs : Rs} (h : wrong st rs nv = none) : Ok st rs nv := by
  unfold wrong at h
  split at h
  · cases h
  split at h
  · cases h
  split at h
  · cases h
  · next h1 h2 h3 =>
    refine ⟨by simpa using h2, fun s e => ?_, fun v e => ?_⟩
    · subst e
      have h1 : ¬ decide (s < 0) = true := h1
      simpa using h1
    · subst e
      unfold lowNv at h3
      cases e : tops st rs with
      | none =>
        rw [e] at h3
        exact absurd rfl h3
      | some t =>
        rw [e] at h3
        exact ⟨t, rfl, by simpa using h3⟩
theorem ok_wrong {st nv : Option Int} {rs : Rs} (h : Ok st rs nv) : wrong st rs nv = none := by
  unfold wrong
  rw [if_neg, if_neg, if_neg]
  · unfold lowNv
    cases nv with
    | none => simp
    | some v =>
      obtain ⟨t, e, l⟩ := h.2.2 v rfl
      rw [e]
      simpa using l
  · rw [h.1]
    simp
  · cases st with
    | none => simp [isNeg]
    | some s =>
      have := h.2.1 s rfl
      simpa [isNeg] using this
/-! ### Need.__init__ -/
def spInit (C CN : Addr) (K : PySem.W.Frag) : Sp := fun vs H Q E => ∃ (b c : Bool) (st nv : Option Int) (n dx r : Addr) (ps : List Addr) (rs : Rs), vs = [.ref n, oV st, .ref r, oV nv] ∧ H n = some (.ins C dx []) ∧ Ris b c K H r ps rs ∧ rs.length ≤ 100000 ∧
  (wrong st rs nv = none → ∀ H', SB n H H' → NeedAt C K H' n st rs nv → Q .non H') ∧ ∀ fl, wrong st rs nv = some fl → ∀ d, H d = none → E (.ref CN) (some d) (upd H d (.xd [("field", .str fl)]))
theorem ok_init (F : FnM K "__init__" "Need.__init__" s_Need___init__ f fd) (cls : Cls K C) (n_start : NoAttr K C "start") (n_rises : NoAttr K C "rises") (n_never : NoAttr K C "never") (m_tuple : mg "tuple" = none) (x_BadNeed : Exn P w K mg base "BadNeed" CN "field") (c_greatest_value : CalX P w K mg base 3 "greatest_value" (spGreatest CN K)) : FnOk P w K mg base (L2.CX P w) 4 f fd P_Need___init__ (spInit C CN K) := by
  refine F.ok sc_Need___init__ (fun vs H Q E h => ?_) (fun cdv A outer s H vs Q E hr h => ?_)
  · obtain ⟨b, c, st, nv, n, dx, r, ps, rs, rfl, _⟩ := h
    rfl
  · obtain ⟨b, c, st, nv, n, dx, r, ps, rs, rfl, hn, hR, hb, q, qe⟩ := h
    have tk := takes_fn (P := P) (w := w) (K := K) (mg := mg) (base := base) (N := N_Need___init__) (qual := "Need.__init__") (scope := defScope s_Need___init__) (f := f) (cd := cdv) (A := A) (outer := outer) (s := s) (H := H) (E := E)
    refine ⟨_, (pss_cut (ps_if (PW.pt (pw_and (pt_cmpR op_notN (pv 1) pe_non (nomark _)) (pw_and1 (pt_cmpR op_lt (pv 1) pe_int (nomark _))))) (pss_one (ps_exn rfl tk x_BadNeed hr (by decide) (by rfl) (pa_cons pe_str pa_nil))) pss_nil)
      (pss_cons (ps_set (i := 4) sc_Need___init__.nd rfl (by first | exact .inl rfl | exact .inr rfl) (pe_clE c_greatest_value (fun σ => passAt tk σ) hr (by decide) (by rfl) (pa_cons (pv 1) (pa_cons (pv 2) pa_nil))))
      (pss_cut (ps_if (PW.pt (pw_and (pt_cmpR op_notN (pv 3) pe_non (nomark _)) (pw_and1 (PW.pt (pw_or (pt_cmpR op_isN (pv 4) pe_non (nomark _)) (pw_or1 (pt_cmpR op_lt (pv 3) (pv 4) (nomark _)))))))) (pss_one (ps_exn rfl tk x_BadNeed hr (by decide) (by rfl) (pa_cons pe_str pa_nil))) pss_nil)
      (pss_cons (ps_fld (pv 0) (pv 1) rfl)
      (pss_cons (ps_fld (pv 0) (pe_callTy call_tuple_of (by rfl) m_tuple (by decide +kernel) (pa_cons (pe_lc (own := [("low", 5), ("high", 6)]) (g := (gOr (gUnl K 2 (gCons (gName 5) (gCons (gName 6) gNil))) (gTup K 2 (gCons (gName 5) (gCons (gName 6) gNil))))) (tt := tYes) (by rfl) sc_Need___init__.nd (pi_seq (pv 2)) (blkOk_by (own := [("low", 5), ("high", 6)]) (N := N_Need___init__) (sc := defScope s_Need___init__) (by decide +kernel)) (fun _ _ _ _ _ => (pg_or (pg_unl rfl (pgs_cons (pg_name (i := 5) sc_Need___init__.nd rfl (by first | exact .inl rfl | exact .inr rfl)) (pgs_cons (pg_name (i := 6) sc_Need___init__.nd rfl (by first | exact .inl rfl | exact .inr rfl)) pgs_nil))) (pg_tup rfl (pgs_cons (pg_name (i := 5) sc_Need___init__.nd rfl (by first | exact .inl rfl | exact .inr rfl)) (pgs_cons (pg_name (i := 6) sc_Need___init__.nd rfl (by first | exact .inl rfl | exact .inr rfl)) pgs_nil))))) (fun _ _ _ _ _ => pts_nil) (fun _ _ _ _ _ => (pe_tup (pa_cons (pv 5) (pa_cons (pv 6) pa_nil))))) pa_nil)) rfl)
      (pss_one (ps_fld (pv 0) (pv 3) rfl))))))), ?_⟩
    refine cut_fact (p := isNeg st = false) ?_ ?_
    · cases st with
      | none =>
        walk_at "go"
        rfl
      | some s =>
        walk_at "go"
        refine ite2 (fun e => ?_) (fun e => ?_)
        · have hw : wrong (some s) rs nv = some ("start" : Str) := if_pos e
          exact mkx_of (qe _ hw)
        · exact ⟨rfl, rfl, by simpa [isNeg] using e⟩
    intro hneg
    have hneg2 : ¬ isNeg st = true := by rw [hneg]; simp
    walk_at "go"
    refine ⟨b, c, st, r, ps, rs, rfl, hR, fun hfit => ?_, fun hfit d nd => ?_⟩
    rotate_left
    · have hw : wrong st rs nv = some ("rises" : Str) := by
        unfold wrong
        rw [if_neg hneg2, if_pos hfit]
      exact qe _ hw d nd
    have hfit2 : ¬ fits st rs = false := by rw [hfit]; simp
    walk_at "go"
    refine cut_fact (p := lowNv st rs nv = false) ?_ ?_
    · cases nv with
      | none =>
        walk_at "go"
        rfl
      | some v =>
        have hw : lowNv st rs (some v) = true → wrong st rs (some v) = some ("never" : Str) := fun z => by
          unfold wrong
          rw [if_neg hneg2, if_neg hfit2, if_pos z]
        cases et : tops st rs with
        | none =>
          have hl : lowNv st rs (some v) = true := by
            unfold lowNv
            rw [et]
          walk_at "go"
          exact (mkx_of (qe _ (hw hl))).2
        | some t =>
          walk_at "go"
          refine ite2 (fun e => ?_) (fun e => ?_)
          · have hl : lowNv st rs (some v) = true := by
              unfold lowNv
              rw [et]
              exact e
            walk_at "go"
            exact (mkx_of (qe _ (hw hl))).2
          · walk_at "go"
            unfold lowNv
            rw [et]
            simpa using e
    intro hlow
    have hlow2 : ¬ lowNv st rs nv = true := by rw [hlow]; simp
    have ok : wrong st rs nv = none := by
      unfold wrong
      rw [if_neg hneg2, if_neg hfit2, if_neg hlow2]
    have q := q ok
    walk_at "go"
    refine ⟨n, C, dx, _, rfl, hn, cls, n_start, by decide, ?_⟩
    walk_at "go"
    have s1 : SB n H (upd H n (.ins C dx [("start", oV st)])) := SB.upd (fun _ _ _ h => h)
    refine iSeq_of (b := b) (fun Q q => ⟨_, rfl, q⟩) (hR.ins s1 hn).1 ?_
    intro D nD
    refine lc_copy (hR.ins s1 hn) hb nD (fun _ _ => rfl) ?_ ?_
    · intro x y H1 Q1 s2 q1
      walk_at "go"
      exact q1
    · intro H1 qs s2 eD el eq
      walk_at "go"
      refine ⟨D, _, rfl, .inl ⟨.inl (.inl eD), fun t nt => ?_⟩⟩
      walk_at "go"
      have s3 : Same H1 (upd H1 t (.tup (qs.map V.ref))) := same_new nt
      have hn3 := s3 _ _ (s2 _ _ upd_same)
      have nt' : t ≠ n := (ne_of_none (s2 _ _ upd_same) nt).symm
      refine ⟨n, C, dx, _, rfl, hn3, cls, n_rises, (by show (1 : Nat) < 1000; decide), ?_⟩
      walk_at "go"
      refine ⟨n, C, dx, _, rfl, upd_same, cls, n_never, (by show (2 : Nat) < 1000; decide), ?_⟩
      walk_at "go"
      refine q _ ?_ ?_
      · exact SB.upd (SB.upd ((s1.trans (Z.Same.sb s2)).trans (Z.Same.sb s3)))
      · refine ⟨dx, t, qs, upd_same, ⟨?_, el, fun i p q h1 h2 => ?_⟩, ?_⟩
        · exact .inl (.inl (by rw [upd_ne nt', upd_ne nt', upd_same]))
        · have z := eq i p q h1 h2
          have pt : p ≠ t := ne_of_none z nt
          have pn : p ≠ n := fun e => by
            rw [e, s2 _ _ upd_same] at z
            cases z
          exact .inl (.inl (by rw [upd_ne pn, upd_ne pn, upd_ne pt, z]))
        · rw [upd_ne nt', upd_ne nt', upd_same]
/-! ### value_for, a call -/
def spCallN (C : Addr) (K : PySem.W.Frag) : Sp := fun vs H Q _ => ∃ (st nv k : Option Int) (n : Addr) (rs : Rs), vs = [.ref n, oV k] ∧ NeedAt C K H n st rs nv ∧ Ok st rs nv ∧ (∀ i, k = some i → 0 ≤ i) ∧ Q (oV (val st rs nv k)) H
theorem ok_value_for (F : FnM K "value_for" "Need.value_for" s_Need_value_for f fd) (cls : Cls K C) (n_start : NoAttr K C "start") (n_rises : NoAttr K C "rises") (n_never : NoAttr K C "never") (c_value_at : Cal P w K mg base 1 "value_at" (spValueAt K)) : FnOk P w K mg base CX0 2 f fd P_Need_value_for (spCallN C K) := by
  refine F.ok sc_Need_value_for (fun vs H Q E h => ?_) (fun cdv A outer s H vs Q E hr h => ?_)
  · obtain ⟨st, nv, k, n, rs, rfl, _⟩ := h
    rfl
  · obtain ⟨st, nv, k, n, rs, rfl, ⟨dx, r, ps, hn, hR, _⟩, ok, hk, q⟩ := h
    refine ⟨_, PSs.nox (pss_cons (ps_if (PW.pt (pw_or (pt_cmpR op_isN (pv 1) pe_non (nomark _)) (pw_or1 (pt_cmpR op_isN (pe_fld (pv 0) rfl) pe_non (nomark _))))) (pss_one (ps_ret (pe_fld (pv 0) rfl))) pss_nil)
      (pss_one (ps_ret (pe_cl c_value_at hr (by decide) (by rfl) (pa_cons (pe_fld (pv 0) rfl) (pa_cons (pe_fld (pv 0) rfl) (pa_cons (pv 1) pa_nil))))))), ?_⟩
    cases st with
    | none =>
      cases k with
      | none =>
        walk_at "go"
        exact q
      | some i =>
        walk_at "go"
        exact q
    | some s =>
      cases k with
      | none =>
        walk_at "go"
        exact q
      | some i =>
        walk_at "go"
        refine ⟨_, _, s, i, r, ps, rs, rfl, hR, ok.good, ?_⟩
        exact q
def spCallX (C CA : Addr) (K : PySem.W.Frag) : Sp := fun vs H Q E => ∃ (st nv k : Option Int) (n : Addr) (rs : Rs), vs = [.ref n, oV k] ∧ NeedAt C K H n st rs nv ∧ Ok st rs nv ∧ (isNeg k = false → Q (oV (val st rs nv k)) H) ∧ ∀ i, k = some i → i < 0 → ∀ d, H d = none → E (.ref CA) (some d) (upd H d (.xd [("value", .int i)]))
theorem ok_call (F : FnM K "__call__" "Need.__call__" s_Need___call__ f fd) (x_BadAmount : Exn P w K mg base "BadAmount" CA "value") (me_value_for : Met P w K mg base 2 C "value_for" (spCallN C K)) : FnOk P w K mg base (L2.CX P w) 3 f fd P_Need___call__ (spCallX C CA K) := by
  refine F.ok sc_Need___call__ (fun vs H Q E h => ?_) (fun cdv A outer s H vs Q E hr h => ?_)
  · obtain ⟨st, nv, k, n, rs, rfl, _⟩ := h
    rfl
  · obtain ⟨st, nv, k, n, rs, rfl, hN, ok, q, qe⟩ := h
    have hN2 := hN
    obtain ⟨dx, r, ps, hn, hR, _⟩ := hN2
    have tk := takes_fn (P := P) (w := w) (K := K) (mg := mg) (base := base) (N := N_Need___call__) (qual := "Need.__call__") (scope := defScope s_Need___call__) (f := f) (cd := cdv) (A := A) (outer := outer) (s := s) (H := H) (E := E)
    refine ⟨_, (pss_cut (ps_if (PW.pt (pw_and (pt_cmpR op_notN (pv 1) pe_non (nomark _)) (pw_and1 (pt_cmpR op_lt (pv 1) pe_int (nomark _))))) (pss_one (ps_exn rfl tk x_BadAmount hr (by decide) (by rfl) (pa_cons (pv 1) pa_nil))) pss_nil)
      (pss_one (ps_ret (pe_me me_value_for (pv 0) hr (by decide) (pa_cons (pv 1) pa_nil))))), ?_⟩
    refine cut_fact (p := isNeg k = false) ?_ ?_
    · cases k with
      | none =>
        walk_at "go"
        rfl
      | some i =>
        walk_at "go"
        refine ite2 (fun e => ?_) (fun e => ?_)
        · have := of_decide_eq_true e
          walk_at "go"
          exact mkx_of (qe i rfl this)
        · exact ⟨rfl, rfl, by simpa [isNeg] using e⟩
    intro hneg
    walk_at "go"
    refine ⟨n, dx, _, rfl, hn, rfl, ?_⟩
    walk_at "go"
    refine ⟨st, nv, k, n, rs, rfl, hN, ok, fun i e => ?_, q hneg⟩
    subst e
    simpa [isNeg] using hneg
end
end Z
set_option Elab.async false
set_option linter.all false
set_option maxRecDepth 100000
set_option maxHeartbeats 4000000
namespace Z
open Nd
open PySem PySem.Spec PyProof.Rows L2
open C8 (pss_cut tCut)
local macro_rules | `(tactic| walk_at "num") => `(tactic| first | rfl | omega | decide | exact Nat.le_of_lt (small1000 (by simp)) | exact ⟨by omega, by omega⟩ | exact ⟨by omega, by omega, by omega⟩ | exact ⟨by decide, by decide, by decide⟩ | exact Or.inl ⟨by omega, by omega⟩ | exact Or.inr ⟨by omega, by omega⟩)
local macro_rules | `(tactic| walk_at "go") => `(tactic| repeat (first | refine ⟨_, rfl, ?_⟩ | refine ⟨_, _, rfl, rfl, ?_⟩ | refine ⟨_, _, rfl, ?_⟩ | refine ⟨_, _, rfl, rfl, (by walk_at "num"), ?_⟩ | refine Or.inl ⟨_, rfl, ?_⟩ | refine ⟨_, _, _, _, rfl, rfl, (by assumption), (by rfl), ?_⟩ | refine ⟨_, _, _, _, _, rfl, (by assumption), (by assumption), (by assumption), (by rfl), ?_⟩ | refine ⟨rfl, ?_⟩ | refine And.intro (by walk_at "num") ?_))
/-! ### == of pairs, of needs -/
def oD : Option Int → PyData
  | none => .none
  | some i => .int i
def pairD (c : Bool) (q : Int × Option Int) : PyData := match c with
  | true => .list [.int q.1, oD q.2]
  | false => .tuple [.int q.1, oD q.2]
def risD (b c : Bool) (rs : Rs) : PyData := match b with
  | true => .list (rs.map (pairD c))
  | false => .tuple (rs.map (pairD c))
theorem dp_o {K : PySem.W.Frag} {H : Hp} : ∀ o : Option Int, Dp K H (oV o) (oD o)
  | none => .non
  | some i => .int i
theorem dpa_pair {K : PySem.W.Frag} {H : Hp} (q : Int × Option Int) : DpAll K H [.int q.1, oV q.2] [.int q.1, oD q.2] := .cons (.int _) (.cons (dp_o _) .nil)
theorem dp_pair {c : Bool} {K : PySem.W.Frag} {H : Hp} {p : Addr} {q : Int × Option Int} (h : SqK c K H p [.int q.1, oV q.2]) : Dp K H (.ref p) (pairD c q) := by
  cases c
  · exact dp_sq (b := false) h (dpa_pair q)
  · exact dp_sq (b := true) h (dpa_pair q)
theorem dpa_ris {c : Bool} {K : PySem.W.Frag} {H : Hp} : ∀ (ps : List Addr) (rs : Rs), ps.length = rs.length → (∀ (i : Nat) (p : Addr) (q : Int × Option Int), ps[i]? = some p → rs[i]? = some q → SqK c K H p [.int q.1, oV q.2]) → DpAll K H (ps.map V.ref) (rs.map (pairD c))
  | [], [], _, _ => .nil
  | p :: ps, r :: rs, hl, h => .cons (dp_pair (h 0 p r rfl rfl)) (dpa_ris ps rs (by simpa using hl) fun i q s h1 h2 => h (i + 1) q s h1 h2)
theorem Ris.dp {b c : Bool} {K : PySem.W.Frag} {H : Hp} {a : Addr} {ps : List Addr} {rs : Rs} (m : Ris b c K H a ps rs) : Dp K H (.ref a) (risD b c rs) := by
  cases b
  · exact dp_sq (b := false) m.1 (dpa_ris ps rs m.2.1 m.2.2)
  · exact dp_sq (b := true) m.1 (dpa_ris ps rs m.2.1 m.2.2)
theorem shaped_pair (c : Bool) (q : Int × Option Int) : SeqAt.shaped (pairD c q) = true := by
  obtain ⟨l, h⟩ := q
  cases c <;> cases h <;> rfl
theorem dep_pair (c : Bool) (q : Int × Option Int) : (pairD c q).depth = 1 := by
  obtain ⟨l, h⟩ := q
  cases c <;> cases h <;> rfl
theorem lay_ris (c : Bool) : ∀ rs : Rs, PyData.canLayAll0 (rs.map (pairD c)) = true
  | [] => rfl
  | n :: r => by
    rw [List.map_cons, PyData.canLayAll0, lay_ris c r, SeqAt.canLay_of_shaped (shaped_pair c n)]
    rfl
theorem dep_ris (c : Bool) : ∀ rs : Rs, PyData.depthAll (rs.map (pairD c)) ≤ 1
  | [] => Nat.zero_le _
  | n :: r => by
    rw [List.map_cons, PyData.depthAll]
    have h := dep_ris c r
    have h2 := dep_pair c n
    omega
theorem shaped_ris (b c : Bool) (rs : Rs) : SeqAt.shaped (risD b c rs) = true := by
  have h := dep_ris c rs
  unfold SeqAt.shaped risD
  cases b
  · show (PyData.canLayAll0 (rs.map (pairD c)) && decide (PyData.depthAll (rs.map (pairD c)) + 1 ≤ 64)) = true
    rw [lay_ris, decide_eq_true (by omega)]
    rfl
  · show (PyData.canLayAll0 (rs.map (pairD c)) && decide (PyData.depthAll (rs.map (pairD c)) + 1 ≤ 64)) = true
    rw [lay_ris, decide_eq_true (by omega)]
    rfl
section
variable {P : Program} {w : World} {K : PySem.W.Frag} {mg : Str → Option Value} {base : Heap} {f C : Addr} {fd : FuncData}
def spEq (C : Addr) (K : PySem.W.Frag) : Sp := fun vs H Q _ => ∃ (st nv : Option Int) (n m : Addr) (rs : Rs), vs = [.ref n, .ref m] ∧ NeedAt C K H n st rs nv ∧ NeedAt C K H m st rs nv ∧ Q (.bl true) H
theorem ok_eq (F : FnM K "__eq__" "Need.__eq__" s_Need___eq__ f fd) (isC : C8.InsC K C) (m_isinstance : mg "isinstance" = none) (g_Need : mg "Need" = some (.ref C)) (cls : Cls K C) (n_start : NoAttr K C "start") (n_rises : NoAttr K C "rises") (n_never : NoAttr K C "never") : FnOk P w K mg base CX0 1 f fd P_Need___eq__ (spEq C K) := by
  refine F.ok sc_Need___eq__ (fun vs H Q E h => ?_) (fun cdv A outer s H vs Q E hr h => ?_)
  · obtain ⟨st, nv, n, m, rs, rfl, _⟩ := h
    rfl
  · obtain ⟨st, nv, n, m, rs, rfl, ⟨dx, r, ps, hn, hR, _⟩, ⟨dx', r', ps', hm, hR', _⟩, q⟩ := h
    refine ⟨_, PSs.nox (pss_one (ps_ret (pe_and (pe_callB (C8.call_isC isC) (by rfl) m_isinstance (by decide +kernel) (pa_cons (pv 1) (pa_cons (pe_glob (by rfl) g_Need relv_ref) pa_nil))) (pe_and (pe_cmpR op_eq (pe_fld (pv 0) rfl) (pe_fld (pv 1) rfl) (nomark _)) (pe_and (pe_cmpR (op_eqD hr.units) (pe_fld (pv 0) rfl) (pe_fld (pv 1) rfl) (nomark _)) (pe_one (pe_cmpR op_eq (pe_fld (pv 0) rfl) (pe_fld (pv 1) rfl) (nomark _)))))))), ?_⟩
    walk_at "go"
    refine ⟨m, dx', _, rfl, hm, ?_⟩
    walk_at "go"
    refine ⟨(by cases st <;> rfl), ?_⟩
    walk_at "go"
    refine ite2 (fun _ => ?_) (fun e => absurd (decide_eq_true rfl) e)
    walk_at "go"
    refine same2 (d := risD false false rs) hR.dp hR'.dp (shaped_ris _ _ _) ?_
    rw [eqv_same (shaped_ris _ _ _)]
    walk_at "go"
    refine ⟨(by cases nv <;> rfl), ?_⟩
    rw [decide_eq_true rfl]
    walk_at "go"
    exact q
end
end Z
set_option Elab.async false
set_option linter.all false
set_option maxRecDepth 100000
set_option maxHeartbeats 4000000
namespace Z
open Nd
open PySem PySem.Spec PyProof.Rows L2
open C8 (pss_cut tCut)
local macro_rules | `(tactic| walk_at "num") => `(tactic| first | rfl | omega | decide | exact Nat.le_of_lt (small1000 (by simp)) | exact ⟨by omega, by omega⟩ | exact ⟨by omega, by omega, by omega⟩ | exact ⟨by decide, by decide, by decide⟩ | exact Or.inl ⟨by omega, by omega⟩ | exact Or.inr ⟨by omega, by omega⟩)
local macro_rules | `(tactic| walk_at "go") => `(tactic| repeat (first | refine ⟨_, rfl, ?_⟩ | refine ⟨_, _, rfl, rfl, ?_⟩ | refine ⟨_, _, rfl, ?_⟩ | refine ⟨_, _, rfl, rfl, (by walk_at "num"), ?_⟩ | refine Or.inl ⟨_, rfl, ?_⟩ | refine ⟨_, _, _, _, rfl, rfl, (by assumption), (by rfl), ?_⟩ | refine ⟨_, _, _, _, _, rfl, (by assumption), (by assumption), (by assumption), (by rfl), ?_⟩ | refine ⟨rfl, ?_⟩ | refine And.intro (by walk_at "num") ?_))
abbrev s_raised : Stmt := topS 26
abbrev N_raised : List Str := ["_law_start", "_law_rises", "_law_never", "e"]
abbrev P_raised : List Str := ["_law_start", "_law_rises", "_law_never"]
theorem sc_raised : FnScope N_raised P_raised (defScope s_raised) := ⟨rfl, rfl, rfl, by decide +kernel, rfl, by decide +kernel, by decide +kernel⟩
abbrev s_raised_base : Stmt := topS 27
abbrev N_raised_base : List Str := ["_law_start", "_law_rises", "_law_never", "e"]
abbrev P_raised_base : List Str := ["_law_start", "_law_rises", "_law_never"]
theorem sc_raised_base : FnScope N_raised_base P_raised_base (defScope s_raised_base) := ⟨rfl, rfl, rfl, by decide +kernel, rfl, by decide +kernel, by decide +kernel⟩
abbrev s_refused : Stmt := topS 28
abbrev N_refused : List Str := ["_law_start", "_law_rises", "_law_never", "_law_field"]
abbrev P_refused : List Str := ["_law_start", "_law_rises", "_law_never", "_law_field"]
theorem sc_refused : FnScope N_refused P_refused (defScope s_refused) := ⟨rfl, rfl, rfl, by decide +kernel, rfl, by decide +kernel, by decide +kernel⟩
abbrev s_refuses_amount : Stmt := topS 29
abbrev N_refuses_amount : List Str := ["_law_f", "_law_k", "e"]
abbrev P_refuses_amount : List Str := ["_law_f", "_law_k"]
theorem sc_refuses_amount : FnScope N_refuses_amount P_refuses_amount (defScope s_refuses_amount) := ⟨rfl, rfl, rfl, by decide +kernel, rfl, by decide +kernel, by decide +kernel⟩
theorem wrong_cases {st nv : Option Int} {rs : Rs} {fl : Str} (h : wrong st rs nv = some fl) : fl = "start" ∨ fl = "rises" ∨ fl = "never" := by
  unfold wrong at h
  split at h
  · exact .inl (Option.some.inj h).symm
  split at h
  · exact .inr (.inl (Option.some.inj h).symm)
  split at h
  · exact .inr (.inr (Option.some.inj h).symm)
  · cases h
section
variable {P : Program} {w : World} {K : PySem.W.Frag} {mg : Str → Option Value} {base : Heap} {f C CN CA CH : Addr} {fd : FuncData}
def spRaised (K : PySem.W.Frag) : Sp := fun vs H Q _ => ∃ (b c : Bool) (st nv : Option Int) (r : Addr) (ps : List Addr) (rs : Rs) (fl : Str), vs = [oV st, .ref r, oV nv] ∧ Ris b c K H r ps rs ∧ rs.length ≤ 100000 ∧ wrong st rs nv = some fl ∧ ∀ t H', Same H H' → H' t = some (.tup [.str "need", .str fl]) → Q (.ref t) H'
theorem ok_raised (F : FnP K "_law_raised" s_raised f fd) (g_BadNeed : mg "BadNeed" = some (.ref CN)) (te : PySem.W.exmOne K (.ref CN) (.ref CN) = some true) (xf_BadNeed : XfC K CN) (no_BadNeed_field : PySem.W.findIn K (.ref CN) "field" = some none) (k_Need : MakX P w K mg base 4 "Need" C (spInit C CN K)) : FnOk P w K mg base CX0 6 f fd P_raised (spRaised K) := by
  refine F.ok sc_raised (fun vs H Q E h => ?_) (fun cdv A outer s H vs Q E hr h => ?_)
  · obtain ⟨b, c, st, nv, r, ps, rs, fl, rfl, _⟩ := h
    rfl
  · obtain ⟨b, c, st, nv, r, ps, rs, fl, rfl, hR, hl, hw, q⟩ := h
    refine ⟨_, PSs.nox (pss_cons (ps_try_as (i := 3) rfl rfl sc_raised.nd rfl rfl ⟨rfl, rfl, .inl g_BadNeed⟩ takes0 (fun W pn xe tk po => (pss_one (ps_expr (pe_mkE k_Need (fun σ => passAt tk σ) hr (by decide) (by rfl) (pa_cons (pv 0) (pa_cons (pv 1) (pa_cons (pv 2) pa_nil)))))))
      (fun ex oe cls d pn hz hf => (pss_one (ps_ret (pe_tup (pa_cons pe_str (pa_cons (pe_xf xf_BadNeed no_BadNeed_field hz hf (pv 3)) pa_nil)))))))
      (pss_one (ps_ret (pe_tup (pa_cons pe_str (pa_cons pe_non pa_nil)))))), ?_⟩
    walk_at "go"
    intro n dx n1 n2 n3
    have s1 : Same H (upd (upd H dx (.own n)) n (.ins C dx [])) := Z.Same.mut (same_new n2) n1
    refine ⟨b, c, st, nv, n, dx, r, ps, rs, rfl, upd_same, hR.mono s1, hl, (fun z => by rw [hw] at z; cases z), fun fl' hw' d nd => ?_⟩
    obtain rfl : fl = fl' := Option.some.inj (hw.symm.trans hw')
    refine ⟨true, te, fun _ a na => ?_, (fun z => by cases z)⟩
    walk_at "go"
    refine ⟨d, _, _, rfl, upd_same, rfl, ?_⟩
    walk_at "go"
    intro t nt
    exact q t _ ((s1.trans (same_new nd)).trans (same_new nt)) upd_same
def spRaisedB (K : PySem.W.Frag) : Sp := fun vs H Q _ => ∃ (b c : Bool) (st nv : Option Int) (r : Addr) (ps : List Addr) (rs : Rs) (fl : Str), vs = [oV st, .ref r, oV nv] ∧ Ris b c K H r ps rs ∧ rs.length ≤ 100000 ∧ wrong st rs nv = some fl ∧ ∀ H', Same H H' → Q (.bl true) H'
theorem ok_raised_base (F : FnP K "_law_raised_base" s_raised_base f fd) (m_isinstance : mg "isinstance" = none) (m_ValueError : mg "ValueError" = none) (g_HouseError : mg "HouseError" = some (.ref CH)) (g_BadNeed : mg "BadNeed" = some (.ref CN)) (g_BadAmount : mg "BadAmount" = some (.ref CA)) (te : PySem.W.exmOne K (.ref CN) (.ref CH) = some true) (ec : ExcC K CN) (k1 : PySem.W.kitOne K (.ref CN) (.type "ValueError") = some true) (k2 : PySem.W.kitOne K (.ref CN) (.ref CN) = some true) (k3 : PySem.W.kitOne K (.ref CN) (.ref CA) = some false) (k_Need : MakX P w K mg base 4 "Need" C (spInit C CN K)) : FnOk P w K mg base CX0 6 f fd P_raised_base (spRaisedB K) := by
  refine F.ok sc_raised_base (fun vs H Q E h => ?_) (fun cdv A outer s H vs Q E hr h => ?_)
  · obtain ⟨b, c, st, nv, r, ps, rs, fl, rfl, _⟩ := h
    rfl
  · obtain ⟨b, c, st, nv, r, ps, rs, fl, rfl, hR, hl, hw, q⟩ := h
    refine ⟨_, PSs.nox (pss_cons (ps_try_as (i := 3) rfl rfl sc_raised_base.nd rfl rfl ⟨rfl, rfl, .inl g_HouseError⟩ takes0 (fun W pn xe tk po => (pss_one (ps_expr (pe_mkE k_Need (fun σ => passAt tk σ) hr (by decide) (by rfl) (pa_cons (pv 0) (pa_cons (pv 1) (pa_cons (pv 2) pa_nil)))))))
      (fun ex oe cls d pn hz hf => (pss_one (ps_ret (pe_and (pe_callB (call_isX hz hf) (by rfl) m_isinstance (by decide +kernel) (pa_cons (pv 3) (pa_cons (pe_bltn (v := .ty "ValueError") (by rfl) m_ValueError (by decide +kernel) rfl) pa_nil))) (pe_and (pe_callB (call_isX hz hf) (by rfl) m_isinstance (by decide +kernel) (pa_cons (pv 3) (pa_cons (pe_glob (by rfl) g_BadNeed relv_ref) pa_nil))) (pe_one (pe_not (pe_callB (call_isX hz hf) (by rfl) m_isinstance (by decide +kernel) (pa_cons (pv 3) (pa_cons (pe_glob (by rfl) g_BadAmount relv_ref) pa_nil)))))))))))
      (pss_one (ps_ret pe_bl))), ?_⟩
    walk_at "go"
    intro n dx n1 n2 n3
    have s1 : Same H (upd (upd H dx (.own n)) n (.ins C dx [])) := Z.Same.mut (same_new n2) n1
    refine ⟨b, c, st, nv, n, dx, r, ps, rs, rfl, upd_same, hR.mono s1, hl, (fun z => by rw [hw] at z; cases z), fun fl' hw' d nd => ?_⟩
    have s2 := s1.trans (same_new (o := .xd [("field", .str fl')]) nd)
    refine ⟨true, te, fun _ a na => ?_, (fun z => by cases z)⟩
    walk_at "go"
    refine ⟨CN, d, _, .ty "ValueError", .type "ValueError", true, rfl, rfl, ec, upd_same, rfl, (fun u z => by cases z; rfl), k1, ?_⟩
    walk_at "go"
    refine ⟨CN, d, _, .ref CN, .ref CN, true, rfl, rfl, ec, upd_same, rfl, (fun u z => by cases z; rfl), k2, ?_⟩
    walk_at "go"
    refine ⟨CN, d, _, .ref CA, .ref CA, false, rfl, rfl, ec, upd_same, rfl, (fun u z => by cases z; rfl), k3, ?_⟩
    walk_at "go"
    exact q _ s2
def spRefused (K : PySem.W.Frag) : Sp := fun vs H Q _ => ∃ (b c : Bool) (st nv : Option Int) (r : Addr) (ps : List Addr) (rs : Rs) (fl : Str), vs = [oV st, .ref r, oV nv, .str fl] ∧ Ris b c K H r ps rs ∧ rs.length ≤ 100000 ∧ wrong st rs nv = some fl ∧ ∀ H', Same H H' → Q (.bl true) H'
theorem ok_refused (F : FnP K "_law_refused" s_refused f fd) (c_raised : Cal P w K mg base 6 "_law_raised" (spRaised K)) (c_raised_base : Cal P w K mg base 6 "_law_raised_base" (spRaisedB K)) : FnOk P w K mg base CX0 7 f fd P_refused (spRefused K) := by
  refine F.ok sc_refused (fun vs H Q E h => ?_) (fun cdv A outer s H vs Q E hr h => ?_)
  · obtain ⟨b, c, st, nv, r, ps, rs, fl, rfl, _⟩ := h
    rfl
  · obtain ⟨b, c, st, nv, r, ps, rs, fl, rfl, hR, hl, hw, q⟩ := h
    refine ⟨_, PSs.nox (pss_one (ps_ret (pe_and (pe_cmpR (op_eqD hr.units) (pe_cl c_raised hr (by decide) (by rfl) (pa_cons (pv 0) (pa_cons (pv 1) (pa_cons (pv 2) pa_nil)))) (pe_tup (pa_cons pe_str (pa_cons (pv 3) pa_nil))) (nomark _)) (pe_one (pe_cl c_raised_base hr (by decide) (by rfl) (pa_cons (pv 0) (pa_cons (pv 1) (pa_cons (pv 2) pa_nil)))))))), ?_⟩
    walk_at "go"
    refine ⟨b, c, st, nv, r, ps, rs, fl, rfl, hR, hl, hw, fun t H1 s1 e1 => ?_⟩
    walk_at "go"
    intro t2 n2
    have s2 := same_new (o := .tup [.str "need", .str fl]) n2
    have hs : SeqAt.shaped (.tuple [.str "need", .str fl]) = true := by
      rcases wrong_cases hw with e | e | e <;> rw [e] <;> decide +kernel
    refine same2 (d := .tuple [.str "need", .str fl]) (.tup (SqT.of (s2 _ _ e1)) (.cons (.str _) (.cons (.str _) .nil))) (.tup (SqT.of upd_same) (.cons (.str _) (.cons (.str _) .nil))) hs ?_
    rw [eqv_same hs]
    walk_at "go"
    refine ⟨b, c, st, nv, r, ps, rs, fl, rfl, (hR.mono s1).mono s2, hl, hw, fun H3 s3 => ?_⟩
    exact q _ (s1.trans (s2.trans s3))
def spRefAm (C : Addr) (K : PySem.W.Frag) : Sp := fun vs H Q _ => ∃ (st nv : Option Int) (i : Int) (n : Addr) (rs : Rs), vs = [.ref n, .int i] ∧ NeedAt C K H n st rs nv ∧ Ok st rs nv ∧ i < 0 ∧ ∀ H', Same H H' → Q (.bl true) H'
theorem ok_refuses_amount (F : FnP K "_law_refuses_amount" s_refuses_amount f fd) (m_isinstance : mg "isinstance" = none) (g_HouseError : mg "HouseError" = some (.ref CH)) (g_BadNeed : mg "BadNeed" = some (.ref CN)) (g_BadAmount : mg "BadAmount" = some (.ref CA)) (te : PySem.W.exmOne K (.ref CA) (.ref CA) = some true) (ec : ExcC K CA) (k1 : PySem.W.kitOne K (.ref CA) (.ref CH) = some true) (k2 : PySem.W.kitOne K (.ref CA) (.ref CN) = some false) (xf_BadAmount : XfC K CA) (no_BadAmount_value : PySem.W.findIn K (.ref CA) "value" = some none) (co_call : CobX P w K mg base 3 C (spCallX C CA K)) : FnOk P w K mg base CX0 4 f fd P_refuses_amount (spRefAm C K) := by
  refine F.ok sc_refuses_amount (fun vs H Q E h => ?_) (fun cdv A outer s H vs Q E hr h => ?_)
  · obtain ⟨st, nv, i, n, rs, rfl, _⟩ := h
    rfl
  · obtain ⟨st, nv, i, n, rs, rfl, hN, ok, hi, q⟩ := h
    have hN2 := hN
    obtain ⟨dx, r, ps, hn, hR, _⟩ := hN2
    refine ⟨_, PSs.nox (pss_cons (ps_try_as (i := 2) rfl rfl sc_refuses_amount.nd rfl rfl ⟨rfl, rfl, .inl g_BadAmount⟩ takes0 (fun W pn xe tk po => (pss_one (ps_expr (pe_coE co_call (pv 0) (fun σ => passAt tk σ) hr (by decide) (pa_cons (pv 1) pa_nil)))))
      (fun ex oe cls d pn hz hf => (pss_one (ps_ret (pe_and (pe_cmpR op_eq (pe_xf xf_BadAmount no_BadAmount_value hz hf (pv 2)) (pv 1) (nomark _)) (pe_and (pe_callB (call_isX hz hf) (by rfl) m_isinstance (by decide +kernel) (pa_cons (pv 2) (pa_cons (pe_glob (by rfl) g_HouseError relv_ref) pa_nil))) (pe_one (pe_not (pe_callB (call_isX hz hf) (by rfl) m_isinstance (by decide +kernel) (pa_cons (pv 2) (pa_cons (pe_glob (by rfl) g_BadNeed relv_ref) pa_nil)))))))))))
      (pss_one (ps_ret pe_bl))), ?_⟩
    walk_at "go"
    refine ⟨⟨_, _, hn⟩, st, nv, some i, n, rs, rfl, hN, ok, (fun z => ?_), fun j ej hj d nd => ?_⟩
    · have z : decide (i < 0) = false := z
      rw [decide_eq_true hi] at z
      cases z
    · cases ej
      have s2 := same_new (o := .xd [("value", .int i)]) nd
      refine ⟨true, te, fun _ a na => ?_, (fun z => by cases z)⟩
      walk_at "go"
      refine ⟨d, _, _, rfl, upd_same, rfl, ?_⟩
      walk_at "go"
      refine ite2 (fun _ => ?_) (fun z => absurd (decide_eq_true rfl) z)
      walk_at "go"
      refine ⟨CA, d, _, .ref CH, .ref CH, true, rfl, rfl, ec, upd_same, rfl, (fun u z => by cases z; rfl), k1, ?_⟩
      walk_at "go"
      refine ⟨CA, d, _, .ref CN, .ref CN, false, rfl, rfl, ec, upd_same, rfl, (fun u z => by cases z; rfl), k2, ?_⟩
      walk_at "go"
      exact q _ s2
end
end Z
set_option Elab.async false
set_option linter.all false
set_option maxRecDepth 100000
set_option maxHeartbeats 4000000
namespace Z
open Nd
open PySem PySem.Spec PyProof.Rows L2
open C8 (pss_cut tCut)
local macro_rules | `(tactic| walk_at "num") => `(tactic| first | rfl | omega | decide | exact Nat.le_of_lt (small1000 (by simp)) | exact ⟨by omega, by omega⟩ | exact ⟨by omega, by omega, by omega⟩ | exact ⟨by decide, by decide, by decide⟩ | exact Or.inl ⟨by omega, by omega⟩ | exact Or.inr ⟨by omega, by omega⟩)
local macro_rules | `(tactic| walk_at "go") => `(tactic| repeat (first | refine ⟨_, rfl, ?_⟩ | refine ⟨_, _, rfl, rfl, ?_⟩ | refine ⟨_, _, rfl, ?_⟩ | refine ⟨_, _, rfl, rfl, (by walk_at "num"), ?_⟩ | refine Or.inl ⟨_, rfl, ?_⟩ | refine ⟨_, _, _, _, rfl, rfl, (by assumption), (by rfl), ?_⟩ | refine ⟨_, _, _, _, _, rfl, (by assumption), (by assumption), (by assumption), (by rfl), ?_⟩ | refine ⟨rfl, ?_⟩ | refine And.intro (by walk_at "num") ?_))
abbrev s_value : Stmt := topS 23
abbrev N_value : List Str := ["_law_need_here", "_law_k", "_law_value_here", "_law_pair"]
abbrev P_value : List Str := ["_law_need_here", "_law_k"]
theorem sc_value : FnScope N_value P_value (defScope s_value) := ⟨rfl, rfl, rfl, by decide +kernel, rfl, by decide +kernel, by decide +kernel⟩
abbrev s_same : Stmt := topS 25
abbrev N_same : List Str := ["_law_told", "_law_due"]
abbrev P_same : List Str := ["_law_told", "_law_due"]
theorem sc_same : FnScope N_same P_same (defScope s_same) := ⟨rfl, rfl, rfl, by decide +kernel, rfl, by decide +kernel, by decide +kernel⟩
abbrev s_points : Stmt := topS 24
abbrev N_points : List Str := ["_law_need_here", "_law_points_here", "_law_pair"]
abbrev P_points : List Str := ["_law_need_here"]
theorem sc_points : FnScope N_points P_points (defScope s_points) := ⟨rfl, rfl, rfl, by decide +kernel, rfl, by decide +kernel, by decide +kernel⟩
theorem ris_nil {c : Bool} {K : PySem.W.Frag} {H : Hp} {a : Addr} (h : SqT K H a []) : Ris false c K H a [] [] := ⟨h, rfl, fun i p q h => nomatch h⟩
theorem ris_one {c : Bool} {K : PySem.W.Frag} {H : Hp} {a p : Addr} {x : Int} {y : Option Int} (h : SqT K H a [.ref p]) (h2 : SqK c K H p [.int x, oV y]) : Ris false c K H a [p] [(x, y)] := by
  refine ⟨h, rfl, fun i p2 q h3 h4 => ?_⟩
  cases i with
  | zero =>
    obtain rfl := Option.some.inj h3
    obtain rfl := Option.some.inj h4
    exact h2
  | succ i => cases h3
/-- for pair in rises, a list or a tuple -/
theorem for_prsS {b c : Bool} {K : PySem.W.Frag} {a : Addr} {ps : List Addr} {rs : Rs} {H0 : Hp} {i1 : Nat} {tb : TS} {D : Ends} {σ : L2.St} {H : Hp} (hR : Ris b c K H0 a ps rs) (Pv : Nat → L2.St → Hp → Prop) (h0 : Pv 0 σ H) (hq : ∀ i σ H1, Pv i σ H1 → Same H0 H1)
    (hs : ∀ (i : Nat) (p : Addr) (l : Int) (h : Option Int) (σ : L2.St) (H1 : Hp), rs[i]? = some (l, h) → SqK c K H1 p [.int l, oV h] → Pv i σ H1 → tb { D with nx := Pv (i + 1), ct := Pv (i + 1), bk := D.nx } (σ.set i1 (some (.ref p))) H1)
    (hd : ∀ σ H1, Pv rs.length σ H1 → D.nx σ H1) : forW (ItS b K a) (gName i1) tb D σ H := by
  refine for_gen (n := rs.length) Pv h0 ?_ ?_ ?_ hd
  · intro i σ1 H1 hi p
    have hi2 : i < ps.length := by rw [hR.2.1]; exact hi
    exact its_go (x := .ref ps[i]) (Z.Same.sqK (hq i σ1 H1 p) hR.1) (by rw [List.getElem?_map, List.getElem?_eq_getElem hi2]; rfl)
  · intro σ1 H1 p
    exact its_stop (Z.Same.sqK (hq _ σ1 H1 p) hR.1) (by rw [List.length_map, hR.2.1]; exact Nat.le_refl _)
  · intro i σ1 H1 x H' hi p y
    have s1 := hq i σ1 H1 p
    obtain ⟨rfl, ex⟩ := its_yld (Z.Same.sqK s1 hR.1) y
    obtain ⟨q, eq, rfl⟩ := of_map ex
    have er : rs[i]? = some (rs[i].1, rs[i].2) := List.getElem?_eq_getElem hi
    exact hs i q _ _ σ1 H' er (Z.Same.sqK s1 (hR.2.2 i q _ eq er)) p
section
variable {P : Program} {w : World} {K : PySem.W.Frag} {mg : Str → Option Value} {base : Heap} {f C : Addr} {fd : FuncData}
/-- the law's own need: a list [start, rises, never] -/
def NLs (b : Bool) (K : PySem.W.Frag) (H : Hp) (l : Addr) (st : Option Int) (rs : Rs) (nv : Option Int) : Prop := ∃ t ps, SqL K H l [oV st, .ref t, oV nv] ∧ Ris b false K H t ps rs
abbrev NL := NLs false
theorem NLs.mono {b : Bool} {K : PySem.W.Frag} {H H' : Hp} {l : Addr} {st nv : Option Int} {rs : Rs} (s : Same H H') (h : NLs b K H l st rs nv) : NLs b K H' l st rs nv := by
  obtain ⟨t, ps, e, h2⟩ := h
  exact ⟨t, ps, s.seq e, h2.mono s⟩
/-! ### _law_value -/
def spLV (K : PySem.W.Frag) : Sp := fun vs H Q _ => ∃ (b : Bool) (st nv k : Option Int) (l : Addr) (rs : Rs), vs = [.ref l, oV k] ∧ NLs b K H l st rs nv ∧ Q (oV (val st rs nv k)) H
theorem ok_value (F : FnP K "_law_value" s_value f fd) : FnOk P w K mg base CX0 1 f fd P_value (spLV K) := by
  refine F.ok sc_value (fun vs H Q E h => ?_) (fun cdv A outer s H vs Q E hr h => ?_)
  · obtain ⟨b, st, nv, k, l, rs, rfl, _⟩ := h
    rfl
  · obtain ⟨b, st, nv, k, l, rs, rfl, ⟨t, ps, hl, hR⟩, q⟩ := h
    refine ⟨_, PSs.nox (pss_cons (ps_if (PW.pt (pw_or (pt_cmpR op_isN (pv 1) pe_non (nomark _)) (pw_or1 (pt_cmpR op_isN (pe_ix ix_list (pv 0) pe_int (fun _ _ => rfl)) pe_non (nomark _))))) (pss_one (ps_ret (pe_ix ix_list (pv 0) pe_int (fun _ _ => rfl)))) pss_nil)
      (pss_cons (ps_set (i := 2) sc_value.nd rfl (by first | exact .inl rfl | exact .inr rfl) (pe_ix ix_list (pv 0) pe_int (fun _ _ => rfl)))
      (pss_cons (ps_for PassesOwn.never rfl (pi_seq (pe_ix ix_list (pv 0) pe_int (fun _ _ => rfl))) (pg_name (i := 3) sc_value.nd rfl (by first | exact .inl rfl | exact .inr rfl))
        (pss_one (ps_if (PW.pt (pw_and (pt_cmpR op_gt (pv 1) (pe_ix ix_tup (pv 3) pe_int (fun _ _ => rfl)) (nomark _)) (pw_and1 (PW.pt (pw_or (pt_cmpR op_isN (pe_ix ix_tup (pv 3) pe_int (fun _ _ => rfl)) pe_non (nomark _)) (pw_or1 (pt_cmpR op_lt (pv 1) (pe_ix ix_tup (pv 3) pe_int (fun _ _ => rfl)) (nomark _)))))))) (pss_one (ps_set (i := 2) sc_value.nd rfl (by first | exact .inl rfl | exact .inr rfl) (pe_op op_sub (pe_op op_add (pv 2) (pv 1)) (pe_ix ix_tup (pv 3) pe_int (fun _ _ => rfl))))) (pss_one (ps_if (pt_cmpR op_gt (pv 1) (pe_ix ix_tup (pv 3) pe_int (fun _ _ => rfl)) (nomark _)) (pss_one (ps_set (i := 2) sc_value.nd rfl (by first | exact .inl rfl | exact .inr rfl) (pe_op op_sub (pe_op op_add (pv 2) (pe_ix ix_tup (pv 3) pe_int (fun _ _ => rfl))) (pe_ix ix_tup (pv 3) pe_int (fun _ _ => rfl))))) pss_nil)))))
      (pss_one (ps_ret (pv 2)))))), ?_⟩
    cases st with
    | none =>
      cases k with
      | none =>
        walk_at "go"
        exact q
      | some i =>
        walk_at "go"
        exact q
    | some s =>
      cases k with
      | none =>
        walk_at "go"
        exact q
      | some k =>
        walk_at "go"
        refine iSeq_of (b := b) (a := t) (fun Q q => ⟨_, rfl, l, _, 1, _, rfl, rfl, hl, rfl, q⟩) hR.1 ?_
        refine for_prsS hR (fun i σ H1 => H1 = H ∧ ∃ (x : Int) (v3 : Option V), x = s + Fs (rs.take i) k ∧ σ = [some (.ref l), some (.int k), some (.int x), v3]) ⟨rfl, s, none, ?_, rfl⟩ ?_ ?_ ?_
        · rw [List.take_zero, Fs_nil, Int.add_zero]
        · rintro i σ H1 ⟨rfl, _⟩
          exact Same.refl _
        · rintro i p lo h σ H1 hi hp ⟨rfl, x, v3, ex, rfl⟩
          have hp : SqT K H1 p [.int lo, oV h] := hp
          have et := Fs_take (k := k) hi
          walk_at "go"
          refine ite2 (fun e => ?_) (fun e => ?_)
          · have hk : lo < k := of_decide_eq_true e
            cases h with
            | none =>
              rw [rise_none (by omega)] at et
              walk_at "go"
              refine ⟨_, _, ?_, rfl⟩
              omega
            | some y =>
              rw [rise_some (by omega)] at et
              walk_at "go"
              refine ite2 (fun e2 => ?_) (fun e2 => ?_)
              · have hx : k < y := of_decide_eq_true e2
                rw [if_pos hx] at et
                walk_at "go"
                refine ⟨_, _, ?_, rfl⟩
                omega
              · have hx : ¬ k < y := fun z => e2 (decide_eq_true z)
                rw [if_neg hx] at et
                walk_at "go"
                refine ite2 (fun e3 => ?_) (fun e3 => absurd (decide_eq_true hk) e3)
                walk_at "go"
                refine ⟨_, _, ?_, rfl⟩
                omega
          · have hk : ¬ lo < k := fun z => e (decide_eq_true z)
            rw [rise_zero (show k ≤ (lo, h).1 by show k ≤ lo; omega)] at et
            walk_at "go"
            refine ite2 (fun e3 => absurd (of_decide_eq_true e3) hk) (fun e3 => ?_)
            refine ⟨rfl, _, _, ?_, rfl⟩
            omega
        · rintro σ H1 ⟨rfl, x, v3, ex, rfl⟩
          rw [List.take_length] at ex
          walk_at "go"
          rw [ex]
          exact q
/-! ### _law_same, _law_at_most -/
def spSame : Sp := fun vs H Q _ => ∃ a : Option Int, vs = [oV a, oV a] ∧ Q (.bl true) H
theorem ok_same (F : FnP K "_law_same" s_same f fd) (m_isinstance : mg "isinstance" = none) (m_int : mg "int" = none) (m_bool : mg "bool" = none) : FnOk P w K mg base CX0 1 f fd P_same spSame := by
  refine F.ok sc_same (fun vs H Q E h => ?_) (fun cdv A outer s H vs Q E hr h => ?_)
  · obtain ⟨a, rfl, _⟩ := h
    rfl
  · obtain ⟨a, rfl, q⟩ := h
    refine ⟨_, PSs.nox (pss_cons (ps_if (pt_cmpR op_isN (pv 1) pe_non (nomark _)) (pss_one (ps_ret (pe_cmpR op_isN (pv 0) pe_non (nomark _)))) pss_nil)
      (pss_one (ps_ret (pe_and (pe_callB call_isi (by rfl) m_isinstance (by decide +kernel) (pa_cons (pv 0) (pa_cons (pe_bltn (v := .ty "int") (by rfl) m_int (by decide +kernel) rfl) pa_nil))) (pe_and (pe_not (pe_callB call_isi (by rfl) m_isinstance (by decide +kernel) (pa_cons (pv 0) (pa_cons (pe_bltn (v := .ty "bool") (by rfl) m_bool (by decide +kernel) rfl) pa_nil)))) (pe_one (pe_cmpR op_eq (pv 0) (pv 1) (nomark _)))))))), ?_⟩
    cases a with
    | none =>
      walk_at "go"
      exact q
    | some i =>
      walk_at "go"
      refine isi (c := "int") (b := true) (.int i) (by decide +kernel) ?_
      walk_at "go"
      refine isi (c := "bool") (b := false) (.int i) (by decide +kernel) ?_
      walk_at "go"
      rw [decide_eq_true rfl]
      exact q
def LOk (st : Option Int) (rs : Rs) (nv : Option Int) : Prop := Ok st rs nv ∧ rs.length ≤ 10 ∧ ∀ s, st = some s → bnd s rs ≤ 10 ^ 40
theorem LOk.good {st nv : Option Int} {rs : Rs} (h : LOk st rs nv) : Good (-1) rs := by
  cases st with
  | none =>
    have e : rs.isEmpty = true := h.1.1
    cases rs with
    | nil => trivial
    | cons _ _ => cases e
  | some s => exact chk_good h.1.1
theorem LOk.nv {rs : Rs} {nv : Option Int} (h : LOk none rs nv) : nv = none := by
  cases nv with
  | none => rfl
  | some v =>
    obtain ⟨t, e, _⟩ := h.1.2.2 v rfl
    cases e
theorem good_at : ∀ {rs : Rs} {e : Int} {i : Nat} {l : Int} {h : Option Int}, Good e rs → rs[i]? = some (l, h) → e < l ∧ ∀ y, h = some y → l < y
  | [], _, i, _, _, _, z => by cases i <;> cases z
  | (l, none) :: r, e, 0, _, _, g, z => by
    cases z
    exact ⟨g.1, nofun⟩
  | (l, some x) :: r, e, 0, _, _, g, z => by
    cases z
    exact ⟨g.1, fun y hy => by cases hy; exact g.2.1⟩
  | (l, none) :: r, e, i + 1, _, _, g, z => by
    have : r = [] := g.2
    subst this
    cases i <;> cases z
  | (l, some x) :: r, e, i + 1, _, _, g, z => by
    have g1 := g.1
    have g2 := g.2.1
    have ih := good_at (i := i) g.2.2 z
    exact ⟨by omega, ih.2⟩
def Pos (pts : List (Option Int)) : Prop := ∀ k ∈ pts, ∀ i, k = some i → 0 ≤ i
theorem Pos.append {a b : List (Option Int)} (ha : Pos a) (hb : Pos b) : Pos (a ++ b) := fun k hk => by
  rcases List.mem_append.mp hk with h | h
  · exact ha k h
  · exact hb k h
theorem pos3 {x y z : Int} (h1 : 0 ≤ x) (h2 : 0 ≤ y) (h3 : 0 ≤ z) : Pos [some x, some y, some z] := fun k hk i e => by
  rcases List.mem_cons.mp hk with h | hk
  · rw [h] at e; cases e; exact h1
  rcases List.mem_cons.mp hk with h | hk
  · rw [h] at e; cases e; exact h2
  rcases List.mem_cons.mp hk with h | hk
  · rw [h] at e; cases e; exact h3
  · cases hk
/-! ### _law_points -/
def spPoints (K : PySem.W.Frag) : Sp := fun vs H Q _ => ∃ (st nv : Option Int) (l : Addr) (rs : Rs), vs = [.ref l] ∧ NL K H l st rs nv ∧ LOk st rs nv ∧ ∀ q H' pts, Same H H' → H' q = some (.lst (pts.map oV)) → Pos pts → pts.length ≤ 65 → Q (.ref q) H'
theorem ok_points (F : FnP K "_law_points" s_points f fd) (m_max : mg "max" = none) : FnOk P w K mg base CX0 1 f fd P_points (spPoints K) := by
  refine F.ok sc_points (fun vs H Q E h => ?_) (fun cdv A outer s H vs Q E hr h => ?_)
  · obtain ⟨st, nv, l, rs, rfl, _⟩ := h
    rfl
  · obtain ⟨st, nv, l, rs, rfl, ⟨t, ps, hl, hR⟩, ok, q⟩ := h
    refine ⟨_, PSs.nox (pss_cons (ps_set (i := 1) sc_points.nd rfl (by first | exact .inl rfl | exact .inr rfl) (pe_lst (pa_cons pe_int (pa_cons pe_int (pa_cons pe_int (pa_cons (pe_op op_pow pe_int pe_int) (pa_cons pe_non pa_nil)))))))
      (pss_cons (ps_for PassesOwn.never rfl (pi_tup (pe_ix ix_list (pv 0) pe_int (fun _ _ => rfl))) (pg_name (i := 2) sc_points.nd rfl (by first | exact .inl rfl | exact .inr rfl))
        (pss_cons (ps_set (i := 1) sc_points.nd rfl (by first | exact .inl rfl | exact .inr rfl) (pe_op op_cat (pv 1) (pe_lst (pa_cons (pe_callB (call_max2 rfl) (by rfl) m_max (by decide +kernel) (pa_cons pe_int (pa_cons (pe_op op_sub (pe_ix ix_tup (pv 2) pe_int (fun _ _ => rfl)) pe_int) pa_nil))) (pa_cons (pe_ix ix_tup (pv 2) pe_int (fun _ _ => rfl)) (pa_cons (pe_op op_add (pe_ix ix_tup (pv 2) pe_int (fun _ _ => rfl)) pe_int) pa_nil))))))
      (pss_one (ps_if (pt_cmpR op_notN (pe_ix ix_tup (pv 2) pe_int (fun _ _ => rfl)) pe_non (nomark _)) (pss_one (ps_set (i := 1) sc_points.nd rfl (by first | exact .inl rfl | exact .inr rfl) (pe_op op_cat (pv 1) (pe_lst (pa_cons (pe_op op_sub (pe_ix ix_tup (pv 2) pe_int (fun _ _ => rfl)) pe_int) (pa_cons (pe_ix ix_tup (pv 2) pe_int (fun _ _ => rfl)) (pa_cons (pe_op op_add (pe_ix ix_tup (pv 2) pe_int (fun _ _ => rfl)) pe_int) pa_nil))))))) pss_nil))))
      (pss_one (ps_ret (pv 1))))), ?_⟩
    walk_at "go"
    intro q0 nq
    have s0 : Same H (upd H q0 (.lst [.int 0, .int 1, .int 2, .int (10 ^ 60), .non])) := same_new nq
    have hl0 := s0.seq hl
    walk_at "go"
    refine ⟨⟨_, (hR.mono s0).1⟩, ?_⟩
    refine for_prs (hR.mono s0) (fun i σ H1 => Same (upd H q0 (.lst [.int 0, .int 1, .int 2, .int (10 ^ 60), .non])) H1 ∧ ∃ (q1 : Addr) (pts : List (Option Int)) (v2 : Option V), σ = [some (.ref l), some (.ref q1), v2] ∧ H1 q1 = some (.lst (pts.map oV)) ∧ Pos pts ∧ pts.length ≤ 5 + 6 * i) ⟨Same.refl _, q0, [some 0, some 1, some 2, some (10 ^ 60), none], none, rfl, upd_same, ?_, by decide⟩ ?_ ?_ ?_
    · intro k hk i e
      rcases List.mem_cons.mp hk with h | hk
      · rw [h] at e; cases e; decide
      rcases List.mem_cons.mp hk with h | hk
      · rw [h] at e; cases e; decide
      rcases List.mem_cons.mp hk with h | hk
      · rw [h] at e; cases e; decide
      rcases List.mem_cons.mp hk with h | hk
      · rw [h] at e; cases e; decide
      rcases List.mem_cons.mp hk with h | hk
      · rw [h] at e; cases e
      · cases hk
    · rintro i σ H1 ⟨s1, _⟩
      exact s1
    · rintro i p lo h σ H1 hi hp ⟨s1, q1, pts, v2, rfl, e1, hp1, hl1⟩
      have hp : SqT K H1 p [.int lo, oV h] := hp
      obtain ⟨g1, g2⟩ := good_at ok.good hi
      have hq1 : SqL K H1 q1 (pts.map oV) := SqL.of e1
      have hi3 : i < rs.length := (List.getElem?_eq_some_iff.mp hi).1
      have hr3 := ok.2.1
      walk_at "go"
      intro b1 nb1
      walk_at "go"
      have s2 : Same H1 (upd H1 b1 (.lst [.int (if lo - 1 > 0 then lo - 1 else 0), .int lo, .int (lo + 1)])) := same_new nb1
      refine ⟨q1, b1, _, _, rfl, rfl, s2 _ _ e1, upd_same, ?_, ?_⟩
      · rw [List.length_map]
        exact Nat.le_trans (show pts.length + 3 ≤ 1000 by omega) (by decide)
      intro q2 nq2
      have s3 := same_new (o := .lst (pts.map oV ++ [.int (if lo - 1 > 0 then lo - 1 else 0), .int lo, .int (lo + 1)])) nq2
      have hp3 : SqT K _ p [.int lo, oV h] := Z.Same.sqT (s2.trans s3) hp
      have hpos : Pos (pts ++ [some (if lo - 1 > 0 then lo - 1 else 0), some lo, some (lo + 1)]) := hp1.append (pos3 (by split <;> omega) (by omega) (by omega))
      have e2 : upd (upd H1 b1 (.lst [.int (if lo - 1 > 0 then lo - 1 else 0), .int lo, .int (lo + 1)])) q2 (.lst (pts.map oV ++ [.int (if lo - 1 > 0 then lo - 1 else 0), .int lo, .int (lo + 1)])) q2 = some (.lst ((pts ++ [some (if lo - 1 > 0 then lo - 1 else 0), some lo, some (lo + 1)]).map oV)) := by
        rw [upd_same, List.map_append]
        rfl
      have len2 : (pts ++ [some (if lo - 1 > 0 then lo - 1 else 0), some lo, some (lo + 1)]).length ≤ 5 + 6 * i + 3 := by
        rw [List.length_append]
        show pts.length + 3 ≤ _
        omega
      have s4 := s2.trans s3
      cases h with
      | none =>
        walk_at "go"
        exact ⟨s1.trans s4, q2, _, _, rfl, e2, hpos, by omega⟩
      | some y =>
        have g3 := g2 y rfl
        walk_at "go"
        intro b2 nb2
        have s5 := same_new (o := .lst [.int (y - 1), .int y, .int (y + 1)]) nb2
        refine ⟨q2, b2, _, _, rfl, rfl, s5 _ _ e2, upd_same, ?_, ?_⟩
        · rw [List.length_map]
          exact Nat.le_trans (show _ + 3 ≤ 1000 by omega) (by decide)
        intro q3 nq3
        have s6 := same_new (o := .lst ((pts ++ [some (if lo - 1 > 0 then lo - 1 else 0), some lo, some (lo + 1)]).map oV ++ [.int (y - 1), .int y, .int (y + 1)])) nq3
        refine ⟨s1.trans (s4.trans (s5.trans s6)), q3, (pts ++ [some (if lo - 1 > 0 then lo - 1 else 0), some lo, some (lo + 1)]) ++ [some (y - 1), some y, some (y + 1)], _, rfl, ?_, hpos.append (pos3 (by omega) (by omega) (by omega)), ?_⟩
        · rw [upd_same]
          simp only [List.map_append]
          rfl
        · rw [List.length_append]
          show _ + 3 ≤ _
          omega
    · rintro σ H1 ⟨s1, q1, pts, v2, rfl, e1, hp1, hl1⟩
      have := ok.2.1
      walk_at "go"
      exact q q1 H1 pts (s0.trans s1) e1 hp1 (by omega)
end
end Z
set_option Elab.async false
set_option linter.all false
set_option maxRecDepth 100000
set_option maxHeartbeats 4000000
namespace Z
open Nd
open PySem PySem.Spec PyProof.Rows L2
open C8 (pss_cut tCut)
local macro_rules | `(tactic| walk_at "num") => `(tactic| first | rfl | omega | decide | exact Nat.le_of_lt (small1000 (by simp)) | exact ⟨by omega, by omega⟩ | exact ⟨by omega, by omega, by omega⟩ | exact ⟨by decide, by decide, by decide⟩ | exact Or.inl ⟨by omega, by omega⟩ | exact Or.inr ⟨by omega, by omega⟩)
local macro_rules | `(tactic| walk_at "go") => `(tactic| repeat (first | refine ⟨_, rfl, ?_⟩ | refine ⟨_, _, rfl, rfl, ?_⟩ | refine ⟨_, _, rfl, ?_⟩ | refine ⟨_, _, rfl, rfl, (by walk_at "num"), ?_⟩ | refine Or.inl ⟨_, rfl, ?_⟩ | refine ⟨_, _, _, _, rfl, rfl, (by assumption), (by rfl), ?_⟩ | refine ⟨_, _, _, _, _, rfl, (by assumption), (by assumption), (by assumption), (by rfl), ?_⟩ | refine ⟨rfl, ?_⟩ | refine And.intro (by walk_at "num") ?_))
abbrev s_need : Stmt := topS 22
abbrev N_need : List Str := ["_law_draws_here", "_law_place", "_law_kind", "_law_start", "_law_rises", "_law_top", "_law_edge", "_law_k", "_law_width", "_law_never"]
abbrev P_need : List Str := ["_law_draws_here", "_law_place"]
theorem sc_need : FnScope N_need P_need (defScope s_need) := ⟨rfl, rfl, rfl, by decide +kernel, rfl, by decide +kernel, by decide +kernel⟩
/-! ### closed pairs, ending before z -/
def Gd : Int → Rs → Int → Prop
  | e, [], z => e < z
  | e, (l, some h) :: r, z => e < l ∧ l < h ∧ Gd h r z
  | _, (_, none) :: _, _ => False
theorem Gd.good : ∀ {rs : Rs} {e z : Int}, Gd e rs z → Good e rs
  | [], _, _, _ => trivial
  | (_, some _) :: _, _, _, g => ⟨g.1, g.2.1, g.2.2.good⟩
  | (_, none) :: _, _, _, g => by cases g
theorem Gd.snoc : ∀ {rs : Rs} {e z h z' : Int}, Gd e rs z → z < h → h < z' → Gd e (rs ++ [(z, some h)]) z'
  | [], _, _, _, _, g, a, b => ⟨g, a, b⟩
  | (_, some _) :: _, _, _, _, _, g, a, b => ⟨g.1, g.2.1, g.2.2.snoc a b⟩
  | (_, none) :: _, _, _, _, _, g, _, _ => by cases g
theorem Gd.opened : ∀ {rs : Rs} {e z l : Int} {h : Option Int}, Gd e (rs ++ [(l, h)]) z → Good e (rs ++ [(l, none)])
  | [], _, _, _, some _, g => ⟨g.1, rfl⟩
  | [], _, _, _, none, g => by cases g
  | (_, some _) :: _, _, _, _, _, g => ⟨g.1, g.2.1, g.2.2.opened⟩
  | (_, none) :: _, _, _, _, _, g => by cases g
theorem top_snoc : ∀ {rs : Rs} {e z t T h : Int}, Gd e rs z → top t rs = some T → top t (rs ++ [(z, some h)]) = some (T + h - z)
  | [], _, z, t, T, h, _, e => by
    cases e
    rfl
  | (_, some _) :: r, _, _, _, _, _, g, e => top_snoc (rs := r) g.2.2 e
  | (_, none) :: _, _, _, _, _, _, g, _ => by cases g
theorem bnd_closed : ∀ {rs : Rs} {e z t T : Int}, Gd e rs z → top t rs = some T → bnd t rs = T
  | [], _, _, _, _, _, e => Option.some.inj e
  | (_, some _) :: r, _, _, _, _, g, e => bnd_closed (rs := r) g.2.2 e
  | (_, none) :: _, _, _, _, _, g, _ => by cases g
theorem bnd_open : ∀ {rs : Rs} {e z t T l : Int} {h : Option Int}, Gd e (rs ++ [(l, h)]) z → top t (rs ++ [(l, h)]) = some T → bnd t (rs ++ [(l, none)]) ≤ max T l ∧ l < z
  | [], e, z, t, T, l, some h, g, k => by
    have k : t + h - l = T := Option.some.inj k
    have g1 := g.2.1
    have g2 : h < z := g.2.2
    show (if l > t then l else t) ≤ _ ∧ _
    split <;> omega
  | [], _, _, _, _, _, none, g, _ => by cases g
  | (_, some _) :: r, _, _, _, _, _, _, g, k => bnd_open (rs := r) g.2.2 k
  | (_, none) :: _, _, _, _, _, _, _, g, _ => by cases g
/-! ### the draws -/
structure Tk (K : PySem.W.Frag) (a p : Addr) (ds : List Int) (n : Nat) (H0 H1 : Hp) : Prop where
  hA : H1 a = some (.lst (ds.map V.int))
  hd : Dr n ds
  ne : a ≠ p
  sb : SB p H0 H1
  pl : ∃ m : Nat, H1 p = some (.lst [.int (m : Int)])
theorem Tk.more {K : PySem.W.Frag} {a p : Addr} {ds : List Int} {n : Nat} {H0 H1 H2 : Hp} (t : Tk K a p ds n H0 H1) (s : Same H1 H2) : Tk K a p ds n H0 H2 := by
  obtain ⟨m, e⟩ := t.pl
  exact ⟨s _ _ t.hA, t.hd, t.ne, t.sb.trans (Z.Same.sb s), m, s _ _ e⟩
theorem Tk.mut {K : PySem.W.Frag} {a p q : Addr} {ds : List Int} {n : Nat} {H0 H1 : Hp} {o : HO} (t : Tk K a p ds n H0 H1) (h : H0 q = none) (h2 : SB q H1 (upd H1 q o)) (nq : q ≠ p) (na : upd H1 q o a = some (.lst (ds.map V.int))) : Tk K a p ds n H0 (upd H1 q o) := by
  obtain ⟨m, e⟩ := t.pl
  refine ⟨na, t.hd, t.ne, fun b u n1 n2 => ?_, m, h2 _ _ nq.symm e⟩
  exact h2 _ _ (ne_of_none n2 h) (t.sb b u n1 n2)
theorem Tk.next {K : PySem.W.Frag} {a p : Addr} {ds : List Int} {n m : Nat} {H0 H1 : Hp} (t : Tk K a p ds n H0 H1) (e : H1 p = some (.lst [.int (m : Int)])) : Tk K a p ds n H0 (upd H1 p (.lst [.int ((m + 1 : Nat) : Int)])) ∧ SB p H1 (upd H1 p (.lst [.int ((m + 1 : Nat) : Int)])) := by
  have sb : SB p H1 (upd H1 p (.lst [.int ((m + 1 : Nat) : Int)])) := SB.upd (Z.Same.sb (Same.refl H1))
  exact ⟨⟨sb _ _ t.ne t.hA, t.hd, t.ne, t.sb.trans sb, m + 1, upd_same⟩, sb⟩
/-! ### the list of pairs while it grows -/
def RisH (H : Hp) (a : Addr) (ps : List Addr) (rs : Rs) : Prop := H a = some (.lst (ps.map V.ref)) ∧ ps.length = rs.length ∧ ∀ (i : Nat) (p : Addr) (q : Int × Option Int), ps[i]? = some p → rs[i]? = some q → H p = some (.tup [.int q.1, oV q.2])
theorem RisH.sb {H H' : Hp} {a p : Addr} {ps : List Addr} {rs : Rs} {xs : List V} (s : SB p H H') (ne : a ≠ p) (hp : H p = some (.lst xs)) (r : RisH H a ps rs) : RisH H' a ps rs := ⟨s _ _ ne r.1, r.2.1, fun i q z h1 h2 => by
  have e := r.2.2 i q z h1 h2
  refine s _ _ (fun w => ?_) e
  rw [w, hp] at e
  cases e⟩
theorem RisH.more {H H' : Hp} {a : Addr} {ps : List Addr} {rs : Rs} (s : Same H H') (r : RisH H a ps rs) : RisH H' a ps rs := ⟨s _ _ r.1, r.2.1, fun i q z h1 h2 => s _ _ (r.2.2 i q z h1 h2)⟩
theorem RisH.ris {K : PySem.W.Frag} {H : Hp} {a : Addr} {ps : List Addr} {rs : Rs} (r : RisH H a ps rs) : Ris true false K H a ps rs := ⟨SqL.of r.1, r.2.1, fun i q z h1 h2 => .inl (.inl (r.2.2 i q z h1 h2))⟩
theorem RisH.snoc {H : Hp} {a T : Addr} {ps : List Addr} {rs : Rs} {x : Int} {y : Option Int} (r : RisH H a ps rs) (hT : H T = some (.tup [.int x, oV y])) : RisH (upd H a (.lst (ps.map V.ref ++ [.ref T]))) a (ps ++ [T]) (rs ++ [(x, y)]) := by
  have ne : ∀ {q : Addr} {xs : List V}, H q = some (.tup xs) → q ≠ a := fun e w => by
    rw [w, r.1] at e
    cases e
  refine ⟨by rw [upd_same, List.map_append]; rfl, by rw [List.length_append, List.length_append, r.2.1]; rfl, fun i q z h1 h2 => ?_⟩
  by_cases hlt : i < ps.length
  · rw [List.getElem?_append_left hlt] at h1
    rw [List.getElem?_append_left (by rw [← r.2.1]; exact hlt)] at h2
    have e := r.2.2 i q z h1 h2
    rw [upd_ne (ne e)]
    exact e
  · rw [List.getElem?_append_right (by omega)] at h1
    rw [List.getElem?_append_right (by rw [← r.2.1]; omega)] at h2
    have h3 : i - ps.length = 0 := by
      have := (List.getElem?_eq_some_iff.mp h1).1
      simp at this
      omega
    rw [h3] at h1
    rw [← r.2.1, h3] at h2
    obtain rfl : T = q := Option.some.inj h1
    obtain rfl := Option.some.inj h2
    rw [upd_ne (ne hT)]
    exact hT
theorem cut_last (xs : List V) (v : V) : cutV (xs ++ [v]) none (some (-1)) = xs := by
  unfold cutV
  have h0 : HT.sIx (xs ++ [v]).length 0 none = 0 := rfl
  have h1 : HT.sIx (xs ++ [v]).length (xs ++ [v]).length (some (-1)) = xs.length := by
    rw [List.length_append]
    show HT.sIx (xs.length + 1) (xs.length + 1) (some (-1)) = xs.length
    unfold HT.sIx
    simp
    omega
  rw [h0, h1]
  simp
section
variable {P : Program} {w : World} {K : PySem.W.Frag} {mg : Str → Option Value} {base : Heap} {f C : Addr} {fd : FuncData}
def spLN (K : PySem.W.Frag) : Sp := fun vs H Q _ => ∃ (a p : Addr) (n : Nat) (ds : List Int), vs = [.ref a, .ref p] ∧ Tk K a p ds n H H ∧ ∀ l H' st rs nv, SB p H H' → NL K H' l st rs nv → LOk st rs nv → Q (.ref l) H'
theorem ok_need (F : FnP K "_law_need" s_need f fd) (m_int : mg "int" = none) (m_range : mg "range" = none) (m_len : mg "len" = none) (m_tuple : mg "tuple" = none) (c_take : Cal P w K mg base 1 "_law_take" (spTake K)) : FnOk P w K mg base CX0 2 f fd P_need (spLN K) := by
  refine F.ok sc_need (fun vs H Q E h => ?_) (fun cdv A outer s H vs Q E hr h => ?_)
  · obtain ⟨a, p, n, ds, rfl, _⟩ := h
    rfl
  · obtain ⟨a, p, n, ds, rfl, hT, q⟩ := h
    have hS := hT.hA
    refine ⟨_, PSs.nox (pss_cons (ps_set (i := 2) sc_need.nd rfl (by first | exact .inl rfl | exact .inr rfl) (pe_cl c_take hr (by decide) (by rfl) (pa_cons (pv 0) (pa_cons (pv 1) pa_nil))))
      (pss_cons (ps_if (pt_cmpR op_eq (pe_op op_mod (pe_callTy call_int1 (by rfl) m_int (by decide +kernel) (pa_cons (pv 2) pa_nil)) pe_int) pe_int (nomark _)) (pss_one (ps_ret (pe_lst (pa_cons pe_non (pa_cons (pe_tup pa_nil) (pa_cons pe_non pa_nil)))))) pss_nil)
      (pss_cons (ps_set (i := 3) sc_need.nd rfl (by first | exact .inl rfl | exact .inr rfl) (pe_op op_mod (pe_callTy call_int1 (by rfl) m_int (by decide +kernel) (pa_cons (pe_cl c_take hr (by decide) (by rfl) (pa_cons (pv 0) (pa_cons (pv 1) pa_nil))) pa_nil)) pe_int))
      (pss_cut (ps_if (pt_cmpR op_eq (pe_op op_mod (pe_callTy call_int1 (by rfl) m_int (by decide +kernel) (pa_cons (pe_op op_fdiv (pv 2) pe_int) pa_nil)) pe_int) pe_int (nomark _)) (pss_one (ps_set (i := 3) sc_need.nd rfl (by first | exact .inl rfl | exact .inr rfl) (pe_op op_add (pv 3) (pe_op op_pow pe_int pe_int)))) pss_nil)
      (pss_cons (ps_set (i := 4) sc_need.nd rfl (by first | exact .inl rfl | exact .inr rfl) (pe_lst pa_nil))
      (pss_cons (ps_set (i := 5) sc_need.nd rfl (by first | exact .inl rfl | exact .inr rfl) (pv 3))
      (pss_cons (ps_set (i := 6) sc_need.nd rfl (by first | exact .inl rfl | exact .inr rfl) (pe_op op_mod (pe_callTy call_int1 (by rfl) m_int (by decide +kernel) (pa_cons (pe_cl c_take hr (by decide) (by rfl) (pa_cons (pv 0) (pa_cons (pv 1) pa_nil))) pa_nil)) pe_int))
      (pss_cons (ps_for PassesOwn.never rfl (pi_range1 (by rfl) m_range (pa_cons (pe_op op_mod (pe_callTy call_int1 (by rfl) m_int (by decide +kernel) (pa_cons (pe_cl c_take hr (by decide) (by rfl) (pa_cons (pv 0) (pa_cons (pv 1) pa_nil))) pa_nil)) pe_int) pa_nil)) (pg_name (i := 7) sc_need.nd rfl (by first | exact .inl rfl | exact .inr rfl))
        (pss_cons (ps_set (i := 8) sc_need.nd rfl (by first | exact .inl rfl | exact .inr rfl) (pe_op op_add pe_int (pe_op op_mod (pe_callTy call_int1 (by rfl) m_int (by decide +kernel) (pa_cons (pe_cl c_take hr (by decide) (by rfl) (pa_cons (pv 0) (pa_cons (pv 1) pa_nil))) pa_nil)) pe_int)))
      (pss_cut (ps_if (pt_cmpR op_eq (pe_op op_mod (pe_callTy call_int1 (by rfl) m_int (by decide +kernel) (pa_cons (pe_op op_fdiv (pv 2) pe_int) pa_nil)) pe_int) pe_int (nomark _)) (pss_one (ps_set (i := 8) sc_need.nd rfl (by first | exact .inl rfl | exact .inr rfl) (pe_op op_mul (pv 8) (pe_op op_pow pe_int pe_int)))) pss_nil)
      (pss_cons (ps_expr (pe_bm PySem.F.plainAttrs_list PySem.F.slot_list_append PySem.F.type_list_append mt_append (pv 4) (pa_cons (pe_tup (pa_cons (pv 6) (pa_cons (pe_op op_add (pv 6) (pv 8)) pa_nil))) pa_nil)))
      (pss_cons (ps_set (i := 5) sc_need.nd rfl (by first | exact .inl rfl | exact .inr rfl) (pe_op op_add (pv 5) (pv 8)))
      (pss_one (ps_set (i := 6) sc_need.nd rfl (by first | exact .inl rfl | exact .inr rfl) (pe_op op_add (pe_op op_add (pe_op op_add (pv 6) (pv 8)) pe_int) (pe_op op_mod (pe_callTy call_int1 (by rfl) m_int (by decide +kernel) (pa_cons (pe_cl c_take hr (by decide) (by rfl) (pa_cons (pv 0) (pa_cons (pv 1) pa_nil))) pa_nil)) pe_int)))))))))
      (pss_cut (ps_if (PW.pt (pw_and (pt_cmpR op_gt (pe_callB call_len_seq (by rfl) m_len PySem.boot_len (pa_cons (pv 4) pa_nil)) pe_int (nomark _)) (pw_and1 (pt_cmpR op_eq (pe_op op_mod (pe_callTy call_int1 (by rfl) m_int (by decide +kernel) (pa_cons (pe_op op_fdiv (pv 2) pe_int) pa_nil)) pe_int) pe_int (nomark _))))) (pss_one (ps_ret (pe_lst (pa_cons (pv 3) (pa_cons (pe_callTy call_tuple_of (by rfl) m_tuple (by decide +kernel) (pa_cons (pe_op op_cat (pe_slice sl_list (pv 4) po_none (po_some (pe_un un_neg pe_int))) (pe_lst (pa_cons (pe_tup (pa_cons (pe_ix ix_tup (pe_ix ix_list (pv 4) (pe_un un_neg pe_int) (fun _ _ => rfl)) pe_int (fun _ _ => rfl)) (pa_cons pe_non pa_nil))) pa_nil))) pa_nil)) (pa_cons pe_non pa_nil)))))) pss_nil)
      (pss_cons (ps_set (i := 9) sc_need.nd rfl (by first | exact .inl rfl | exact .inr rfl) pe_non)
      (pss_cut (ps_if (pt_cmpR op_eq (pe_op op_mod (pe_callTy call_int1 (by rfl) m_int (by decide +kernel) (pa_cons (pe_op op_fdiv (pv 2) pe_int) pa_nil)) pe_int) pe_int (nomark _)) (pss_one (ps_set (i := 9) sc_need.nd rfl (by first | exact .inl rfl | exact .inr rfl) (pe_op op_add (pv 5) (pe_op op_mod (pe_callTy call_int1 (by rfl) m_int (by decide +kernel) (pa_cons (pe_cl c_take hr (by decide) (by rfl) (pa_cons (pv 0) (pa_cons (pv 1) pa_nil))) pa_nil)) pe_int)))) pss_nil)
      (pss_one (ps_ret (pe_lst (pa_cons (pv 3) (pa_cons (pe_callTy call_tuple_of (by rfl) m_tuple (by decide +kernel) (pa_cons (pv 4) pa_nil)) (pa_cons (pv 9) pa_nil))))))))))))))))), ?_⟩
    walk_at "go"
    obtain ⟨m, em⟩ := hT.pl
    refine ⟨a, p, n, m, ds, rfl, SqL.of hT.hA, hT.hd, em, hT.ne, fun kd kd1 kd2 => ?_⟩
    obtain ⟨hT', sbkd⟩ := hT.next em
    generalize eH : upd H p (.lst [.int ((m + 1 : Nat) : Int)]) = H1 at hT' sbkd ⊢
    have hT0 := hT
    clear hT
    have hT := hT'
    clear hT'
    walk_at "go"
    refine ite2 (fun e => ?_) (fun e => ?_)
    · walk_at "go"
      intro t nt
      walk_at "go"
      intro l nl
      have s1 := same_new (o := .tup []) nt
      have s2 := same_new (o := .lst [.non, .ref t, .non]) nl
      refine q l _ none [] none ((hT.more s1).more s2).sb ⟨t, [], SqL.of upd_same, ris_nil (.inl (.inl (s2 _ _ upd_same)))⟩ ⟨⟨rfl, nofun, nofun⟩, by decide, nofun⟩
    · walk_at "go"
      obtain ⟨m, em⟩ := hT.pl
      refine ⟨a, p, n, m, ds, rfl, SqL.of hT.hA, hT.hd, em, hT.ne, fun ra ra1 ra2 => ?_⟩
      obtain ⟨hT', sbra⟩ := hT.next em
      generalize eH : upd H1 p (.lst [.int ((m + 1 : Nat) : Int)]) = H2 at hT' sbra ⊢
      have hT0 := hT
      clear hT
      have hT := hT'
      clear hT'
      walk_at "go"
      refine ⟨fun σ' H' => H' = H2 ∧ ∃ st : Int, 0 ≤ st ∧ st ≤ 2 * 10 ^ 30 ∧ σ' = [some (.ref a), some (.ref p), some (.int kd), some (.int st), none, none, none, none, none, none], ?_, ?_⟩
      · walk_at "go"
        refine ite2 (fun e => ?_) (fun e => ?_)
        · walk_at "go"
          have e30 : (10 : Int) ^ Int.toNat 30 = 1000000000000000000000000000000 := by decide
          exact ⟨_, by omega, by omega, rfl⟩
        · exact ⟨rfl, _, by omega, by omega, rfl⟩
      · rintro σ' H' ⟨rfl, st, b1, b2, rfl⟩
        walk_at "go"
        intro R nR
        have Rp : R ≠ p := by
          obtain ⟨m, em⟩ := hT.pl
          exact (ne_of_none em nR).symm
        have nR0 : H R = none := by
          cases e : H R with
          | none => rfl
          | some o =>
            have := hT.sb _ _ Rp e
            rw [this] at nR
            cases nR
        have aR : a ≠ R := ne_of_none hT.hA nR
        have hT0 := hT
        clear hT
        have hT := hT0.more (same_new (o := .lst []) nR)
        have hRR : RisH (upd H' R (.lst [])) R [] [] := ⟨upd_same, rfl, fun i p q h => nomatch h⟩
        generalize eR : upd H' R (.lst []) = H3 at hT hRR ⊢
        walk_at "go"
        obtain ⟨m, em⟩ := hT.pl
        refine ⟨a, p, n, m, ds, rfl, SqL.of hT.hA, hT.hd, em, hT.ne, fun rb rb1 rb2 => ?_⟩
        obtain ⟨hT', sbrb⟩ := hT.next em
        generalize eH : upd H3 p (.lst [.int ((m + 1 : Nat) : Int)]) = H4 at hT' sbrb ⊢
        have hT0 := hT
        clear hT
        have hT := hT'
        clear hT'
        walk_at "go"
        have hR4 := hRR.sb sbrb Rp em
        obtain ⟨m, em⟩ := hT.pl
        refine ⟨a, p, n, m, ds, rfl, SqL.of hT.hA, hT.hd, em, hT.ne, fun rc rc1 rc2 => ?_⟩
        obtain ⟨hT', sbrc⟩ := hT.next em
        generalize eH : upd H4 p (.lst [.int ((m + 1 : Nat) : Int)]) = H5 at hT' sbrc ⊢
        have hT0 := hT
        clear hT
        have hT := hT'
        clear hT'
        have hR5 := hR4.sb sbrc Rp em
        walk_at "go"
        refine for_gen (n := (rc % 6).toNat) (fun i σ H6 => ∃ (ps : List Addr) (rs : Rs) (T ed : Int) (v7 v8 : Option V), Tk K a p ds n H H6 ∧ RisH H6 R ps rs ∧ rs.length = i ∧ Gd (-1) rs ed ∧ top st rs = some T ∧ 0 ≤ T ∧ T ≤ 2 * 10 ^ 30 + i * 10 ^ 21 ∧ 0 ≤ ed ∧ ed ≤ 10 + i * 10 ^ 21 ∧ σ = [some (.ref a), some (.ref p), some (.int kd), some (.int st), some (.ref R), some (.int T), some (.int ed), v7, v8, none]) ⟨[], [], st, _, none, none, hT, hR5, rfl, ?_, rfl, b1, by omega, ?_, ?_, rfl⟩ (fun i σ H6 hi _ => hi) (fun σ H6 _ => Nat.le_refl _) ?_ ?_
        · show -1 < rb % 6
          omega
        · omega
        · omega
        · rintro i σ H6 x H7 hi ⟨ps, rs, T, ed, v7, v8, hT, hRi, hlen, hgd, htop, t1, t2, d1, d2, rfl⟩ ⟨rfl, rfl⟩
          walk_at "go"
          obtain ⟨m, em⟩ := hT.pl
          refine ⟨a, p, n, m, ds, rfl, SqL.of hT.hA, hT.hd, em, hT.ne, fun wa wa1 wa2 => ?_⟩
          obtain ⟨hT', sbwa⟩ := hT.next em
          generalize eH : upd H7 p (.lst [.int ((m + 1 : Nat) : Int)]) = H8 at hT' sbwa ⊢
          have hT0 := hT
          clear hT
          have hT := hT'
          clear hT'
          have hR8 := hRi.sb sbwa Rp em
          walk_at "go"
          refine ⟨fun σ' H9 => H9 = H8 ∧ ∃ wd : Int, 1 ≤ wd ∧ wd ≤ 6 * 10 ^ 20 ∧ σ' = [some (.ref a), some (.ref p), some (.int kd), some (.int st), some (.ref R), some (.int T), some (.int ed), some (.int (0 + (i : Int))), some (.int wd), none], ?_, ?_⟩
          · walk_at "go"
            refine ite2 (fun e => ?_) (fun e => ?_)
            · walk_at "go"
              have e20 : (10 : Int) ^ Int.toNat 20 = 100000000000000000000 := by decide
              refine ⟨_, ?_, ?_, rfl⟩ <;> rw [e20] <;> omega
            · exact ⟨rfl, _, by omega, by omega, rfl⟩
          · rintro σ' H9 ⟨rfl, wd, w1, w2, rfl⟩
            walk_at "go"
            refine ⟨.inl ⟨rfl, _, .inl (.inl hR8.1)⟩, ?_⟩
            walk_at "go"
            intro T0 nT0
            walk_at "go"
            have s9 : Same H9 (upd H9 T0 (.tup [.int ed, .int (ed + wd)])) := same_new nT0
            have hR9 := hR8.more s9
            have i5 : i < 6 := by omega
            refine ⟨_, _, _, rfl, rfl, hR9.1, ?_, ?_⟩
            · rw [List.length_map, hR9.2.1, hlen]
              exact Nat.lt_of_lt_of_le i5 (by decide)
            have hR10 := hR9.snoc (y := some (ed + wd)) upd_same
            have hT10 : Tk K a p ds n H (upd (upd H9 T0 (.tup [.int ed, .int (ed + wd)])) R (.lst (ps.map V.ref ++ [.ref T0]))) := by
              have h1 := hT.more s9
              have h2 : SB R (upd H9 T0 (.tup [.int ed, .int (ed + wd)])) (upd (upd H9 T0 (.tup [.int ed, .int (ed + wd)])) R (.lst (ps.map V.ref ++ [.ref T0]))) := SB.upd (Z.Same.sb (Same.refl _))
              exact h1.mut nR0 h2 Rp (h2 _ _ aR h1.hA)
            have hT0 := hT
            clear hT
            have hT := hT10
            generalize eX : upd (upd H9 T0 (.tup [.int ed, .int (ed + wd)])) R (.lst (ps.map V.ref ++ [.ref T0])) = H10 at hT hR10 ⊢
            walk_at "go"
            obtain ⟨m, em⟩ := hT.pl
            refine ⟨a, p, n, m, ds, rfl, SqL.of hT.hA, hT.hd, em, hT.ne, fun wb wb1 wb2 => ?_⟩
            obtain ⟨hT', sbwb⟩ := hT.next em
            generalize eH : upd H10 p (.lst [.int ((m + 1 : Nat) : Int)]) = H11 at hT' sbwb ⊢
            have hT0 := hT
            clear hT
            have hT := hT'
            clear hT'
            have hR11 := hR10.sb sbwb Rp em
            walk_at "go"
            refine ⟨_, _, _, _, _, _, hT, hR11, ?_, hgd.snoc (h := ed + wd) (by omega) (z' := ed + wd + 1 + wb % 6) (by omega), (top_snoc hgd htop).trans ?_, ?_, ?_, ?_, ?_, rfl⟩
            · rw [List.length_append, hlen]
              rfl
            · rw [show T + (ed + wd) - ed = T + wd by omega]
            · omega
            · omega
            · omega
            · omega
        · rintro σ H6 ⟨ps, rs, T, ed, v7, v8, hT, hRi, hlen, hgd, htop, t1, t2, d1, d2, rfl⟩
          have i5 : (rc % 6).toNat < 6 := by omega
          have e30 : (10 : Int) ^ 30 = 1000000000000000000000000000000 := by decide
          have e21 : (10 : Int) ^ 21 = 1000000000000000000000 := by decide
          have t3 : T ≤ 10 ^ 39 := by
            rw [e30, e21] at t2
            have e39 : (10 : Int) ^ 39 = 1000000000000000000000000000000000000000 := by decide
            omega
          have d3 : ed ≤ 10 ^ 39 := by
            rw [e21] at d2
            have e39 : (10 : Int) ^ 39 = 1000000000000000000000000000000000000000 := by decide
            omega
          refine cut_stay ?_ ?_
          · walk_at "go"
            refine ⟨R, _, rfl, .inl (SqL.of hRi.1), ?_⟩
            rw [List.length_map, hRi.2.1]
            walk_at "go"
            refine ite2 (fun e => ?_) (fun e => ?_)
            · have hl : 0 < rs.length := by
                have := of_decide_eq_true e
                omega
              walk_at "go"
              refine ite2 (fun e2 => ?_) (fun e2 => ?_)
              · rcases List.eq_nil_or_concat rs with rfl | ⟨r, ⟨x, h⟩, e3⟩
                · cases hl
                rw [List.concat_eq_append] at e3
                subst e3
                obtain ⟨ps', pl, rfl⟩ : ∃ qs q, ps = qs ++ [q] := by
                  rcases List.eq_nil_or_concat ps with e | ⟨qs, q, e⟩
                  · have := hRi.2.1
                    rw [e, List.length_append] at this
                    simp at this
                  · exact ⟨qs, q, by rw [e, List.concat_eq_append]⟩
                have el : ps'.length = r.length := by
                  have := hRi.2.1
                  rw [List.length_append, List.length_append] at this
                  simpa using this
                have epl : H6 pl = some (.tup [.int x, oV h]) := hRi.2.2 r.length pl (x, h) (by rw [List.getElem?_append_right (by omega), el, Nat.sub_self]; rfl) (by rw [List.getElem?_append_right (by omega), Nat.sub_self]; rfl)
                walk_at "go"
                refine ⟨R, _, rfl, SqL.of hRi.1, fun c1 nc1 => ?_⟩
                have ec : cutV ((ps' ++ [pl]).map V.ref) none (some (-1)) = ps'.map V.ref := by
                  rw [List.map_append]
                  exact cut_last _ _
                rw [ec]
                have s1 := same_new (o := .lst (ps'.map V.ref)) nc1
                have hpl : SqT K _ pl [.int x, oV h] := .inl (.inl (s1 _ _ epl))
                walk_at "go"
                refine ⟨R, _, _, _, rfl, rfl, SqL.of (s1 _ _ hRi.1), (by rw [List.map_append]; exact atI_last _ _), ?_⟩
                walk_at "go"
                intro c2 nc2
                have s2 := same_new (o := .tup [.int x, .non]) nc2
                walk_at "go"
                intro c3 nc3
                have s3 := same_new (o := .lst [.ref c2]) nc3
                walk_at "go"
                refine ⟨c1, c3, _, _, rfl, rfl, s3 _ _ (s2 _ _ upd_same), upd_same, ?_, fun c4 nc4 => ?_⟩
                · rw [List.length_map, el]
                  rw [List.length_append] at hlen
                  exact Nat.le_trans (show r.length + 1 ≤ 1000 by omega) (by decide)
                have s4 := same_new (o := .lst (ps'.map V.ref ++ [.ref c2])) nc4
                walk_at "go"
                refine ⟨c4, _, rfl, .inl ⟨.inl (.inl upd_same), fun t nt => ?_⟩⟩
                have s5 := same_new (o := .tup (ps'.map V.ref ++ [.ref c2])) nt
                walk_at "go"
                intro l nl
                have s6 := same_new (o := .lst [.int st, .ref t, .non]) nl
                have s16 := s1.trans (s2.trans (s3.trans (s4.trans (s5.trans s6))))
                obtain ⟨g1, g2⟩ := bnd_open hgd htop
                refine q l _ (some st) (r ++ [(x, none)]) none (hT.more s16).sb ⟨t, ps' ++ [c2], SqL.of upd_same, .inl (.inl ?_), ?_, ?_⟩ ⟨⟨good_chk hgd.opened, fun s hs => by cases hs; exact b1, nofun⟩, ?_, fun s hs => ?_⟩
                · rw [List.map_append]
                  exact s6 _ _ upd_same
                · rw [List.length_append, List.length_append, el]
                  rfl
                · intro i p1 q1 h1 h2
                  by_cases hlt : i < ps'.length
                  · rw [List.getElem?_append_left hlt] at h1
                    rw [List.getElem?_append_left (by rw [← el]; exact hlt)] at h2
                    exact .inl (.inl (s16 _ _ (hRi.2.2 i p1 q1 (by rw [List.getElem?_append_left hlt]; exact h1) (by rw [List.getElem?_append_left (by rw [← el]; exact hlt)]; exact h2))))
                  · rw [List.getElem?_append_right (by omega)] at h1
                    rw [List.getElem?_append_right (by omega)] at h2
                    have h3 : i - ps'.length = 0 := by
                      have := (List.getElem?_eq_some_iff.mp h1).1
                      simp at this
                      omega
                    rw [h3] at h1
                    rw [← el, h3] at h2
                    obtain rfl : c2 = p1 := Option.some.inj h1
                    obtain rfl := Option.some.inj h2
                    exact .inl (.inl (s6 _ _ (s5 _ _ (s4 _ _ (s3 _ _ upd_same)))))
                · rw [List.length_append] at hlen ⊢
                  have : ([(x, (none : Option Int))]).length = 1 := rfl
                  have : ([(x, h)]).length = 1 := rfl
                  omega
                · cases hs
                  have e39 : (10 : Int) ^ 39 = 1000000000000000000000000000000000000000 := by decide
                  have e40 : (10 : Int) ^ 40 = 10000000000000000000000000000000000000000 := by decide
                  rw [e40]
                  rw [e39] at t3 d3
                  omega
              · exact ⟨rfl, rfl⟩
            · walk_at "go"
              rfl
          · walk_at "go"
            refine ⟨fun σ' H7 => ∃ nv : Option Int, Tk K a p ds n H H7 ∧ RisH H7 R ps rs ∧ (∀ v, nv = some v → T ≤ v) ∧ σ' = [some (.ref a), some (.ref p), some (.int kd), some (.int st), some (.ref R), some (.int T), some (.int ed), v7, v8, some (oV nv)], ?_, ?_⟩
            · walk_at "go"
              refine ite2 (fun e => ?_) (fun e => ?_)
              · walk_at "go"
                obtain ⟨m, em⟩ := hT.pl
                refine ⟨a, p, n, m, ds, rfl, SqL.of hT.hA, hT.hd, em, hT.ne, fun na na1 na2 => ?_⟩
                obtain ⟨hT', sbna⟩ := hT.next em
                generalize eH : upd H6 p (.lst [.int ((m + 1 : Nat) : Int)]) = H7 at hT' sbna ⊢
                have hT0 := hT
                clear hT
                have hT := hT'
                clear hT'
                have hR7 := hRi.sb sbna Rp em
                walk_at "go"
                exact ⟨some (T + na % 5), hT, hR7, fun v hv => by cases hv; omega, rfl⟩
              · exact ⟨none, hT, hRi, nofun, rfl⟩
            · rintro σ' H7 ⟨nv, hT, hR7, hnv, rfl⟩
              walk_at "go"
              refine ⟨R, _, rfl, .inl ⟨.inl (.inl hR7.1), fun t nt => ?_⟩⟩
              walk_at "go"
              intro l nl
              have s1 : Same H7 (upd H7 t (.tup (ps.map V.ref))) := same_new nt
              have s2 := same_new (o := .lst [.int st, .ref t, oV nv]) nl
              have r1 : Ris true false K H7 R ps rs := hR7.ris
              have r2 : Ris false false K (upd H7 t (.tup (ps.map V.ref))) t ps rs := ⟨.inl (.inl upd_same), hR7.2.1, fun i p q h1 h2 => Z.Same.sqK s1 (r1.2.2 i p q h1 h2)⟩
              refine q l _ (some st) rs nv ((hT.more s1).more s2).sb ⟨t, ps, SqL.of upd_same, r2.mono s2⟩ ⟨⟨good_chk hgd.good, fun s hs => by cases hs; exact b1, fun v hv => ⟨T, htop, hnv v hv⟩⟩, by omega, fun s hs => ?_⟩
              cases hs
              rw [bnd_closed hgd htop]
              exact Int.le_trans t3 (by decide)
end
end Z
set_option Elab.async false
set_option linter.all false
set_option maxRecDepth 100000
set_option maxHeartbeats 4000000
namespace Z
open Nd
open PySem PySem.Spec PyProof.Rows L2
open C8 (pss_cut tCut)
local macro_rules | `(tactic| walk_at "num") => `(tactic| first | rfl | omega | decide | exact Nat.le_of_lt (small1000 (by simp)) | exact ⟨by omega, by omega⟩ | exact ⟨by omega, by omega, by omega⟩ | exact ⟨by decide, by decide, by decide⟩ | exact Or.inl ⟨by omega, by omega⟩ | exact Or.inr ⟨by omega, by omega⟩)
local macro_rules | `(tactic| walk_at "go") => `(tactic| repeat (first | refine ⟨_, rfl, ?_⟩ | refine ⟨_, _, rfl, rfl, ?_⟩ | refine ⟨_, _, rfl, ?_⟩ | refine ⟨_, _, rfl, rfl, (by walk_at "num"), ?_⟩ | refine Or.inl ⟨_, rfl, ?_⟩ | refine ⟨_, _, _, _, rfl, rfl, (by assumption), (by rfl), ?_⟩ | refine ⟨_, _, _, _, _, rfl, (by assumption), (by assumption), (by assumption), (by rfl), ?_⟩ | refine ⟨rfl, ?_⟩ | refine And.intro (by walk_at "num") ?_))
abbrev s_wrong_fields : Stmt := topS 30
abbrev N_wrong_fields : List Str := ["_law_need_here", "_law_draws_here", "_law_start", "_law_rises", "_law_pair", "_law_top", "_law_k", "_law_low", "_law_wrong", "_law_touching"]
abbrev P_wrong_fields : List Str := ["_law_need_here", "_law_draws_here"]
theorem sc_wrong_fields : FnScope N_wrong_fields P_wrong_fields (defScope s_wrong_fields) := ⟨rfl, rfl, rfl, by decide +kernel, rfl, by decide +kernel, by decide +kernel⟩
theorem chk_bad {l y : Int} (h : y ≤ l) (b : Rs) : ∀ (a : Rs) (e : Option Int), chk e (a ++ (l, some y) :: b) = false
  | [], none => rfl
  | [], some e => by
    show chk (some e) ((l, some y) :: b) = false
    rw [chk_cons]
    show (decide (e < l) && (decide (l < y) && chk (some y) b)) = false
    rw [decide_eq_false (show ¬ l < y by omega)]
    simp
  | _ :: _, none => rfl
  | (l', h') :: a, some e => by
    show chk (some e) ((l', h') :: (a ++ (l, some y) :: b)) = false
    rw [chk_cons, chk_bad h b a h']
    simp
theorem chk_touch {l l' y : Int} {x : Option Int} (h : l' ≤ y) (b : Rs) : ∀ (a : Rs) (e : Option Int), chk e (a ++ (l, some y) :: (l', x) :: b) = false
  | [], none => rfl
  | [], some e => by
    show chk (some e) ((l, some y) :: (l', x) :: b) = false
    rw [chk_cons, chk_cons, decide_eq_false (show ¬ y < l' by omega)]
    simp
  | _ :: _, none => rfl
  | (m, h') :: a, some e => by
    show chk (some e) ((m, h') :: (a ++ (l, some y) :: (l', x) :: b)) = false
    rw [chk_cons, chk_touch h b a h']
    simp
theorem chk_open {l : Int} {p : Int × Option Int} (b : Rs) : ∀ (a : Rs) (e : Option Int), chk e (a ++ (l, none) :: p :: b) = false
  | [], none => rfl
  | [], some e => by
    show chk (some e) ((l, none) :: p :: b) = false
    rw [chk_cons]
    show (decide (e < l) && (true && false)) = false
    simp
  | _ :: _, none => rfl
  | (m, h') :: a, some e => by
    show chk (some e) ((m, h') :: (a ++ (l, none) :: p :: b)) = false
    rw [chk_cons, chk_open b a h']
    simp
/-- the widths of the closed pairs -/
def wid : Rs → List Int
  | [] => []
  | (_, none) :: r => wid r
  | (l, some h) :: r => (h - l) :: wid r
theorem top_wid : ∀ {rs : Rs} {e t : Int}, Good e rs → opn rs = none → top t rs = some (t + (wid rs).sum)
  | [], _, t, _, _ => by
    show some t = some (t + 0)
    rw [Int.add_zero]
  | [(l, none)], _, _, _, h => by cases h
  | (l, none) :: q :: r, _, _, g, _ => by cases g.2
  | [(l, some h)], _, t, _, _ => by
    show some (t + h - l) = some (t + ((h - l) + 0))
    congr 1
    omega
  | (l, some h) :: q :: r, _, t, g, ho => by
    show top (t + h - l) (q :: r) = some (t + ((h - l) + (wid (q :: r)).sum))
    rw [top_wid (rs := q :: r) g.2.2 ho]
    congr 1
    omega
theorem top_open : ∀ {rs : Rs} {l t : Int}, top t (rs ++ [(l, none)]) = none
  | [], _, _ => rfl
  | (_, none) :: _, _, _ => rfl
  | (_, some _) :: r, _, _ => top_open (rs := r)
theorem wid_append : ∀ (a b : Rs), wid (a ++ b) = wid a ++ wid b
  | [], _ => rfl
  | (_, none) :: a, b => wid_append a b
  | (l, some h) :: a, b => congrArg ((h - l) :: ·) (wid_append a b)
theorem wid_take {rs : Rs} {k : Nat} {q : Int × Option Int} (h : rs[k]? = some q) : wid (rs.take (k + 1)) = wid (rs.take k) ++ wid [q] := by
  rw [List.take_add_one, h, wid_append]
  rfl
theorem wid_len : ∀ (a : Rs), (wid a).length ≤ a.length
  | [] => Nat.le_refl _
  | (_, none) :: a => Nat.le_trans (wid_len a) (Nat.le_succ _)
  | (_, some _) :: a => Nat.succ_le_succ (wid_len a)
theorem ris_snoc {c : Bool} {K : PySem.W.Frag} {H : Hp} {a b p : Addr} {ps : List Addr} {rs : Rs} {x : Int} {y : Option Int} (r : Ris true c K H a ps rs) (hb : SqL K H b (ps.map V.ref ++ [.ref p])) (hp : SqK c K H p [.int x, oV y]) : Ris true c K H b (ps ++ [p]) (rs ++ [(x, y)]) := by
  refine ⟨by rw [List.map_append]; exact hb, by rw [List.length_append, List.length_append, r.2.1]; rfl, fun i q z h1 h2 => ?_⟩
  by_cases hlt : i < ps.length
  · rw [List.getElem?_append_left hlt] at h1
    rw [List.getElem?_append_left (by rw [← r.2.1]; exact hlt)] at h2
    exact r.2.2 i q z h1 h2
  · rw [List.getElem?_append_right (by omega)] at h1
    rw [List.getElem?_append_right (by rw [← r.2.1]; omega)] at h2
    have h3 : i - ps.length = 0 := by
      have := (List.getElem?_eq_some_iff.mp h1).1
      simp at this
      omega
    rw [h3] at h1
    rw [← r.2.1, h3] at h2
    obtain rfl : p = q := Option.some.inj h1
    obtain rfl := Option.some.inj h2
    exact hp
theorem opn_last (r : Rs) (l : Int) (h : Option Int) : opn (r ++ [(l, h)]) = match h with
    | none => some l
    | some _ => none := by
  induction r with
  | nil => cases h <;> rfl
  | cons p r ih =>
    obtain ⟨a, b⟩ := p
    cases r with
    | nil => cases b <;> cases h <;> rfl
    | cons q r => cases b <;> exact ih
theorem last_ris {b c : Bool} {K : PySem.W.Frag} {H : Hp} {a : Addr} {ps : List Addr} {r : Rs} {l : Int} {h : Option Int} (hR : Ris b c K H a ps (r ++ [(l, h)])) : ∃ p, atI (ps.map V.ref) (-1) = some (.ref p) ∧ SqK c K H p [.int l, oV h] := by
  obtain ⟨h1, h2, h3⟩ := hR
  rw [List.length_append] at h2
  rcases List.eq_nil_or_concat ps with e | ⟨qs, q, e⟩
  · rw [e] at h2
    simp at h2
  · rw [List.concat_eq_append] at e
    subst e
    have e : qs.length = r.length := by
      rw [List.length_append] at h2
      simpa using h2
    refine ⟨q, ?_, h3 r.length q (l, h) ?_ ?_⟩
    · rw [List.map_append]
      exact atI_last _ _
    · rw [List.getElem?_append_right (by omega), e, Nat.sub_self]
      rfl
    · rw [List.getElem?_append_right (by omega), Nat.sub_self]
      rfl
theorem set_cut {α : Type} (xs : List α) (i : Nat) (x : α) (h : i < xs.length) : xs.take i ++ [x] ++ xs.drop (i + 1) = xs.set i x := by
  rw [List.set_eq_take_append_cons_drop, if_pos h, List.append_assoc]
  rfl
theorem cut_to (xs : List V) (i : Nat) (h : i ≤ xs.length) : cutV xs none (some (i : Int)) = xs.take i := by
  unfold cutV
  rw [HT.sIx_nat, HT.sIx_none, Nat.min_eq_left h]
  simp
theorem cut_from (xs : List V) (i : Nat) : cutV xs (some (i : Int)) none = xs.drop i := by
  unfold cutV
  rw [HT.sIx_nat, HT.sIx_none]
  by_cases h : i ≤ xs.length
  · rw [Nat.min_eq_left h, List.take_of_length_le (by rw [List.length_drop]; omega)]
  · rw [Nat.min_eq_right (by omega), List.drop_of_length_le (Nat.le_refl _), List.drop_of_length_le (by omega)]
    simp
theorem ris_put {c : Bool} {K : PySem.W.Frag} {H : Hp} {a b p : Addr} {ps : List Addr} {rs : Rs} {x : Int} {y : Option Int} {i : Nat} (r : Ris true c K H a ps rs) (hb : SqL K H b ((ps.map V.ref).set i (.ref p))) (hp : SqK c K H p [.int x, oV y]) : Ris true c K H b (ps.set i p) (rs.set i (x, y)) := by
  refine ⟨by rw [List.map_set]; exact hb, by rw [List.length_set, List.length_set, r.2.1], fun j q z h1 h2 => ?_⟩
  rw [List.getElem?_set] at h1 h2
  by_cases e : i = j
  · rw [if_pos e] at h1 h2
    split at h1
    · split at h2
      · obtain rfl := Option.some.inj h1
        obtain rfl := Option.some.inj h2
        exact hp
      · cases h2
    · cases h1
  · rw [if_neg e] at h1 h2
    exact r.2.2 j q z h1 h2
theorem wrong_rises {s : Int} {rs : Rs} {nv : Option Int} (hs : 0 ≤ s) (h : chk (some (-1)) rs = false) : wrong (some s) rs nv = some ("rises" : Str) := by
  unfold wrong
  rw [if_neg (by simpa [isNeg] using hs), if_pos (show fits (some s) rs = false from h)]
theorem wrong_never {s : Int} {rs : Rs} {v : Int} (hs : 0 ≤ s) (h : chk (some (-1)) rs = true) (hl : top s rs = none ∨ ∃ t, top s rs = some t ∧ v < t) : wrong (some s) rs (some v) = some ("never" : Str) := by
  unfold wrong
  rw [if_neg (by simpa [isNeg] using hs), if_neg (by rw [show fits (some s) rs = true from h]; simp), if_pos]
  unfold lowNv
  rcases hl with e | ⟨t, e, hv⟩
  · rw [show tops (some s) rs = none from e]
  · rw [show tops (some s) rs = some t from e]
    exact decide_eq_true hv
theorem wrong_start {s : Int} {rs : Rs} {nv : Option Int} (hs : s < 0) : wrong (some s) rs nv = some ("start" : Str) := if_pos (decide_eq_true hs)
theorem dix {K : PySem.W.Frag} {H : Hp} {D : Addr} {ds : List Int} (i : Nat) (hi : i < 8) (hS : SqL K H D (ds.map V.int)) (hd : Dr 8 ds) {R : V → Prop} (k : ∀ d : Int, 0 ≤ d → d < 1000000 → R (.int d)) : ∃ (p : Addr) (xs : List V) (i' : Int) (v : V), V.ref D = .ref p ∧ V.int (i : Int) = .int i' ∧ SqL K H p xs ∧ atI xs i' = some v ∧ R v := by
  have h : i < ds.length := by rw [hd.1]; exact hi
  have z := hd.2 _ (List.getElem_mem h)
  exact ⟨D, _, _, _, rfl, rfl, hS, at_map (List.getElem?_eq_getElem h), k _ z.1 z.2⟩
theorem good_closed : ∀ {rs : Rs} {e : Int} {k : Nat} {l : Int} {h : Option Int}, Good e rs → rs[k]? = some (l, h) → k + 1 < rs.length → ∃ y, h = some y
  | [], _, k, _, _, _, z, _ => by cases k <;> cases z
  | (l, none) :: r, e, k, _, _, g, z, hl => by
    have : r = [] := g.2
    subst this
    simp at hl
  | (l, some x) :: r, e, 0, _, _, g, z, _ => by
    cases z
    exact ⟨_, rfl⟩
  | (l, some x) :: r, e, k + 1, _, _, g, z, hl => good_closed (k := k) g.2.2 z (by simpa using hl)
section
variable {P : Program} {w : World} {K : PySem.W.Frag} {mg : Str → Option Value} {base : Heap} {f C : Addr} {fd : FuncData}
def spWrong (K : PySem.W.Frag) : Sp := fun vs H Q _ => ∃ (st nv : Option Int) (l D : Addr) (rs : Rs) (ds : List Int), vs = [.ref l, .ref D] ∧ NL K H l st rs nv ∧ LOk st rs nv ∧ SqL K H D (ds.map V.int) ∧ Dr 8 ds ∧ ∀ H', Same H H' → Q (.bl true) H'
theorem ok_wrong_fields (F : FnP K "_law_wrong_fields" s_wrong_fields f fd) (m_list : mg "list" = none) (m_sum : mg "sum" = none) (m_len : mg "len" = none) (m_range : mg "range" = none) (m_int : mg "int" = none) (c_refused : Cal P w K mg base 7 "_law_refused" (spRefused K)) : FnOk P w K mg base CX0 8 f fd P_wrong_fields (spWrong K) := by
  refine F.ok sc_wrong_fields (fun vs H Q E h => ?_) (fun cdv A outer s H vs Q E hr h => ?_)
  · obtain ⟨st, nv, l, D, rs, ds, rfl, _⟩ := h
    rfl
  · obtain ⟨st, nv, l, D, rs, ds, rfl, ⟨t, ps, hl, hR⟩, ok, hD, hd, q⟩ := h
    refine ⟨_, PSs.nox (pss_cons (ps_set (i := 2) sc_wrong_fields.nd rfl (by first | exact .inl rfl | exact .inr rfl) (pe_ix ix_list (pv 0) pe_int (fun _ _ => rfl)))
      (pss_cons (ps_set (i := 3) sc_wrong_fields.nd rfl (by first | exact .inl rfl | exact .inr rfl) (pe_callTy call_list_of (by rfl) m_list (by decide +kernel) (pa_cons (pe_ix ix_list (pv 0) pe_int (fun _ _ => rfl)) pa_nil)))
      (pss_cons (ps_if (pt_cmpR op_isN (pv 2) pe_non (nomark _)) (pss_one (ps_ret (pe_and (pe_cl c_refused hr (by decide) (by rfl) (pa_cons pe_non (pa_cons (pe_lst (pa_cons (pe_tup (pa_cons pe_int (pa_cons (pe_op op_add pe_int (pe_ix ix_list (pv 1) pe_int (fun _ _ => rfl))) pa_nil))) pa_nil)) (pa_cons pe_non (pa_cons pe_str pa_nil))))) (pe_one (pe_cl c_refused hr (by decide) (by rfl) (pa_cons pe_non (pa_cons (pe_lst pa_nil) (pa_cons (pe_ix ix_list (pv 1) pe_int (fun _ _ => rfl)) (pa_cons pe_str pa_nil))))))))) pss_nil)
      (pss_cons (ps_if (PW.pt (pw_or (pt_not (pt_val (pe_cl c_refused hr (by decide) (by rfl) (pa_cons (pe_op op_sub (pe_un un_neg pe_int) (pe_ix ix_list (pv 1) pe_int (fun _ _ => rfl))) (pa_cons (pv 3) (pa_cons (pe_ix ix_list (pv 0) pe_int (fun _ _ => rfl)) (pa_cons pe_str pa_nil))))))) (pw_or1 (pt_not (pt_val (pe_cl c_refused hr (by decide) (by rfl) (pa_cons (pe_un un_neg pe_int) (pa_cons (pe_lst (pa_cons (pe_tup (pa_cons pe_int (pa_cons pe_int pa_nil))) pa_nil)) (pa_cons (pe_un un_neg pe_int) (pa_cons pe_str pa_nil)))))))))) (pss_one (ps_ret pe_bl)) pss_nil)
      (pss_cons (ps_set (i := 5) sc_wrong_fields.nd rfl (by first | exact .inl rfl | exact .inr rfl) (pe_op op_add (pv 2) (pe_callB (cr_sum rfl) (by rfl) m_sum (by decide +kernel) (pa_cons (pe_lc (own := [("_law_pair", 4)]) (g := (gName 4)) (by rfl) sc_wrong_fields.nd (pi_list (pv 3)) (blkOk_by (own := [("_law_pair", 4)]) (N := N_wrong_fields) (sc := defScope s_wrong_fields) (by decide +kernel)) (fun _ _ _ _ _ => (pg_name (i := 4) sc_wrong_fields.nd rfl (by first | exact .inl rfl | exact .inr rfl))) (fun _ _ _ _ _ => (pts_one (pt_cmpR op_notN (pe_ix (ix_tup_K (K := K) rfl) (pv 4) pe_int (fun _ _ => rfl)) pe_non (nomark _)))) (fun _ _ _ _ _ => (pe_op op_sub (pe_ix (ix_tup_K (K := K) rfl) (pv 4) pe_int (fun _ _ => rfl)) (pe_ix (ix_tup_K (K := K) rfl) (pv 4) pe_int (fun _ _ => rfl))))) pa_nil))))
      (pss_cut (ps_if (PW.pt (pw_and (pt_cmpR op_gt (pe_callB call_len_seq (by rfl) m_len PySem.boot_len (pa_cons (pv 3) pa_nil)) pe_int (nomark _)) (pw_and1 (pt_cmpR op_isN (pe_ix ix_tup (pe_ix ix_list (pv 3) (pe_un un_neg pe_int) (fun _ _ => rfl)) pe_int (fun _ _ => rfl)) pe_non (nomark _))))) (pss_cons (ps_if (pt_not (pt_val (pe_cl c_refused hr (by decide) (by rfl) (pa_cons (pv 2) (pa_cons (pv 3) (pa_cons (pe_op op_add (pv 5) (pe_ix ix_list (pv 1) pe_int (fun _ _ => rfl))) (pa_cons pe_str pa_nil))))))) (pss_one (ps_ret pe_bl)) pss_nil)
      (pss_one (ps_if (pt_not (pt_val (pe_cl c_refused hr (by decide) (by rfl) (pa_cons (pv 2) (pa_cons (pe_op op_cat (pv 3) (pe_lst (pa_cons (pe_tup (pa_cons (pe_op op_add (pe_ix ix_tup (pe_ix ix_list (pv 3) (pe_un un_neg pe_int) (fun _ _ => rfl)) pe_int (fun _ _ => rfl)) (pe_op op_pow pe_int pe_int)) (pa_cons pe_non pa_nil))) pa_nil))) (pa_cons pe_non (pa_cons pe_str pa_nil))))))) (pss_one (ps_ret pe_bl)) pss_nil))) (pss_one (ps_if (PW.pt (pw_and (pt_cmpR op_gt (pv 5) pe_int (nomark _)) (pw_and1 (pt_not (pt_val (pe_cl c_refused hr (by decide) (by rfl) (pa_cons (pv 2) (pa_cons (pv 3) (pa_cons (pe_op op_sub (pe_op op_sub (pv 5) pe_int) (pe_op op_mod (pe_callTy call_int1 (by rfl) m_int (by decide +kernel) (pa_cons (pe_ix ix_list (pv 1) pe_int (fun _ _ => rfl)) pa_nil)) (pv 5))) (pa_cons pe_str pa_nil)))))))))) (pss_one (ps_ret pe_bl)) pss_nil)))
      (pss_cons (ps_for PassesOwn.never rfl (pi_range1 (by rfl) m_range (pa_cons (pe_callB call_len_seq (by rfl) m_len PySem.boot_len (pa_cons (pv 3) pa_nil)) pa_nil)) (pg_name (i := 6) sc_wrong_fields.nd rfl (by first | exact .inl rfl | exact .inr rfl))
        (pss_cons (ps_set (i := 7) sc_wrong_fields.nd rfl (by first | exact .inl rfl | exact .inr rfl) (pe_ix ix_tup (pe_ix ix_list (pv 3) (pv 6) (fun _ _ => rfl)) pe_int (fun _ _ => rfl)))
      (pss_cons (ps_set (i := 8) sc_wrong_fields.nd rfl (by first | exact .inl rfl | exact .inr rfl) (pe_op op_cat (pe_op op_cat (pe_slice sl_list (pv 3) po_none (po_some (pv 6))) (pe_lst (pa_cons (pe_tup (pa_cons (pv 7) (pa_cons (pe_op op_sub (pv 7) (pe_op op_mod (pe_callTy call_int1 (by rfl) m_int (by decide +kernel) (pa_cons (pe_ix ix_list (pv 1) pe_int (fun _ _ => rfl)) pa_nil)) pe_int)) pa_nil))) pa_nil))) (pe_slice sl_list (pv 3) (po_some (pe_op op_add (pv 6) pe_int)) po_none)))
      (pss_one (ps_if (PW.pt (pw_or (pt_not (pt_val (pe_cl c_refused hr (by decide) (by rfl) (pa_cons (pv 2) (pa_cons (pv 8) (pa_cons pe_non (pa_cons pe_str pa_nil))))))) (pw_or1 (pt_not (pt_val (pe_cl c_refused hr (by decide) (by rfl) (pa_cons (pv 2) (pa_cons (pv 8) (pa_cons (pe_un un_neg pe_int) (pa_cons pe_str pa_nil)))))))))) (pss_one (ps_ret pe_bl)) pss_nil)))))
      (pss_cut (ps_if (pt_cmpR op_gt (pe_callB call_len_seq (by rfl) m_len PySem.boot_len (pa_cons (pv 3) pa_nil)) pe_int (nomark _)) (pss_cons (ps_set (i := 6) sc_wrong_fields.nd rfl (by first | exact .inl rfl | exact .inr rfl) (pe_op op_mod (pe_callTy call_int1 (by rfl) m_int (by decide +kernel) (pa_cons (pe_ix ix_list (pv 1) pe_int (fun _ _ => rfl)) pa_nil)) (pe_op op_sub (pe_callB call_len_seq (by rfl) m_len PySem.boot_len (pa_cons (pv 3) pa_nil)) pe_int)))
      (pss_cons (ps_set (i := 9) sc_wrong_fields.nd rfl (by first | exact .inl rfl | exact .inr rfl) (pe_op op_cat (pe_op op_cat (pe_slice sl_list (pv 3) po_none (po_some (pe_op op_add (pv 6) pe_int))) (pe_lst (pa_cons (pe_tup (pa_cons (pe_op op_sub (pe_ix ix_tup (pe_ix ix_list (pv 3) (pv 6) (fun _ _ => rfl)) pe_int (fun _ _ => rfl)) (pe_op op_mod (pe_callTy call_int1 (by rfl) m_int (by decide +kernel) (pa_cons (pe_ix ix_list (pv 1) pe_int (fun _ _ => rfl)) pa_nil)) pe_int)) (pa_cons (pe_ix ix_tup (pe_ix ix_list (pv 3) (pe_op op_add (pv 6) pe_int) (fun _ _ => rfl)) pe_int (fun _ _ => rfl)) pa_nil))) pa_nil))) (pe_slice sl_list (pv 3) (po_some (pe_op op_add (pv 6) pe_int)) po_none)))
      (pss_one (ps_if (pt_not (pt_val (pe_cl c_refused hr (by decide) (by rfl) (pa_cons (pv 2) (pa_cons (pv 9) (pa_cons pe_non (pa_cons pe_str pa_nil))))))) (pss_one (ps_ret pe_bl)) pss_nil)))) pss_nil)
      (pss_one (ps_ret (pe_and (pe_cl c_refused hr (by decide) (by rfl) (pa_cons (pv 2) (pa_cons (pe_lst (pa_cons (pe_tup (pa_cons (pe_op op_sub (pe_un un_neg pe_int) (pe_ix ix_list (pv 1) pe_int (fun _ _ => rfl))) (pa_cons pe_int pa_nil))) pa_nil)) (pa_cons pe_non (pa_cons pe_str pa_nil))))) (pe_one (pe_cl c_refused hr (by decide) (by rfl) (pa_cons (pv 2) (pa_cons (pe_lst (pa_cons (pe_tup (pa_cons pe_int (pa_cons pe_non pa_nil))) (pa_cons (pe_tup (pa_cons pe_int (pa_cons pe_int pa_nil))) pa_nil))) (pa_cons pe_non (pa_cons pe_str pa_nil))))))))))))))))), ?_⟩
    walk_at "go"
    refine ⟨t, _, rfl, .inr hR.1, fun R nR => ?_⟩
    have s1 : Same H (upd H R (.lst (ps.map V.ref))) := same_new nR
    have hR1 : Ris true false K (upd H R (.lst (ps.map V.ref))) R ps rs := ⟨SqL.of upd_same, hR.2.1, (hR.mono s1).2.2⟩
    have hD1 := s1.seq hD
    have hl1 := s1.seq hl
    have eR1 := upd_same (H := H) (a := R) (o := .lst (ps.map V.ref))
    generalize eX : upd H R (.lst (ps.map V.ref)) = H1 at s1 hR1 hD1 hl1 eR1 ⊢
    cases st with
    | none =>
      walk_at "go"
      refine dix 1 (by decide) hD1 hd fun d1 a1 a2 => ?_
      walk_at "go"
      intro t1 nt1
      walk_at "go"
      intro t2 nt2
      have s2 := same_new (o := .tup [.int 0, .int (1 + d1)]) nt1
      have s3 := same_new (o := .lst [.ref t1]) nt2
      walk_at "go"
      refine ⟨true, false, none, none, t2, [t1], [(0, some (1 + d1))], "rises", rfl, ⟨SqL.of upd_same, rfl, ?_⟩, by simp, rfl, fun H4 s4 => ?_⟩
      · intro i p q h3 h4
        cases i with
        | zero =>
          cases h3
          cases h4
          exact .inl (.inl (s3 _ _ upd_same))
        | succ i => cases h3
      walk_at "go"
      intro t3 nt3
      have s5 := same_new (o := .lst []) nt3
      have hD5 := (s2.trans (s3.trans (s4.trans s5))).seq hD1
      walk_at "go"
      refine dix 2 (by decide) hD5 hd fun d2 b1 b2 => ?_
      walk_at "go"
      refine ⟨true, false, none, some d2, t3, [], [], "never", rfl, ⟨SqL.of upd_same, rfl, fun i p q h => nomatch h⟩, by simp, rfl, fun H6 s6 => ?_⟩
      exact q _ (s1.trans (s2.trans (s3.trans (s4.trans (s5.trans s6)))))
    | some s =>
      have gs := ok.1.2.1 s rfl
      have gl := ok.2.1
      have gg := ok.good
      have gc : chk (some (-1)) rs = true := ok.1.1
      walk_at "go"
      refine dix 1 (by decide) hD1 hd fun d1 a1 a2 => ?_
      walk_at "go"
      refine ⟨true, false, some (-1 - d1), nv, R, ps, rs, "start", rfl, hR1, by omega, wrong_start (by omega), fun H2 s2 => ?_⟩
      walk_at "go"
      intro t1 nt1
      walk_at "go"
      intro t2 nt2
      have s3 := same_new (o := .tup [.int 3, .int 2]) nt1
      have s4 := same_new (o := .lst [.ref t1]) nt2
      walk_at "go"
      refine ⟨true, false, some (-1), some (-9), t2, [t1], [(3, some 2)], "start", rfl, ⟨SqL.of upd_same, rfl, ?_⟩, by simp, wrong_start (by omega), fun H5 s5 => ?_⟩
      · intro i p q h3 h4
        cases i with
        | zero =>
          cases h3
          cases h4
          exact .inl (.inl (s4 _ _ upd_same))
        | succ i => cases h3
      have s15 : Same H1 H5 := s2.trans (s3.trans (s4.trans s5))
      have sH5 := s1.trans s15
      have hR5 := hR1.mono s15
      have hD5 := s15.seq hD1
      have hl5 := s15.seq hl1
      clear s3 s4
      walk_at "go"
      refine ⟨⟨_, hR5.1⟩, ?_⟩
      intro L nL
      refine lc_gen (n := rs.length) (fun k H6 => Same H5 H6 ∧ H6 L = some (.lst ((wid (rs.take k)).map V.int))) ⟨same_new nL, upd_same⟩ ?_ ?_ ?_ ?_
      · rintro k H6 hk ⟨s6, _⟩
        have hi2 : k < ps.length := by rw [hR.2.1]; exact hk
        exact ⟨_, .ref ps[k], s6.seq hR5.1, by rw [List.getElem?_map, List.getElem?_eq_getElem hi2]; rfl⟩
      · rintro H6 ⟨s6, _⟩
        exact ⟨_, s6.seq hR5.1, by rw [List.length_map, hR.2.1]; exact Nat.le_refl _⟩
      · rintro k H6 v H' hk ⟨s6, e6⟩ ⟨rfl, fx⟩
        obtain ⟨p, ep, rfl⟩ := of_map (fx _ (s6.seq hR5.1))
        have er : rs[k]? = some (rs[k].1, rs[k].2) := List.getElem?_eq_getElem hk
        have hp : SqT K H' p [.int rs[k].1, oV rs[k].2] := Z.Same.sqT s6 (hR5.2.2 k p _ ep er)
        have ew := wid_take er
        generalize rs[k].1 = lo at hp ew
        generalize rs[k].2 = hi at hp ew
        refine ⟨rfl, ?_⟩
        cases hi with
        | none =>
          have ew : wid (rs.take (k + 1)) = wid (rs.take k) ++ [] := ew
          walk_at "go"
          rw [ew, List.append_nil]
          exact e6
        | some y =>
          have ew : wid (rs.take (k + 1)) = wid (rs.take k) ++ [y - lo] := ew
          walk_at "go"
          refine ⟨_, e6, ?_, Z.Same.mut s6 nL, ?_⟩
          · rw [List.length_map]
            have := wid_len (rs.take k)
            rw [List.length_take] at this
            exact Nat.lt_of_le_of_lt (show _ ≤ 1000 by omega) (by decide)
          · rw [upd_same, ew, List.map_append]
            rfl
      · rintro H6 ⟨s6, e6⟩
        rw [List.take_length] at e6
        refine ⟨L, wid rs, rfl, SqL.of e6, ?_⟩
        have sH6 := sH5.trans s6
        have hR6 := hR5.mono s6
        have eR6 := s6 _ _ (s15 _ _ eR1)
        have hD6 := s6.seq hD5
        have hl6 := s6.seq hl5
        clear s2 s5 s6 s15 hR5 hD5 hl5 sH5
        walk_at "go"
        refine ⟨fun σ' H' => Same H6 H' ∧ σ' = [some (.ref l), some (.ref D), some (.int s), some (.ref R), none, some (.int (s + (wid rs).sum)), none, none, none, none], ?_, ?_⟩
        · walk_at "go"
          refine ⟨R, _, rfl, .inl hR6.1, ?_⟩
          rw [List.length_map, hR6.2.1]
          walk_at "go"
          rcases List.eq_nil_or_concat rs with rfl | ⟨r, ⟨x, h⟩, rfl⟩
          · have ho : opn [] = none := rfl
            refine ite2 (fun e => ?_) (fun e => ?_)
            · cases e
            walk_at "go"
            refine ite2 (fun e5 => ?_) (fun e5 => ?_)
            · have hT : 0 < s + (wid []).sum := of_decide_eq_true e5
              walk_at "go"
              refine dix 2 (by decide) hD6 hd fun d2 b1 b2 => ?_
              walk_at "go"
              refine ⟨true, false, some s, some (s + (wid []).sum - 1 - d2 % (s + (wid []).sum)), R, ps, [], "never", rfl, hR6, by omega, wrong_never gs gc (.inr ⟨_, top_wid gg ho, ?_⟩), fun H7 s7 => ?_⟩
              · have := Int.emod_nonneg d2 (show s + (wid []).sum ≠ 0 by omega)
                omega
              walk_at "go"
              rfl
            · exact ⟨Same.refl _, rfl⟩
          · rw [List.concat_eq_append] at *
            obtain ⟨p, ep, hp⟩ := last_ris hR6
            have hp : SqT K H6 p [.int x, oV h] := hp
            refine ite2 (fun e => ?_) (fun e => ?_)
            · walk_at "go"
              refine ⟨R, _, _, _, rfl, rfl, hR6.1, ep, ?_⟩
              walk_at "go"
              cases h with
              | none =>
                walk_at "go"
                refine dix 2 (by decide) hD6 hd fun d2 b1 b2 => ?_
                walk_at "go"
                refine ⟨true, false, some s, some _, R, ps, _, "never", rfl, hR6, by omega, wrong_never gs gc (.inl top_open), fun H7 s7 => ?_⟩
                have hR7 := hR6.mono s7
                have hp7 := Z.Same.sqT s7 hp
                walk_at "go"
                refine ⟨R, _, _, _, rfl, rfl, hR7.1, ep, ?_⟩
                walk_at "go"
                intro t1 nt1
                have s8 := same_new (o := .tup [.int (x + 10 ^ Int.toNat 9), .non]) nt1
                walk_at "go"
                intro t2 nt2
                have s9 := same_new (o := .lst [.ref t1]) nt2
                walk_at "go"
                refine ⟨R, t2, _, _, rfl, rfl, s9 _ _ (s8 _ _ (s7 _ _ eR6)), upd_same, ?_, fun t3 nt3 => ?_⟩
                · rw [List.length_map, hR6.2.1]
                  exact Nat.le_trans (show (r ++ [(x, none)]).length + 1 ≤ 1000 by omega) (by decide)
                have s10 := same_new (o := .lst (ps.map V.ref ++ [.ref t1])) nt3
                walk_at "go"
                refine ⟨true, false, some s, none, t3, _, _, "rises", rfl, ris_snoc (y := none) (hR7.mono (s8.trans (s9.trans s10))) (SqL.of upd_same) (.inl (.inl (s10 _ _ (s9 _ _ upd_same)))), ?_, wrong_rises gs ?_, fun H11 s11 => ?_⟩
                · rw [List.length_append]
                  have : ([(x + 10 ^ Int.toNat 9, (none : Option Int))]).length = 1 := rfl
                  omega
                · rw [List.append_assoc]
                  exact chk_open [] r (some (-1))
                walk_at "go"
                exact ⟨s7.trans (s8.trans (s9.trans (s10.trans s11))), rfl⟩
              | some y =>
                have ho : opn (r ++ [(x, some y)]) = none := opn_last r x (some y)
                walk_at "go"
                refine ite2 (fun e5 => ?_) (fun e5 => ?_)
                · have hT : 0 < s + (wid (r ++ [(x, some y)])).sum := of_decide_eq_true e5
                  walk_at "go"
                  refine dix 2 (by decide) hD6 hd fun d2 b1 b2 => ?_
                  walk_at "go"
                  refine ⟨true, false, some s, some (s + (wid (r ++ [(x, some y)])).sum - 1 - d2 % (s + (wid (r ++ [(x, some y)])).sum)), R, ps, (r ++ [(x, some y)]), "never", rfl, hR6, by omega, wrong_never gs gc (.inr ⟨_, top_wid gg ho, ?_⟩), fun H7 s7 => ?_⟩
                  · have := Int.emod_nonneg d2 (show s + (wid (r ++ [(x, some y)])).sum ≠ 0 by omega)
                    omega
                  walk_at "go"
                  rfl
                · exact ⟨Same.refl _, rfl⟩
            · exfalso
              refine e (decide_eq_true ?_)
              rw [List.length_append]
              show (0 : Int) < ((r.length + 1 : Nat) : Int)
              omega
        · rintro σ' H7 ⟨s7, rfl⟩
          have sH7 := sH6.trans s7
          have hR7 := hR6.mono s7
          have hD7 := s7.seq hD6
          have eR7 := s7 _ _ eR6
          clear s7 hR6 hD6 hl6 eR6 sH6
          walk_at "go"
          refine ⟨R, _, rfl, .inl hR7.1, ?_⟩
          rw [List.length_map, hR7.2.1]
          walk_at "go"
          refine for_gen (n := rs.length) (fun i σ H8 => Same H7 H8 ∧ ∃ v6 v7 v8 : Option V, σ = [some (.ref l), some (.ref D), some (.int s), some (.ref R), none, some (.int (s + (wid rs).sum)), v6, v7, v8, none]) ⟨Same.refl _, none, none, none, rfl⟩ ?_ ?_ ?_ ?_
          · intro i σ H8 hi _
            show i < ((rs.length : Nat) : Int).toNat
            omega
          · intro σ H8 _
            show ((rs.length : Nat) : Int).toNat ≤ rs.length
            omega
          · rintro i σ H8 x H9 hi ⟨s8, v6, v7, v8, rfl⟩ ⟨rfl, rfl⟩
            have hi2 : i < ps.length := by rw [hR.2.1]; exact hi
            have hR9 := hR7.mono s8
            have hD9 := s8.seq hD7
            have er : rs[i]? = some (rs[i].1, rs[i].2) := List.getElem?_eq_getElem hi
            have hp : SqT K H9 ps[i] [.int rs[i].1, oV rs[i].2] := hR9.2.2 i _ _ (List.getElem?_eq_getElem hi2) er
            have ea : atI (ps.map V.ref) (0 + (i : Int)) = some (.ref ps[i]) := at_of (j := i) (by omega) (by rw [List.getElem?_map, List.getElem?_eq_getElem hi2]; rfl)
            generalize rs[i].1 = lo at hp er
            walk_at "go"
            refine ⟨R, _, _, _, rfl, rfl, hR9.1, ea, ?_⟩
            walk_at "go"
            refine ⟨R, _, rfl, hR9.1, fun c1 n1 => ?_⟩
            rw [show (0 + (i : Int)) = ((i : Nat) : Int) by omega, cut_to _ i (by rw [List.length_map]; omega)]
            have k1 := same_new (o := .lst ((ps.map V.ref).take i)) n1
            have hD10 := k1.seq hD9
            walk_at "go"
            refine dix 3 (by decide) hD10 hd fun d3 b1 b2 => ?_
            walk_at "go"
            intro c2 n2
            have k2 := same_new (o := .tup [.int lo, .int (lo - d3 % 3)]) n2
            walk_at "go"
            intro c3 n3
            have k3 := same_new (o := .lst [.ref c2]) n3
            walk_at "go"
            refine ⟨c1, c3, _, _, rfl, rfl, k3 _ _ (k2 _ _ upd_same), upd_same, ?_, fun c4 n4 => ?_⟩
            · rw [List.length_take, List.length_map]
              exact Nat.le_trans (show min i ps.length + 1 ≤ 1000 by omega) (by decide)
            have k4 := same_new (o := .lst ((ps.map V.ref).take i ++ [.ref c2])) n4
            have k14 := k1.trans (k2.trans (k3.trans k4))
            have hR14 := hR9.mono k14
            have e4 := upd_same (H := upd (upd (upd H9 c1 (.lst ((ps.map V.ref).take i))) c2 (.tup [.int lo, .int (lo - d3 % 3)])) c3 (.lst [.ref c2])) (a := c4) (o := .lst ((ps.map V.ref).take i ++ [.ref c2]))
            have et := k4 _ _ (k3 _ _ (upd_same (H := upd H9 c1 (.lst ((ps.map V.ref).take i))) (a := c2) (o := .tup [.int lo, .int (lo - d3 % 3)])))
            generalize eX14 : upd (upd (upd (upd H9 c1 (.lst ((ps.map V.ref).take i))) c2 (.tup [.int lo, .int (lo - d3 % 3)])) c3 (.lst [.ref c2])) c4 (.lst ((ps.map V.ref).take i ++ [.ref c2])) = H14 at k14 hR14 e4 et ⊢
            walk_at "go"
            refine ⟨R, _, rfl, hR14.1, fun c5 n5 => ?_⟩
            rw [show ((i : Int) + 1) = ((i + 1 : Nat) : Int) by omega, cut_from]
            have k5 := same_new (o := .lst ((ps.map V.ref).drop (i + 1))) n5
            walk_at "go"
            refine ⟨c4, c5, _, _, rfl, rfl, k5 _ _ e4, upd_same, ?_, fun c6 n6 => ?_⟩
            · rw [List.length_append, List.length_take, List.length_drop, List.length_map]
              exact Nat.le_trans (show min i ps.length + [V.ref c2].length + (ps.length - (i + 1)) ≤ 1000 by have : [V.ref c2].length = 1 := rfl; have := hR.2.1; omega) (by decide)
            have k6 := same_new (o := .lst ((ps.map V.ref).take i ++ [.ref c2] ++ (ps.map V.ref).drop (i + 1))) n6
            have hR16 : Ris true false K _ c6 (ps.set i c2) (rs.set i (lo, some (lo - d3 % 3))) := ris_put (y := some (lo - d3 % 3)) (hR14.mono (k5.trans k6)) (SqL.of (by rw [← set_cut _ _ _ (show i < (ps.map V.ref).length by rw [List.length_map]; exact hi2)]; exact upd_same)) (.inl (.inl (k6 _ _ (k5 _ _ et))))
            have hl16 : (rs.set i (lo, some (lo - d3 % 3))).length ≤ 100000 := by rw [List.length_set]; omega
            have hc16 : chk (some (-1)) (rs.set i (lo, some (lo - d3 % 3))) = false := by
              rw [List.set_eq_take_append_cons_drop, if_pos hi]
              exact chk_bad (by have := Int.emod_nonneg d3 (show (3 : Int) ≠ 0 by decide); omega) _ _ _
            have k16 := k14.trans (k5.trans k6)
            generalize eX16 : upd (upd H14 c5 (.lst ((ps.map V.ref).drop (i + 1)))) c6 (.lst ((ps.map V.ref).take i ++ [.ref c2] ++ (ps.map V.ref).drop (i + 1))) = H16 at hR16 k16 ⊢
            walk_at "go"
            refine ⟨true, false, some s, none, c6, _, _, "rises", rfl, hR16, hl16, wrong_rises gs hc16, fun H17 k17 => ?_⟩
            walk_at "go"
            refine ⟨true, false, some s, some (-1), c6, _, _, "rises", rfl, hR16.mono k17, hl16, wrong_rises gs hc16, fun H18 k18 => ?_⟩
            walk_at "go"
            exact ⟨s8.trans (k16.trans (k17.trans k18)), _, _, _, rfl⟩
          · rintro σ H8 ⟨s8, v6, v7, v8, rfl⟩
            have sH8 := sH7.trans s8
            have hR8 := hR7.mono s8
            have hD8 := s8.seq hD7
            clear hR7 hD7 eR7 s8
            refine ⟨fun σ' H' => Same H8 H' ∧ ∃ v6 v7 v8 v9 : Option V, σ' = [some (.ref l), some (.ref D), some (.int s), some (.ref R), none, some (.int (s + (wid rs).sum)), v6, v7, v8, v9], ?_, ?_⟩
            · walk_at "go"
              refine ⟨R, _, rfl, .inl hR8.1, ?_⟩
              rw [List.length_map, hR8.2.1]
              walk_at "go"
              refine ite2 (fun e => ?_) (fun e => ?_)
              rotate_left
              · exact ⟨Same.refl _, _, _, _, _, rfl⟩
              have hlen : 1 < rs.length := by
                have : (1 : Int) < (rs.length : Int) := of_decide_eq_true e
                omega
              walk_at "go"
              refine dix 4 (by decide) hD8 hd fun d4 b1 b2 => ?_
              walk_at "go"
              refine ⟨R, _, rfl, .inl hR8.1, ?_⟩
              rw [List.length_map, hR8.2.1]
              walk_at "go"
              have m1 := Int.emod_nonneg d4 (show (rs.length : Int) - 1 ≠ 0 by omega)
              have m2 := Int.emod_lt_of_pos d4 (show 0 < (rs.length : Int) - 1 by omega)
              obtain ⟨j, ej⟩ := Int.eq_ofNat_of_zero_le m1
              rw [ej] at m1 m2
              have hj1 : j + 1 < rs.length := by omega
              have hj0 : j < rs.length := by omega
              have hp1 : j + 1 < ps.length := by rw [hR8.2.1]; exact hj1
              have hp0 : j < ps.length := by omega
              have er0 : rs[j]? = some (rs[j].1, rs[j].2) := List.getElem?_eq_getElem hj0
              have er1 : rs[j + 1]? = some (rs[j + 1].1, rs[j + 1].2) := List.getElem?_eq_getElem hj1
              have hq0 : SqT K H8 ps[j] [.int rs[j].1, oV rs[j].2] := hR8.2.2 j _ _ (List.getElem?_eq_getElem hp0) er0
              have hq1 : SqT K H8 ps[j + 1] [.int rs[j + 1].1, oV rs[j + 1].2] := hR8.2.2 (j + 1) _ _ (List.getElem?_eq_getElem hp1) er1
              have ea0 : atI (ps.map V.ref) (j : Int) = some (.ref ps[j]) := at_of (j := j) rfl (by rw [List.getElem?_map, List.getElem?_eq_getElem hp0]; rfl)
              have ea1 : atI (ps.map V.ref) ((j : Int) + 1) = some (.ref ps[j + 1]) := at_of (j := j + 1) (by omega) (by rw [List.getElem?_map, List.getElem?_eq_getElem hp1]; rfl)
              obtain ⟨y, ey⟩ := good_closed gg er0 hj1
              rw [ey] at hq0 er0
              generalize rs[j].1 = lo at hq0 er0
              generalize rs[j + 1].2 = hi at hq1 er1
              have hq0 : SqT K H8 ps[j] [.int lo, .int y] := hq0
              simp only [ej]
              refine ⟨R, _, rfl, hR8.1, fun c1 n1 => ?_⟩
              rw [show ((j : Int) + 1) = ((j + 1 : Nat) : Int) by omega, cut_to _ (j + 1) (by rw [List.length_map]; omega)]
              have k1 := same_new (o := .lst ((ps.map V.ref).take (j + 1))) n1
              have hR9 := hR8.mono k1
              have hD9 := k1.seq hD8
              have hq0 := Z.Same.sqT k1 hq0
              have hq1 := Z.Same.sqT k1 hq1
              walk_at "go"
              refine ⟨R, _, _, _, rfl, rfl, hR9.1, ea0, ?_⟩
              walk_at "go"
              refine dix 5 (by decide) hD9 hd fun d5 b3 b4 => ?_
              walk_at "go"
              refine ⟨R, _, _, _, rfl, rfl, hR9.1, ea1, ?_⟩
              walk_at "go"
              intro c2 n2
              have k2 := same_new (o := .tup [.int (y - d5 % 2), oV hi]) n2
              walk_at "go"
              intro c3 n3
              have k3 := same_new (o := .lst [.ref c2]) n3
              walk_at "go"
              refine ⟨c1, c3, _, _, rfl, rfl, k3 _ _ (k2 _ _ upd_same), upd_same, ?_, fun c4 n4 => ?_⟩
              · rw [List.length_take, List.length_map]
                exact Nat.le_trans (show min (j + 1) ps.length + 1 ≤ 1000 by omega) (by decide)
              have k4 := same_new (o := .lst ((ps.map V.ref).take (j + 1) ++ [.ref c2])) n4
              have k14 := k1.trans (k2.trans (k3.trans k4))
              have hR14 := hR8.mono k14
              have e4 := upd_same (H := upd (upd (upd H8 c1 (.lst ((ps.map V.ref).take (j + 1)))) c2 (.tup [.int (y - d5 % 2), oV hi])) c3 (.lst [.ref c2])) (a := c4) (o := .lst ((ps.map V.ref).take (j + 1) ++ [.ref c2]))
              have et := k4 _ _ (k3 _ _ (upd_same (H := upd H8 c1 (.lst ((ps.map V.ref).take (j + 1)))) (a := c2) (o := .tup [.int (y - d5 % 2), oV hi])))
              generalize eX14 : upd (upd (upd (upd H8 c1 (.lst ((ps.map V.ref).take (j + 1)))) c2 (.tup [.int (y - d5 % 2), oV hi])) c3 (.lst [.ref c2])) c4 (.lst ((ps.map V.ref).take (j + 1) ++ [.ref c2])) = H14 at k14 hR14 e4 et ⊢
              walk_at "go"
              refine ⟨R, _, rfl, hR14.1, fun c5 n5 => ?_⟩
              rw [show ((j : Int) + 2) = ((j + 2 : Nat) : Int) by omega, cut_from]
              have k5 := same_new (o := .lst ((ps.map V.ref).drop (j + 2))) n5
              walk_at "go"
              refine ⟨c4, c5, _, _, rfl, rfl, k5 _ _ e4, upd_same, ?_, fun c6 n6 => ?_⟩
              · rw [List.length_append, List.length_take, List.length_drop, List.length_map]
                exact Nat.le_trans (show min (j + 1) ps.length + [V.ref c2].length + (ps.length - (j + 2)) ≤ 1000 by have : [V.ref c2].length = 1 := rfl; have := hR.2.1; omega) (by decide)
              have k6 := same_new (o := .lst ((ps.map V.ref).take (j + 1) ++ [.ref c2] ++ (ps.map V.ref).drop (j + 2))) n6
              have hR16 : Ris true false K _ c6 (ps.set (j + 1) c2) (rs.set (j + 1) (y - d5 % 2, hi)) := ris_put (y := hi) (hR14.mono (k5.trans k6)) (SqL.of (by rw [← set_cut _ _ _ (show j + 1 < (ps.map V.ref).length by rw [List.length_map]; exact hp1)]; exact upd_same)) (.inl (.inl (k6 _ _ (k5 _ _ et))))
              have hl16 : (rs.set (j + 1) (y - d5 % 2, hi)).length ≤ 100000 := by rw [List.length_set]; omega
              have hc16 : chk (some (-1)) (rs.set (j + 1) (y - d5 % 2, hi)) = false := by
                rw [List.set_eq_take_append_cons_drop, if_pos hj1, List.take_add_one, er0, List.append_assoc]
                exact chk_touch (by have := Int.emod_nonneg d5 (show (2 : Int) ≠ 0 by decide); omega) _ _ _
              have k16 := k14.trans (k5.trans k6)
              generalize eX16 : upd (upd H14 c5 (.lst ((ps.map V.ref).drop (j + 2)))) c6 (.lst ((ps.map V.ref).take (j + 1) ++ [.ref c2] ++ (ps.map V.ref).drop (j + 2))) = H16 at hR16 k16 ⊢
              walk_at "go"
              refine ⟨true, false, some s, none, c6, _, _, "rises", rfl, hR16, hl16, wrong_rises gs hc16, fun H17 k17 => ?_⟩
              walk_at "go"
              exact ⟨k16.trans k17, _, _, _, _, rfl⟩
            · rintro σ' H9 ⟨s9, v6, v7, v8, v9, rfl⟩
              have hD9 := s9.seq hD8
              walk_at "go"
              refine dix 1 (by decide) hD9 hd fun d1 b1 b2 => ?_
              walk_at "go"
              intro t1 nt1
              have k1 := same_new (o := .tup [.int (-1 - d1), .int 5]) nt1
              walk_at "go"
              intro t2 nt2
              have k2 := same_new (o := .lst [.ref t1]) nt2
              walk_at "go"
              refine ⟨true, false, some s, none, t2, [t1], [(-1 - d1, some 5)], "rises", rfl, ⟨SqL.of upd_same, rfl, ?_⟩, by simp, wrong_rises gs ?_, fun H10 k3 => ?_⟩
              · intro i p q h3 h4
                cases i with
                | zero =>
                  cases h3
                  cases h4
                  exact .inl (.inl (k2 _ _ upd_same))
                | succ i => cases h3
              · rw [chk_cons, decide_eq_false (by omega)]
                rfl
              walk_at "go"
              intro t3 nt3
              have k4 := same_new (o := .tup [.int 2, .non]) nt3
              walk_at "go"
              intro t4 nt4
              have k5 := same_new (o := .tup [.int 5, .int 6]) nt4
              walk_at "go"
              intro t5 nt5
              have k6 := same_new (o := .lst [.ref t3, .ref t4]) nt5
              walk_at "go"
              refine ⟨true, false, some s, none, t5, [t3, t4], [(2, none), (5, some 6)], "rises", rfl, ⟨SqL.of upd_same, rfl, ?_⟩, by simp, wrong_rises gs rfl, fun H11 k7 => ?_⟩
              · intro i p q h3 h4
                match i, h3, h4 with
                | 0, h3, h4 =>
                  cases h3
                  cases h4
                  exact .inl (.inl (k6 _ _ (k5 _ _ upd_same)))
                | 1, h3, h4 =>
                  cases h3
                  cases h4
                  exact .inl (.inl (k6 _ _ upd_same))
                | i + 2, h3, h4 => cases h3
              exact q _ (sH8.trans (s9.trans (k1.trans (k2.trans (k3.trans (k4.trans (k5.trans (k6.trans k7))))))))
end
end Z
set_option Elab.async false
set_option linter.all false
set_option maxRecDepth 100000
set_option maxHeartbeats 4000000
namespace Z
open Nd
open PySem PySem.Spec PyProof.Rows L2
open C8 (pss_cut tCut)
local macro_rules | `(tactic| walk_at "num") => `(tactic| first | rfl | omega | decide | exact Nat.le_of_lt (small1000 (by simp)) | exact ⟨by omega, by omega⟩ | exact ⟨by omega, by omega, by omega⟩ | exact ⟨by decide, by decide, by decide⟩ | exact Or.inl ⟨by omega, by omega⟩ | exact Or.inr ⟨by omega, by omega⟩)
local macro_rules | `(tactic| walk_at "go") => `(tactic| repeat (first | refine ⟨_, rfl, ?_⟩ | refine ⟨_, _, rfl, rfl, ?_⟩ | refine ⟨_, _, rfl, ?_⟩ | refine ⟨_, _, rfl, rfl, (by walk_at "num"), ?_⟩ | refine Or.inl ⟨_, rfl, ?_⟩ | refine ⟨_, _, _, _, rfl, rfl, (by assumption), (by rfl), ?_⟩ | refine ⟨_, _, _, _, _, rfl, (by assumption), (by assumption), (by assumption), (by rfl), ?_⟩ | refine ⟨rfl, ?_⟩ | refine And.intro (by walk_at "num") ?_))
abbrev s_sixty : Stmt := topS 31
abbrev N_sixty : List Str := ["_law_draws_here", "_law_low", "_law_rises", "_law_k", "_law_high", "_law_f"]
abbrev P_sixty : List Str := ["_law_draws_here"]
theorem sc_sixty : FnScope N_sixty P_sixty (defScope s_sixty) := ⟨rfl, rfl, rfl, by decide +kernel, rfl, by decide +kernel, by decide +kernel⟩
theorem dixI {K : PySem.W.Frag} {H : Hp} {D : Addr} {ds : List Int} {n : Nat} {j : Int} (h0 : 0 ≤ j) (h1 : j < n) (hS : SqL K H D (ds.map V.int)) (hd : Dr n ds) {R : V → Prop} (k : ∀ d : Int, 0 ≤ d → d < 1000000 → R (.int d)) : ∃ (p : Addr) (xs : List V) (i' : Int) (v : V), V.ref D = .ref p ∧ V.int j = .int i' ∧ SqL K H p xs ∧ atI xs i' = some v ∧ R v := by
  obtain ⟨i, rfl⟩ := Int.eq_ofNat_of_zero_le h0
  have h : i < ds.length := by rw [hd.1]; omega
  have z := hd.2 _ (List.getElem_mem h)
  exact ⟨D, _, _, _, rfl, rfl, hS, at_map (List.getElem?_eq_getElem h), k _ z.1 z.2⟩
theorem rg5 {j : Int} (h0 : 0 ≤ j) (h1 : j < 2 ^ 62) : RgC 0 j 5 ((j + 4) / 5).toNat := by
  have e : Builtin.Range.rangeSize 0 j 5 = (j + 4) / 5 := by
    unfold Builtin.Range.rangeSize
    rw [if_pos (by decide)]
    split <;> omega
  refine ⟨by decide, by decide, ?_, ?_⟩
  · unfold Builtin.Range.small
    rw [e]
    simp only [Builtin.Range.rangeFitsLong, Bool.and_eq_true, Bool.or_eq_true, decide_eq_true_eq, beq_iff_eq, show ((5 : Int) > 0) by decide, if_true]
    omega
  · rw [e]
    omega
section
variable {P : Program} {w : World} {K : PySem.W.Frag} {mg : Str → Option Value} {base : Heap} {f C CN CA : Addr} {fd : FuncData}
def spSixty (K : PySem.W.Frag) : Sp := fun vs H Q _ => ∃ (D : Addr) (ds : List Int), vs = [.ref D] ∧ SqL K H D (ds.map V.int) ∧ Dr 8 ds ∧ ∀ H', Same H H' → Q (.bl true) H'
theorem ok_sixty (F : FnP K "_law_sixty" s_sixty f fd) (cls : Cls K C) (n_rises : NoAttr K C "rises") (m_int : mg "int" = none) (m_range : mg "range" = none) (m_tuple : mg "tuple" = none) (k_Need : MakX P w K mg base 4 "Need" C (spInit C CN K)) (co_call : CobX P w K mg base 3 C (spCallX C CA K)) (c_same : Cal P w K mg base 1 "_law_same" spSame) (c_value : Cal P w K mg base 1 "_law_value" (spLV K)) : FnOk P w K mg base CX0 6 f fd P_sixty (spSixty K) := by
  refine F.ok sc_sixty (fun vs H Q E h => ?_) (fun cdv A outer s H vs Q E hr h => ?_)
  · obtain ⟨D, ds, rfl, _⟩ := h
    rfl
  · obtain ⟨D, ds, rfl, hD, hd, q⟩ := h
    refine ⟨_, PSs.nox (pss_cons (ps_set (i := 1) sc_sixty.nd rfl (by first | exact .inl rfl | exact .inr rfl) (pe_op op_mod (pe_callTy call_int1 (by rfl) m_int (by decide +kernel) (pa_cons (pe_ix ix_list (pv 0) pe_int (fun _ _ => rfl)) pa_nil)) pe_int))
      (pss_cons (ps_set (i := 2) sc_sixty.nd rfl (by first | exact .inl rfl | exact .inr rfl) (pe_lst pa_nil))
      (pss_cons (ps_for PassesOwn.never rfl (pi_range1 (by rfl) m_range (pa_cons pe_int pa_nil)) (pg_name (i := 3) sc_sixty.nd rfl (by first | exact .inl rfl | exact .inr rfl))
        (pss_cons (ps_set (i := 4) sc_sixty.nd rfl (by first | exact .inl rfl | exact .inr rfl) (pe_op op_add (pe_op op_add (pv 1) pe_int) (pe_op op_mod (pe_callTy call_int1 (by rfl) m_int (by decide +kernel) (pa_cons (pe_ix ix_list (pv 0) (pe_op op_mod (pv 3) pe_int) (fun _ _ => rfl)) pa_nil)) pe_int)))
      (pss_cons (ps_expr (pe_bm PySem.F.plainAttrs_list PySem.F.slot_list_append PySem.F.type_list_append mt_append (pv 2) (pa_cons (pe_tup (pa_cons (pv 1) (pa_cons (pv 4) pa_nil))) pa_nil)))
      (pss_one (ps_set (i := 1) sc_sixty.nd rfl (by first | exact .inl rfl | exact .inr rfl) (pe_op op_add (pe_op op_add (pv 4) pe_int) (pe_op op_mod (pe_callTy call_int1 (by rfl) m_int (by decide +kernel) (pa_cons (pe_ix ix_list (pv 0) (pe_op op_mod (pv 3) pe_int) (fun _ _ => rfl)) pa_nil)) pe_int)))))))
      (pss_cons (ps_set (i := 5) sc_sixty.nd rfl (by first | exact .inl rfl | exact .inr rfl) (pe_mkE k_Need (fun _ => passS0) hr (by decide) (by rfl) (pa_cons pe_int (pa_cons (pv 2) (pa_cons pe_non pa_nil)))))
      (pss_cons (ps_for PassesOwn.never rfl (pi_range3 (by rfl) m_range (pa_cons pe_int (pa_cons (pe_op op_add (pv 1) pe_int) (pa_cons pe_int pa_nil)))) (pg_name (i := 3) sc_sixty.nd rfl (by first | exact .inl rfl | exact .inr rfl))
        (pss_one (ps_if (pt_not (pt_val (pe_cl c_same hr (by decide) (by rfl) (pa_cons (pe_coE co_call (pv 5) (fun _ => passS0) hr (by decide) (pa_cons (pv 3) pa_nil)) (pa_cons (pe_cl c_value hr (by decide) (by rfl) (pa_cons (pe_lst (pa_cons pe_int (pa_cons (pv 2) (pa_cons pe_non pa_nil)))) (pa_cons (pv 3) pa_nil))) pa_nil))))) (pss_one (ps_ret pe_bl)) pss_nil)))
      (pss_one (ps_ret (pe_and (pe_cmpR (op_eqD hr.units) (pe_fld (pv 5) rfl) (pe_callTy call_tuple_of (by rfl) m_tuple (by decide +kernel) (pa_cons (pv 2) pa_nil)) (nomark _)) (pe_one (pe_cl c_same hr (by decide) (by rfl) (pa_cons (pe_coE co_call (pv 5) (fun _ => passS0) hr (by decide) (pa_cons (pe_op op_pow pe_int pe_int) pa_nil)) (pa_cons (pe_cl c_value hr (by decide) (by rfl) (pa_cons (pe_lst (pa_cons pe_int (pa_cons (pv 2) (pa_cons pe_non pa_nil)))) (pa_cons (pe_op op_pow pe_int pe_int) pa_nil))) pa_nil)))))))))))), ?_⟩
    walk_at "go"
    refine dixI (by decide) (by decide) hD hd fun d0 a1 a2 => ?_
    walk_at "go"
    intro R nR
    walk_at "go"
    refine for_gen (n := 60) (fun i σ H1 => ∃ (ps : List Addr) (rs : Rs) (lo : Int) (v3 v4 : Option V), Same H H1 ∧ RisH H1 R ps rs ∧ rs.length = i ∧ Gd (-1) rs lo ∧ 0 ≤ lo ∧ lo ≤ 5 + 6 * i ∧ σ = [some (.ref D), some (.int lo), some (.ref R), v3, v4, none]) ⟨[], [], d0 % 5, none, none, same_new nR, ⟨upd_same, rfl, fun i p q h => nomatch h⟩, rfl, (by show -1 < d0 % 5; omega), (by omega), (by omega), rfl⟩ (fun i σ H6 hi _ => hi) (fun σ H6 _ => Nat.le_refl _) ?_ ?_
    · rintro i σ H1 x H' hi ⟨ps, rs, lo, v3, v4, s1, hR, hl, hg, l0, l1, rfl⟩ ⟨rfl, rfl⟩
      have hD1 := s1.seq hD
      walk_at "go"
      refine dixI (by omega) (by omega) hD1 hd fun d1 b1 b2 => ?_
      walk_at "go"
      refine ⟨.inl ⟨rfl, _, .inl (.inl hR.1)⟩, ?_⟩
      walk_at "go"
      intro T nT
      walk_at "go"
      have s2 := same_new (o := .tup [.int lo, .int (lo + 1 + d1 % 3)]) nT
      have hR2 := hR.more s2
      refine ⟨_, _, _, rfl, rfl, hR2.1, ?_, ?_⟩
      · rw [List.length_map, hR2.2.1, hl]
        exact Nat.lt_of_lt_of_le hi (by decide)
      have hR3 := hR2.snoc (y := some (lo + 1 + d1 % 3)) upd_same
      have s3 := Z.Same.mut (o := .lst (ps.map V.ref ++ [.ref T])) (s1.trans s2) nR
      have hD3 := s3.seq hD
      walk_at "go"
      refine dixI (by omega) (by omega) hD3 hd fun d2 c1 c2 => ?_
      walk_at "go"
      refine ⟨_, _, _, _, _, s3, hR3, ?_, hg.snoc (h := lo + 1 + d1 % 3) (z' := lo + 1 + d1 % 3 + 1 + d2 % 2) (by omega) (by omega), ?_, ?_, rfl⟩
      · rw [List.length_append, hl]
        rfl
      · omega
      · omega
    · rintro σ H1 ⟨ps, rs, lo, v3, v4, s1, hR, hl, hg, l0, l1, rfl⟩
      have hw : wrong (some 2) rs none = none := ok_wrong ⟨good_chk hg.good, fun s hs => by cases hs; decide, nofun⟩
      walk_at "go"
      intro n dx n1 n2 n3
      have s2 : Same H1 (upd (upd H1 dx (.own n)) n (.ins C dx [])) := Z.Same.mut (same_new n2) n1
      refine ⟨true, false, some 2, none, n, dx, R, ps, rs, rfl, upd_same, (hR.ris (K := K)).mono s2, by omega, fun _ H3 sb hN => ⟨rfl, ?_⟩, fun fl z => by rw [hw] at z; cases z⟩
      have s13 : Same H1 H3 := SB.same (SB.trans (Z.Same.sb s2) sb) n1
      have ok : Ok (some 2) rs none := wrong_none hw
      have hR3 := hR.more s13
      have sH3 := s1.trans s13
      clear s2 n2 n3 sb
      walk_at "go"
      refine ⟨0, lo + 5, 5, ((lo + 5 + 4) / 5).toNat, rfl, rg5 (by omega) (by omega), ?_⟩
      refine for_gen (n := ((lo + 5 + 4) / 5).toNat) (fun i σ H4 => Same H3 H4 ∧ ∃ v3 : Option V, σ = [some (.ref D), some (.int lo), some (.ref R), v3, v4, some (.ref n)]) ⟨Same.refl _, v3, rfl⟩ (fun i σ H6 hi _ => hi) (fun σ H6 _ => Nat.le_refl _) ?_ ?_
      · rintro i σ H4 x H' hi ⟨s4, v5, rfl⟩ ⟨rfl, rfl⟩
        have hN4 := hN.mono s4
        obtain ⟨dn, r, qs, hn, _⟩ := id hN4
        walk_at "go"
        refine ⟨⟨_, _, hn⟩, some 2, none, some (0 + (i : Int) * 5), n, rs, rfl, hN4, ok, (fun _ => ?_), fun j ej hj => ?_⟩
        rotate_left
        · cases ej
          omega
        walk_at "go"
        intro l nl
        have s5 := same_new (o := .lst [.int 2, .ref R, .non]) nl
        walk_at "go"
        refine ⟨true, some 2, none, some (0 + (i : Int) * 5), l, rs, rfl, ⟨R, ps, SqL.of upd_same, (hR3.more (s4.trans s5)).ris⟩, ?_⟩
        walk_at "go"
        exact ⟨s4.trans s5, _, rfl⟩
      · rintro σ H4 ⟨s4, v5, rfl⟩
        have hN4 := hN.mono s4
        obtain ⟨dn, r, qs, hn, hRn, _⟩ := id hN4
        have hR4 := hR3.more s4
        walk_at "go"
        refine ⟨R, _, rfl, .inl ⟨SqL.of hR4.1, fun t nt => ?_⟩⟩
        have s5 := same_new (o := .tup (ps.map V.ref)) nt
        have hT : Ris false false K (upd H4 t (.tup (ps.map V.ref))) t ps rs := ⟨.inl (.inl upd_same), hR4.2.1, ((hR4.ris (K := K)).mono s5).2.2⟩
        refine same2 (d := risD false false rs) (hRn.mono s5).dp hT.dp (shaped_ris _ _ _) ?_
        rw [eqv_same (shaped_ris _ _ _)]
        have hN5 := hN4.mono s5
        walk_at "go"
        refine ⟨⟨_, _, s5 _ _ hn⟩, some 2, none, some (10 ^ Int.toNat 9), n, rs, rfl, hN5, ok, (fun _ => ?_), fun j ej hj => ?_⟩
        rotate_left
        · cases ej
          exact absurd hj (by decide)
        walk_at "go"
        intro l nl
        have s6 := same_new (o := .lst [.int 2, .ref R, .non]) nl
        walk_at "go"
        refine ⟨true, some 2, none, some (10 ^ Int.toNat 9), l, rs, rfl, ⟨R, ps, SqL.of upd_same, (hR4.more (s5.trans s6)).ris⟩, ?_⟩
        walk_at "go"
        exact q _ (sH3.trans (s4.trans (s5.trans s6)))
end
end Z
set_option Elab.async false
set_option linter.all false
set_option maxRecDepth 100000
set_option maxHeartbeats 4000000
namespace Z
open Nd
open PySem PySem.Spec PyProof.Rows L2
open C8 (pss_cut tCut)
local macro_rules | `(tactic| walk_at "num") => `(tactic| first | rfl | omega | decide | exact Nat.le_of_lt (small1000 (by simp)) | exact ⟨by omega, by omega⟩ | exact ⟨by omega, by omega, by omega⟩ | exact ⟨by decide, by decide, by decide⟩ | exact Or.inl ⟨by omega, by omega⟩ | exact Or.inr ⟨by omega, by omega⟩)
local macro_rules | `(tactic| walk_at "go") => `(tactic| repeat (first | refine ⟨_, rfl, ?_⟩ | refine ⟨_, _, rfl, rfl, ?_⟩ | refine ⟨_, _, rfl, ?_⟩ | refine ⟨_, _, rfl, rfl, (by walk_at "num"), ?_⟩ | refine Or.inl ⟨_, rfl, ?_⟩ | refine ⟨_, _, _, _, rfl, rfl, (by assumption), (by rfl), ?_⟩ | refine ⟨_, _, _, _, _, rfl, (by assumption), (by assumption), (by assumption), (by rfl), ?_⟩ | refine ⟨rfl, ?_⟩ | refine And.intro (by walk_at "num") ?_))
abbrev s_law : Stmt := topS 32
abbrev N_law : List Str := ["_law_script", "_law_draws_here", "_law_need_here", "_law_pair", "_law_handed", "_law_f", "_law_twin", "_law_other", "_law_points_here", "_law_k", "_law_more"]
abbrev P_law : List Str := ["_law_script"]
theorem sc_law : FnScope N_law P_law (defScope s_law) := ⟨rfl, rfl, rfl, by decide +kernel, rfl, by decide +kernel, by decide +kernel⟩
/-- [list(pair) for pair in rises] -/
theorem lc_lists {K : PySem.W.Frag} {a D : Addr} {ps : List Addr} {rs : Rs} {H0 : Hp} {i : Nat} {te : TE} {vs : List Nat} {σ : L2.St} {Qd : Hp → Prop} (hR : Ris false false K H0 a ps rs) (hb : rs.length ≤ 100000) (nD : H0 D = none)
    (hw : ∀ x : V, wipe ((wipe σ vs).set i (some x)) vs = wipe σ vs)
    (ht : ∀ p l h H1 (Q : VK), Same H0 H1 → SqT K H1 p [.int l, oV h] → (∀ T, H1 T = none → Q (.ref T) (upd H1 T (.lst [.int l, oV h]))) → te ((wipe σ vs).set i (some (.ref p))) H1 Q)
    (hd : ∀ H1 (qs : List Addr), Same H0 H1 → H1 D = some (.lst (qs.map V.ref)) → qs.length = rs.length → (∀ (k : Nat) (p : Addr) (q : Int × Option Int), qs[k]? = some p → rs[k]? = some q → H1 p = some (.lst [.int q.1, oV q.2])) → (∀ (k : Nat) (p : Addr), qs[k]? = some p → H0 p = none ∧ p ≠ D) → Qd H1) : lcW (Itt K a) (gName i) tYes te vs σ D Qd H0 := by
  refine lc_gen (n := rs.length) (fun k H1 => Same H0 H1 ∧ ∃ qs : List Addr, H1 D = some (.lst (qs.map V.ref)) ∧ qs.length = k ∧ (∀ (k : Nat) (p : Addr) (q : Int × Option Int), qs[k]? = some p → rs[k]? = some q → H1 p = some (.lst [.int q.1, oV q.2])) ∧ ∀ (k : Nat) (p : Addr), qs[k]? = some p → H0 p = none ∧ p ≠ D) ⟨same_new nD, [], upd_same, rfl, (fun k p q h => nomatch h), fun k p h => nomatch h⟩ ?_ ?_ ?_ ?_
  · rintro k H1 hk ⟨s, _⟩
    have hi2 : k < ps.length := by rw [hR.2.1]; exact hk
    exact ⟨_, .ref ps[k], Z.Same.sqT s hR.1, by rw [List.getElem?_map, List.getElem?_eq_getElem hi2]; rfl⟩
  · rintro H1 ⟨s, _⟩
    exact ⟨_, Z.Same.sqT s hR.1, by rw [List.length_map, hR.2.1]; exact Nat.le_refl _⟩
  · rintro k H1 v H' hk ⟨s, qs, eD, el, eq, ef⟩ ⟨rfl, fx⟩
    obtain ⟨p, ep, rfl⟩ := of_map (fx _ (Z.Same.sqT s hR.1))
    have er : rs[k]? = some (rs[k].1, rs[k].2) := List.getElem?_eq_getElem hk
    refine ⟨hw _, ?_⟩
    refine ht _ _ _ _ _ s (Z.Same.sqT s (hR.2.2 k p _ ep er)) (fun T nT => ?_)
    have sT : Same H' (upd H' T (.lst [.int rs[k].1, oV rs[k].2])) := same_new nT
    refine ⟨_, sT _ _ eD, ?_, ?_, qs ++ [T], ?_, ?_, ?_, ?_⟩
    · rw [List.length_map, el]
      exact Nat.lt_of_lt_of_le hk (Nat.le_trans hb (by decide))
    · exact Z.Same.mut (s.trans sT) nD
    · rw [upd_same, List.map_append]
      rfl
    · rw [List.length_append, el]
      rfl
    all_goals have tD : T ≠ D := (ne_of_none eD nT).symm
    · intro k2 p2 q2 h1 h2
      by_cases hlt : k2 < qs.length
      · rw [List.getElem?_append_left hlt] at h1
        have z := eq k2 p2 q2 h1 h2
        rw [upd_ne (ef k2 p2 h1).2]
        exact sT _ _ z
      · rw [List.getElem?_append_right (by omega)] at h1
        have h3 : k2 - qs.length = 0 := by
          have := (List.getElem?_eq_some_iff.mp h1).1
          simp at this
          omega
        rw [h3] at h1
        obtain rfl : T = p2 := Option.some.inj h1
        have h4 : k2 = k := by omega
        subst h4
        rw [er] at h2
        obtain rfl := Option.some.inj h2
        rw [upd_ne tD, upd_same]
    · intro k2 p2 h1
      by_cases hlt : k2 < qs.length
      · rw [List.getElem?_append_left hlt] at h1
        exact ef k2 p2 h1
      · rw [List.getElem?_append_right (by omega)] at h1
        have h3 : k2 - qs.length = 0 := by
          have := (List.getElem?_eq_some_iff.mp h1).1
          simp at this
          omega
        rw [h3] at h1
        obtain rfl : T = p2 := Option.some.inj h1
        refine ⟨?_, tD⟩
        cases e : H0 T with
        | none => rfl
        | some o =>
          rw [s _ _ e] at nT
          cases nT
  · rintro H1 ⟨s, qs, eD, el, eq, ef⟩
    exact hd H1 qs s eD el eq ef
theorem tyT {K : PySem.W.Frag} {H : Hp} {a : Addr} {xs : List V} (h : SqT K H a xs) : TyX K H (.ref a) (.type "tuple") := by
  rcases h with (h | ⟨o, h⟩) | ⟨o, its, n, h1, h2, _⟩
  · exact .base (.tup h)
  · exact .fTuple h
  · exact .kTuple h1 h2
theorem isiX {K : PySem.W.Frag} {H : Hp} {x : V} {T c : String} {b : Bool} {R : Bool → Prop} (t : TyX K H x (.type T)) (h : kitB T c = some b) (q : R b) : ∃ (x' c' : V) (t' u' : Value) (b' : Bool), [x, .ty c] = [x', c'] ∧ ClsV c' u' ∧ TyX K H x' t' ∧ PySem.W.kitOne K t' u' = some b' ∧ R b' :=
  ⟨x, .ty c, .type T, .type c, b, rfl, .ty c, t, kit_ty h, q⟩
theorem sqT_lst {K : PySem.W.Frag} {H H' : Hp} {m a : Addr} {ys xs : List V} (s : SB m H H') (hm : H m = some (.lst ys)) (h : SqT K H a xs) : SqT K H' a xs := by
  have ne : ∀ {o : HO}, H a = some o → (∀ ys, o ≠ .lst ys) → a ≠ m := fun e z w => by
    rw [w, hm] at e
    exact z _ (Option.some.inj e).symm
  rcases h with (h | ⟨o, h⟩) | h
  · exact .inl (.inl (s _ _ (ne h fun _ => nofun) h))
  · exact .inl (.inr ⟨o, s _ _ (ne h fun _ => nofun) h⟩)
  · exact .inr h
theorem NeedAt.sb {C : Addr} {K : PySem.W.Frag} {H H' : Hp} {n m : Addr} {st nv : Option Int} {rs : Rs} {ys : List V} (s : SB m H H') (hm : H m = some (.lst ys)) (h : NeedAt C K H n st rs nv) : NeedAt C K H' n st rs nv := by
  obtain ⟨dx, r, ps, e, h2, h3⟩ := h
  have ne : ∀ {a : Addr} {o : HO}, H a = some o → (∀ ys, o ≠ .lst ys) → a ≠ m := fun e z w => by
    rw [w, hm] at e
    exact z _ (Option.some.inj e).symm
  exact ⟨dx, r, ps, s _ _ (ne e fun _ => nofun) e, ⟨sqT_lst s hm h2.1, h2.2.1, fun i p q a b => sqT_lst s hm (h2.2.2 i p q a b)⟩, s _ _ (ne h3 fun _ => nofun) h3⟩
section
variable {P : Program} {w : World} {K : PySem.W.Frag} {mg : Str → Option Value} {base : Heap} {f C CN CA : Addr} {fd : FuncData}
def spLaw (K : PySem.W.Frag) : Sp := fun vs H Q _ => ∃ (a : Addr) (ns : List Int), vs = [.ref a] ∧ SqL K H a (ns.map V.int) ∧ ∀ H', Q (.bl true) H'
theorem ok_law (F : FnP K "law" s_law f fd) (m_int : mg "int" = none) (m_len : mg "len" = none) (m_abs : mg "abs" = none) (m_list : mg "list" = none) (m_tuple : mg "tuple" = none) (m_isinstance : mg "isinstance" = none) (cls : Cls K C) (n_start : NoAttr K C "start") (n_rises : NoAttr K C "rises") (n_never : NoAttr K C "never")
    (c_draws : Cal P w K mg base 1 "_law_draws" spDraws) (c_cell : Cal P w K mg base 1 "_law_cell" (spCell K)) (c_need : Cal P w K mg base 2 "_law_need" (spLN K)) (c_points : Cal P w K mg base 1 "_law_points" (spPoints K)) (c_value : Cal P w K mg base 1 "_law_value" (spLV K)) (c_same : Cal P w K mg base 1 "_law_same" spSame) (c_refuses_amount : Cal P w K mg base 4 "_law_refuses_amount" (spRefAm C K)) (c_sixty : Cal P w K mg base 6 "_law_sixty" (spSixty K)) (c_wrong_fields : Cal P w K mg base 8 "_law_wrong_fields" (spWrong K))
    (k_Need : MakX P w K mg base 4 "Need" C (spInit C CN K)) (co_call : CobX P w K mg base 3 C (spCallX C CA K)) (e_Need : Eqo P w K mg base 1 C (spEq C K)) : FnOk P w K mg base CX0 9 f fd P_law (spLaw K) := by
  refine F.ok sc_law (fun vs H Q E h => ?_) (fun cdv A outer s H vs Q E hr h => ?_)
  · obtain ⟨a, ns, rfl, _⟩ := h
    rfl
  · obtain ⟨a, ns, rfl, hS, q⟩ := h
    refine ⟨_, PSs.nox (pss_cons (ps_set (i := 1) sc_law.nd rfl (by first | exact .inl rfl | exact .inr rfl) (pe_cl c_draws hr (by decide) (by rfl) (pa_cons (pe_cl c_cell hr (by decide) (by rfl) (pa_cons (pv 0) (pa_cons pe_int pa_nil))) (pa_cons pe_int pa_nil))))
      (pss_cons (ps_set (i := 2) sc_law.nd rfl (by first | exact .inl rfl | exact .inr rfl) (pe_cl c_need hr (by decide) (by rfl) (pa_cons (pv 1) (pa_cons (pe_lst (pa_cons pe_int pa_nil)) pa_nil))))
      (pss_cons (ps_setLc (i := 4) (own := [("_law_pair", 3)]) (g := (gName 3)) (tt := tYes) (by rfl) sc_law.nd rfl rfl (sw_true rfl rfl rfl (by decide +kernel)) (pi_tup (pe_ix ix_list (pv 2) pe_int (fun _ _ => rfl))) (blkOk_by (own := [("_law_pair", 3)]) (N := N_law) (sc := defScope s_law) (by decide +kernel)) (fun _ _ _ _ _ => (pg_name (i := 3) sc_law.nd rfl (by first | exact .inl rfl | exact .inr rfl))) (fun _ _ _ _ _ => pts_nil) (fun _ _ _ _ _ => (pe_callTy (call_list_of_K (K := K) rfl) (by rfl) m_list (by decide +kernel) (pa_cons (pv 3) pa_nil))))
      (pss_cons (ps_set (i := 5) sc_law.nd rfl (by first | exact .inl rfl | exact .inr rfl) (pe_mkE k_Need (fun _ => passS0) hr (by decide) (by rfl) (pa_cons (pe_ix ix_list (pv 2) pe_int (fun _ _ => rfl)) (pa_cons (pv 4) (pa_cons (pe_ix ix_list (pv 2) pe_int (fun _ _ => rfl)) pa_nil)))))
      (pss_cons (ps_set (i := 6) sc_law.nd rfl (by first | exact .inl rfl | exact .inr rfl) (pe_mkE k_Need (fun _ => passS0) hr (by decide) (by rfl) (pa_cons (pe_ix ix_list (pv 2) pe_int (fun _ _ => rfl)) (pa_cons (pe_ix ix_list (pv 2) pe_int (fun _ _ => rfl)) (pa_cons (pe_ix ix_list (pv 2) pe_int (fun _ _ => rfl)) pa_nil)))))
      (pss_cons (ps_set (i := 7) sc_law.nd rfl (by first | exact .inl rfl | exact .inr rfl) (pe_mkE k_Need (fun _ => passS0) hr (by decide) (by rfl) (pa_cons pe_int (pa_cons (pe_lst pa_nil) (pa_cons pe_int pa_nil)))))
      (pss_cons (ps_if (pt_cmpR (op_neD hr.units) (pv 4) (pe_lc (own := [("_law_pair", 3)]) (g := (gName 3)) (tt := tYes) (by rfl) sc_law.nd (pi_tup (pe_ix ix_list (pv 2) pe_int (fun _ _ => rfl))) (blkOk_by (own := [("_law_pair", 3)]) (N := N_law) (sc := defScope s_law) (by decide +kernel)) (fun _ _ _ _ _ => (pg_name (i := 3) sc_law.nd rfl (by first | exact .inl rfl | exact .inr rfl))) (fun _ _ _ _ _ => pts_nil) (fun _ _ _ _ _ => (pe_callTy (call_list_of_K (K := K) rfl) (by rfl) m_list (by decide +kernel) (pa_cons (pv 3) pa_nil)))) (nomark _)) (pss_one (ps_ret pe_bl)) pss_nil)
      (pss_cut (ps_if (pt_cmpR op_gt (pe_callB call_len_seq (by rfl) m_len PySem.boot_len (pa_cons (pv 4) pa_nil)) pe_int (nomark _)) (pss_one (ps_asg (pe_op op_add (pe_ix ix_list (pe_ix ix_list (pv 4) pe_int (fun _ _ => rfl)) pe_int (fun _ _ => rfl)) pe_int) (pg_sub (pe_ix ix_list (pv 4) pe_int (fun _ _ => rfl)) pe_int set_list))) pss_nil)
      (pss_cons (ps_expr (pe_bm PySem.F.plainAttrs_list PySem.F.slot_list_append PySem.F.type_list_append mt_append (pv 4) (pa_cons (pe_lst (pa_cons (pe_op op_pow pe_int pe_int) (pa_cons pe_non pa_nil))) pa_nil)))
      (pss_cons (ps_if (PW.pt (pw_or (pt_cmpR op_ne (pe_fld (pv 5) rfl) (pe_ix ix_list (pv 2) pe_int (fun _ _ => rfl)) (nomark _)) (pw_or (pt_cmpR (op_neD hr.units) (pe_fld (pv 5) rfl) (pe_ix ix_list (pv 2) pe_int (fun _ _ => rfl)) (nomark _)) (pw_or (pt_cmpR op_ne (pe_fld (pv 5) rfl) (pe_ix ix_list (pv 2) pe_int (fun _ _ => rfl)) (nomark _)) (pw_or1 (pt_not (pt_cmpR (op_own e_Need hr (by decide)) (pv 5) (pv 6) (nomark _)))))))) (pss_one (ps_ret pe_bl)) pss_nil)
      (pss_cons (ps_if (PW.pt (pw_or (pt_not (pt_val (pe_callB call_isi (by rfl) m_isinstance (by decide +kernel) (pa_cons (pe_fld (pv 5) rfl) (pa_cons (pe_bltn (v := .ty "tuple") (by rfl) m_tuple (by decide +kernel) rfl) pa_nil))))) (pw_or1 (pt_cmpR op_gt (pe_callB call_len_seq (by rfl) m_len PySem.boot_len (pa_cons (pe_lc (own := [("_law_pair", 3)]) (g := (gName 3)) (by rfl) sc_law.nd (pi_tup (pe_fld (pv 5) rfl)) (blkOk_by (own := [("_law_pair", 3)]) (N := N_law) (sc := defScope s_law) (by decide +kernel)) (fun _ _ _ _ _ => (pg_name (i := 3) sc_law.nd rfl (by first | exact .inl rfl | exact .inr rfl))) (fun _ _ _ _ _ => (pts_one (pt_not (pt_val (pe_callB (call_isi_K (K := K) rfl) (by rfl) m_isinstance (by decide +kernel) (pa_cons (pv 3) (pa_cons (pe_bltn (v := .ty "tuple") (by rfl) m_tuple (by decide +kernel) rfl) pa_nil))))))) (fun _ _ _ _ _ => (pv 3))) pa_nil)) pe_int (nomark _))))) (pss_one (ps_ret pe_bl)) pss_nil)
      (pss_cons (ps_set (i := 8) sc_law.nd rfl (by first | exact .inl rfl | exact .inr rfl) (pe_op op_cat (pe_cl c_points hr (by decide) (by rfl) (pa_cons (pv 2) pa_nil)) (pe_lst (pa_cons (pe_op op_mod (pe_callTy call_int1 (by rfl) m_int (by decide +kernel) (pa_cons (pe_callB call_abs (by rfl) m_abs (by decide +kernel) (pa_cons (pe_cl c_cell hr (by decide) (by rfl) (pa_cons (pv 0) (pa_cons pe_int pa_nil))) pa_nil)) pa_nil)) (pe_op op_pow pe_int pe_int)) (pa_cons (pe_op op_mod (pe_callTy call_int1 (by rfl) m_int (by decide +kernel) (pa_cons (pe_ix ix_list (pv 1) pe_int (fun _ _ => rfl)) pa_nil)) pe_int) pa_nil)))))
      (pss_cons (ps_for PassesOwn.never rfl (pi_list (pv 8)) (pg_name (i := 9) sc_law.nd rfl (by first | exact .inl rfl | exact .inr rfl))
        (pss_cons (ps_if (PW.pt (pw_or (pt_not (pt_val (pe_cl c_same hr (by decide) (by rfl) (pa_cons (pe_coE co_call (pv 5) (fun _ => passS0) hr (by decide) (pa_cons (pv 9) pa_nil)) (pa_cons (pe_cl c_value hr (by decide) (by rfl) (pa_cons (pv 2) (pa_cons (pv 9) pa_nil))) pa_nil))))) (pw_or1 (pt_not (pt_val (pe_cl c_same hr (by decide) (by rfl) (pa_cons (pe_coE co_call (pv 7) (fun _ => passS0) hr (by decide) (pa_cons (pv 9) pa_nil)) (pa_cons (pe_cl c_value hr (by decide) (by rfl) (pa_cons (pe_lst (pa_cons pe_int (pa_cons (pe_tup pa_nil) (pa_cons pe_int pa_nil)))) (pa_cons (pv 9) pa_nil))) pa_nil)))))))) (pss_one (ps_ret pe_bl)) pss_nil)
      (pss_one (ps_if (PW.pt (pw_or (pt_not (pt_val (pe_cl c_same hr (by decide) (by rfl) (pa_cons (pe_coE co_call (pv 5) (fun _ => passS0) hr (by decide) (pa_cons (pv 9) pa_nil)) (pa_cons (pe_cl c_value hr (by decide) (by rfl) (pa_cons (pv 2) (pa_cons (pv 9) pa_nil))) pa_nil))))) (pw_or1 (pt_not (pt_val (pe_cl c_same hr (by decide) (by rfl) (pa_cons (pe_coE co_call (pv 6) (fun _ => passS0) hr (by decide) (pa_cons (pv 9) pa_nil)) (pa_cons (pe_cl c_value hr (by decide) (by rfl) (pa_cons (pv 2) (pa_cons (pv 9) pa_nil))) pa_nil)))))))) (pss_one (ps_ret pe_bl)) pss_nil))))
      (pss_cons (ps_if (PW.pt (pw_or (pt_not (pt_val (pe_cl c_refuses_amount hr (by decide) (by rfl) (pa_cons (pv 5) (pa_cons (pe_un un_neg pe_int) pa_nil))))) (pw_or1 (pt_not (pt_val (pe_cl c_refuses_amount hr (by decide) (by rfl) (pa_cons (pv 5) (pa_cons (pe_op op_sub (pe_un un_neg pe_int) (pe_ix ix_list (pv 1) pe_int (fun _ _ => rfl))) pa_nil)))))))) (pss_one (ps_ret pe_bl)) pss_nil)
      (pss_cons (ps_set (i := 10) sc_law.nd rfl (by first | exact .inl rfl | exact .inr rfl) (pe_cl c_draws hr (by decide) (by rfl) (pa_cons (pe_op op_add (pe_cl c_cell hr (by decide) (by rfl) (pa_cons (pv 0) (pa_cons pe_int pa_nil))) (pe_ix ix_list (pv 1) pe_int (fun _ _ => rfl))) (pa_cons pe_int pa_nil))))
      (pss_one (ps_ret (pe_and (pe_cl c_sixty hr (by decide) (by rfl) (pa_cons (pv 10) pa_nil)) (pe_one (pe_cl c_wrong_fields hr (by decide) (by rfl) (pa_cons (pv 2) (pa_cons (pv 10) pa_nil)))))))))))))))))))))), ?_⟩
    walk_at "go"
    refine ⟨a, ns, 0, rfl, hS, ?_⟩
    walk_at "go"
    intro D ds nD hd
    walk_at "go"
    intro p np
    have sD : Same H (upd H D (.lst (ds.map V.int))) := same_new nD
    have sp : Same (upd H D (.lst (ds.map V.int))) (upd (upd H D (.lst (ds.map V.int))) p (.lst [.int 0])) := same_new np
    have Dp : D ≠ p := ne_of_none upd_same np
    have nHp : H p = none := by
      cases e : H p with
      | none => rfl
      | some o =>
        rw [sD _ _ e] at np
        cases np
    have hD := sp _ _ (upd_same (H := H) (a := D) (o := .lst (ds.map V.int)))
    have hpp := upd_same (H := upd H D (.lst (ds.map V.int))) (a := p) (o := .lst [.int 0])
    have sHX := sD.trans sp
    generalize eX : upd (upd H D (.lst (ds.map V.int))) p (.lst [.int 0]) = HX at hD hpp sHX ⊢
    walk_at "go"
    refine ⟨D, p, 40, ds, rfl, ⟨hD, hd, Dp, Z.Same.sb (Same.refl _), 0, hpp⟩, fun l H2 st rs nv sb hN ok => ?_⟩
    have s2 : Same H H2 := fun b o h => sb b o (ne_of_none h nHp) (sHX b o h)
    have hD2 := sb _ _ Dp hD
    clear sD sp nHp hpp sHX sb hD
    have hN2 := hN
    obtain ⟨t, ps, hl, hR⟩ := hN2
    walk_at "go"
    have lr := ok.2.1
    have hw := ok_wrong ok.1
    refine ⟨⟨_, hR.1⟩, ?_⟩
    intro L1 nL1
    refine lc_lists hR (by omega) nL1 (fun _ => rfl) ?_ ?_
    · intro p1 lo hi H1 Q1 s1 h1 q1
      exact ⟨_, rfl, p1, _, rfl, .inr h1, q1⟩
    intro H3 qs s3 eL ql qe qf
    have hH3 : Ris true true K H3 L1 qs rs := ⟨SqL.of eL, ql, fun k p q a b => SqL.of (qe k p q a b)⟩
    have hl3 := s3.seq hl
    walk_at "go"
    intro n dx n1 n2 n3
    have s4 : Same H3 (upd (upd H3 dx (.own n)) n (.ins C dx [])) := Z.Same.mut (same_new n2) n1
    refine ⟨true, true, st, nv, n, dx, L1, qs, rs, rfl, upd_same, hH3.mono s4, by omega, fun _ H4 sb hF => ⟨rfl, ?_⟩, fun fl z => by rw [hw] at z; cases z⟩
    have s34 : Same H3 H4 := SB.same (SB.trans (Z.Same.sb s4) sb) n1
    clear s4 sb n1 n2 n3 dx
    have hl4 := s34.seq hl3
    have hR4 := (hR.mono s3).mono s34
    walk_at "go"
    intro tw dx n1 n2 n3
    have s5 : Same H4 (upd (upd H4 dx (.own tw)) tw (.ins C dx [])) := Z.Same.mut (same_new n2) n1
    refine ⟨false, false, st, nv, tw, dx, t, ps, rs, rfl, upd_same, hR4.mono s5, by omega, fun _ H5 sb hG => ⟨rfl, ?_⟩, fun fl z => by rw [hw] at z; cases z⟩
    have s45 : Same H4 H5 := SB.same (SB.trans (Z.Same.sb s5) sb) n1
    clear s5 sb n1 n2 n3 dx
    walk_at "go"
    intro e0 ne0
    have s56 := same_new (o := .lst []) ne0
    walk_at "go"
    intro ot dx n1 n2 n3
    have s6 : Same (upd H5 e0 (.lst [])) (upd (upd (upd H5 e0 (.lst [])) dx (.own ot)) ot (.ins C dx [])) := Z.Same.mut (same_new n2) n1
    have ok7 : Ok (some 3) [] (some 7) := ⟨rfl, fun s z => by cases z; decide, fun v z => by cases z; exact ⟨3, rfl, by decide⟩⟩
    have hw7 := ok_wrong ok7
    refine ⟨true, false, some 3, some 7, ot, dx, e0, [], [], rfl, upd_same, ⟨SqL.of (s6 _ _ upd_same), rfl, fun i p q h => nomatch h⟩, by simp, fun _ H6 sb hO => ⟨rfl, ?_⟩, fun fl z => by rw [hw7] at z; cases z⟩
    have s57 : Same H5 H6 := s56.trans (SB.same (SB.trans (Z.Same.sb s6) sb) n1)
    clear s6 sb n1 n2 n3 dx s56 ne0
    have s36 := s34.trans (s45.trans s57)
    have hF6 := hF.mono (s45.trans s57)
    have hG6 := hG.mono s57
    have hl6 := s36.seq hl3
    have hR6 := (hR.mono s3).mono s36
    walk_at "go"
    refine ⟨⟨_, hR6.1⟩, ?_⟩
    intro L2 nL2
    refine lc_lists hR6 (by omega) nL2 (fun _ => rfl) ?_ ?_
    · intro p1 lo hi H1 Q1 s1 h1 q1
      exact ⟨_, rfl, p1, _, rfl, .inr h1, q1⟩
    intro H7 qs2 s67 eL2 ql2 qe2 qf2
    have s37 := s36.trans s67
    refine same2 (d := risD true true rs) (hH3.mono s37).dp (show Ris true true K H7 L2 qs2 rs from ⟨SqL.of eL2, ql2, fun k p q a b => SqL.of (qe2 k p q a b)⟩).dp (shaped_ris _ _ _) ?_
    rw [eqv_same (shaped_ris _ _ _)]
    walk_at "go"
    refine ite2 (fun e => nomatch e) (fun _ => ?_)
    have s27 := s3.trans s37
    have hF7 := hF6.mono s67
    have hG7 := hG6.mono s67
    have hO7 := hO.mono s67
    have hH7 := hH3.mono s37
    have eL7 := s37 _ _ eL
    refine ⟨fun σ' H' => σ' = [some (.ref a), some (.ref D), some (.ref l), none, some (.ref L1), some (.ref n), some (.ref tw), some (.ref ot), none, none, none] ∧ Same H2 H' ∧ H' L1 = some (.lst (qs.map V.ref)) ∧ NeedAt C K H' n st rs nv ∧ NeedAt C K H' tw st rs nv ∧ NeedAt C K H' ot (some 3) [] (some 7), ?_, ?_⟩
    · walk_at "go"
      refine ⟨L1, _, rfl, .inl hH7.1, ?_⟩
      rw [List.length_map, ql]
      walk_at "go"
      refine ite2 (fun e => ?_) (fun e => ?_)
      rotate_left
      · exact ⟨rfl, s27, eL7, hF7, hG7, hO7⟩
      have hlen : 0 < rs.length := by
        have : (0 : Int) < (rs.length : Int) := of_decide_eq_true e
        omega
      have hq : 0 < qs.length := by omega
      have eq0 : qs[0]? = some qs[0] := List.getElem?_eq_getElem hq
      have m0 := s37 _ _ (qe 0 _ _ eq0 (List.getElem?_eq_getElem hlen))
      have ea0 : atI (qs.map V.ref) 0 = some (.ref qs[0]) := at_of (j := 0) rfl (by rw [List.getElem?_map, eq0]; rfl)
      have f0 := qf 0 _ eq0
      generalize qs[0] = m at m0 ea0 f0
      walk_at "go"
      refine ⟨L1, _, _, _, rfl, rfl, hH7.1, ea0, ?_⟩
      walk_at "go"
      refine ⟨m, _, _, _, rfl, rfl, SqL.of m0, rfl, ?_⟩
      walk_at "go"
      refine ⟨L1, _, _, _, rfl, rfl, hH7.1, ea0, ?_⟩
      walk_at "go"
      have sb : SB m H7 (upd H7 m (.lst ([.int rs[0].1, oV rs[0].2].set 0 (.int (rs[0].1 + 1))))) := SB.upd (Z.Same.sb (Same.refl H7))
      exact ⟨Z.Same.mut s27 f0.1, sb _ _ f0.2.symm eL7, hF7.sb sb m0, hG7.sb sb m0, hO7.sb sb m0⟩
    · rintro σ' H8 ⟨rfl, s28, eL8, hF8, hG8, hO8⟩
      walk_at "go"
      refine ⟨.inl ⟨rfl, _, .inl (.inl eL8)⟩, ?_⟩
      walk_at "go"
      intro b1 nb1
      have sb1 := same_new (o := .lst [.int (10 ^ Int.toNat 60), .non]) nb1
      walk_at "go"
      refine ⟨_, _, _, rfl, rfl, sb1 _ _ eL8, ?_, ?_⟩
      · rw [List.length_map, ql]
        exact Nat.lt_of_le_of_lt (show rs.length ≤ 1000 by omega) (by decide)
      have sbL : SB L1 _ (upd (upd H8 b1 (.lst [.int (10 ^ Int.toNat 60), .non])) L1 (.lst (qs.map V.ref ++ [.ref b1]))) := SB.upd (Z.Same.sb (Same.refl _))
      have s29 := Z.Same.mut (o := .lst (qs.map V.ref ++ [.ref b1])) (s28.trans sb1) nL1
      have hF9 := (hF8.mono sb1).sb sbL (sb1 _ _ eL8)
      have hG9 := (hG8.mono sb1).sb sbL (sb1 _ _ eL8)
      have hO9 := (hO8.mono sb1).sb sbL (sb1 _ _ eL8)
      generalize eX9 : upd (upd H8 b1 (.lst [.int (10 ^ Int.toNat 60), .non])) L1 (.lst (qs.map V.ref ++ [.ref b1])) = H9 at s29 hF9 hG9 hO9 ⊢
      clear sbL sb1 hO8 hG8 hF8 eL8 s28 nb1 hF7 hG7 hO7 hH7 eL7
      have hN9 := hN.mono s29
      obtain ⟨t9, ps9, hl9, hR9⟩ := hN9
      obtain ⟨dn, rn, pn, hn9, hRn, ern⟩ := id hF9
      obtain ⟨dt, rt, pt, ht9, hRt, _⟩ := id hG9
      walk_at "go"
      refine ⟨(by cases st <;> rfl), ?_⟩
      walk_at "go"
      refine ite2 (fun e => by rw [decide_eq_true rfl] at e; cases e) (fun _ => ?_)
      walk_at "go"
      refine same2 (d := risD false false rs) hRn.dp hR9.dp (shaped_ris _ _ _) ?_
      rw [eqv_same (shaped_ris _ _ _)]
      walk_at "go"
      refine ⟨(by cases nv <;> rfl), ?_⟩
      walk_at "go"
      refine ite2 (fun e => by rw [decide_eq_true rfl] at e; cases e) (fun _ => ?_)
      walk_at "go"
      refine ⟨n, tw, dn, dt, _, _, rfl, rfl, hn9, ht9, ?_⟩
      refine ⟨_, _, n, tw, _, rfl, hF9, hG9, true, rfl, ?_⟩
      walk_at "go"
      refine isiX (c := "tuple") (b := true) (tyT hRn.1) (by decide +kernel) ?_
      walk_at "go"
      refine ⟨⟨_, hRn.1⟩, ?_⟩
      intro L3 nL3
      refine lc_gen (n := rs.length) (fun k H1 => Same H9 H1 ∧ H1 L3 = some (.lst [])) ⟨same_new nL3, upd_same⟩ ?_ ?_ ?_ ?_
      · rintro k H1 hk ⟨s, _⟩
        have hi2 : k < pn.length := by rw [hRn.2.1]; exact hk
        exact ⟨_, .ref pn[k], Z.Same.sqT s hRn.1, by rw [List.getElem?_map, List.getElem?_eq_getElem hi2]; rfl⟩
      · rintro H1 ⟨s, _⟩
        exact ⟨_, Z.Same.sqT s hRn.1, by rw [List.length_map, hRn.2.1]; exact Nat.le_refl _⟩
      · rintro k H1 v H' hk ⟨s, e1⟩ ⟨rfl, fx⟩
        obtain ⟨p, ep, rfl⟩ := of_map (fx _ (Z.Same.sqT s hRn.1))
        have er : rs[k]? = some (rs[k].1, rs[k].2) := List.getElem?_eq_getElem hk
        refine ⟨rfl, ?_⟩
        walk_at "go"
        refine isiX (c := "tuple") (b := true) (tyT (Z.Same.sqT s (hRn.2.2 k p _ ep er))) (by decide +kernel) ?_
        walk_at "go"
        exact e1
      · rintro H10 ⟨s9, e10⟩
        have s210 := s29.trans s9
        have hF10 := hF9.mono s9
        have hG10 := hG9.mono s9
        have hO10 := hO9.mono s9
        have hN10 := hN.mono s210
        clear hF9 hG9 hO9 hR9 hRn hRt ern ht9 hn9 hl9
        walk_at "go"
        refine ⟨L3, [], rfl, .inl (SqL.of e10), ?_⟩
        walk_at "go"
        refine ⟨st, nv, l, rs, rfl, hN10, ok, fun q1 H11 pts s11 e11 hp11 hl11 => ?_⟩
        walk_at "go"
        refine ⟨a, ns, 1, rfl, ((s2.trans s210).trans s11).seq hS, ?_⟩
        walk_at "go"
        refine ⟨(by show (0 : Int) < 10 ^ Int.toNat 60; decide), ?_⟩
        walk_at "go"
        have hD11 := s11 _ _ (s210 _ _ hD2)
        refine dixI (by decide) (by decide) (SqL.of hD11) hd fun d39 b1 b2 => ?_
        walk_at "go"
        have hcx0 : 0 ≤ ((if ns.getD 1 0 < 0 then -ns.getD 1 0 else ns.getD 1 0) % 10 ^ Int.toNat 60) := by exact Int.emod_nonneg _ (by decide)
        intro c1 nc1
        have s12 := same_new (o := .lst [.int ((if ns.getD 1 0 < 0 then -ns.getD 1 0 else ns.getD 1 0) % 10 ^ Int.toNat 60), .int (d39 % 60)]) nc1
        refine ⟨q1, c1, _, _, rfl, rfl, s12 _ _ e11, upd_same, ?_, fun q2 nq2 => ?_⟩
        · rw [List.length_map]
          exact Nat.le_trans (show pts.length + 2 ≤ 1000 by omega) (by decide)
        have s13 := same_new (o := .lst (pts.map oV ++ [.int ((if ns.getD 1 0 < 0 then -ns.getD 1 0 else ns.getD 1 0) % 10 ^ Int.toNat 60), .int (d39 % 60)])) nq2
        have s1113 := s12.trans s13
        have e13 : upd (upd H11 c1 (.lst [.int ((if ns.getD 1 0 < 0 then -ns.getD 1 0 else ns.getD 1 0) % 10 ^ Int.toNat 60), .int (d39 % 60)])) q2 (.lst (pts.map oV ++ [.int ((if ns.getD 1 0 < 0 then -ns.getD 1 0 else ns.getD 1 0) % 10 ^ Int.toNat 60), .int (d39 % 60)])) q2 = some (.lst ((pts ++ [some ((if ns.getD 1 0 < 0 then -ns.getD 1 0 else ns.getD 1 0) % 10 ^ Int.toNat 60), some (d39 % 60)]).map oV)) := by
          rw [upd_same, List.map_append]
          rfl
        have hp13 : Pos (pts ++ [some ((if ns.getD 1 0 < 0 then -ns.getD 1 0 else ns.getD 1 0) % 10 ^ Int.toNat 60), some (d39 % 60)]) := hp11.append fun k hk i e => by
          rcases List.mem_cons.mp hk with h | hk
          · rw [h] at e; cases e; exact hcx0
          rcases List.mem_cons.mp hk with h | hk
          · rw [h] at e; cases e; omega
          · cases hk
        generalize pts ++ [some ((if ns.getD 1 0 < 0 then -ns.getD 1 0 else ns.getD 1 0) % 10 ^ Int.toNat 60), some (d39 % 60)] = pts2 at e13 hp13
        generalize upd (upd H11 c1 (.lst [.int ((if ns.getD 1 0 < 0 then -ns.getD 1 0 else ns.getD 1 0) % 10 ^ Int.toNat 60), .int (d39 % 60)])) q2 (.lst (pts.map oV ++ [.int ((if ns.getD 1 0 < 0 then -ns.getD 1 0 else ns.getD 1 0) % 10 ^ Int.toNat 60), .int (d39 % 60)])) = H13 at e13 s1113 ⊢
        have s1013 := s11.trans s1113
        have s213 := s210.trans s1013
        clear s12 s13 s1113 s11 e11 nc1 nq2 hD11
        walk_at "go"
        refine ⟨⟨_, SqL.of e13⟩, ?_⟩
        refine for_gen (n := pts2.length) (fun i σ H1 => Same H13 H1 ∧ ∃ v9 : Option V, σ = [some (.ref a), some (.ref D), some (.ref l), none, some (.ref L1), some (.ref n), some (.ref tw), some (.ref ot), some (.ref q2), v9, none]) ⟨Same.refl _, none, rfl⟩ ?_ ?_ ?_ ?_
        · rintro i σ H1 hi ⟨s1, _⟩
          exact ⟨_, oV pts2[i], SqL.of (s1 _ _ e13), by rw [List.getElem?_map, List.getElem?_eq_getElem hi]; rfl⟩
        · rintro σ H1 ⟨s1, _⟩
          exact ⟨_, SqL.of (s1 _ _ e13), by rw [List.length_map]; exact Nat.le_refl _⟩
        · rintro i σ H1 x H' hi ⟨s1, v9, rfl⟩ ⟨rfl, fx⟩
          obtain ⟨k, ek, rfl⟩ := of_map (fx _ (SqL.of (s1 _ _ e13)))
          have hk : ∀ i, k = some i → 0 ≤ i := hp13 k (List.mem_of_getElem? ek)
          have hneg : ∀ j, k = some j → j < 0 → False := fun j ej hj => by
            have := hk j ej
            omega
          have s101 := s1013.trans s1
          have hF1 := hF10.mono s101
          have hO1 := hO10.mono s101
          obtain ⟨d1, r1, p1, hn1, _⟩ := id hF1
          obtain ⟨d2, r2, p2, ho1, _⟩ := id hO1
          walk_at "go"
          refine ⟨⟨_, _, hn1⟩, st, nv, k, n, rs, rfl, hF1, ok.1, (fun _ => ?_), fun j ej hj => (hneg j ej hj).elim⟩
          walk_at "go"
          refine ⟨false, st, nv, k, l, rs, rfl, hN10.mono s101, ?_⟩
          walk_at "go"
          walk_at "go"
          refine ⟨⟨_, _, ho1⟩, some 3, some 7, k, ot, [], rfl, hO1, ok7, (fun _ => ?_), fun j ej hj => (hneg j ej hj).elim⟩
          walk_at "go"
          intro x1 nx1
          have t1 := same_new (o := .tup []) nx1
          walk_at "go"
          intro x2 nx2
          have t2 := same_new (o := .lst [.int 3, .ref x1, .int 7]) nx2
          walk_at "go"
          refine ⟨false, some 3, some 7, k, x2, [], rfl, ⟨x1, [], SqL.of upd_same, ris_nil (.inl (.inl (t2 _ _ upd_same)))⟩, ?_⟩
          walk_at "go"
          have t12 := t1.trans t2
          have s102 := s101.trans t12
          have hF2 := hF10.mono s102
          have hG2 := hG10.mono s102
          obtain ⟨d1, r1, p1, hn1, _⟩ := id hF2
          obtain ⟨d2, r2, p2, ht1, _⟩ := id hG2
          walk_at "go"
          refine ⟨⟨_, _, hn1⟩, st, nv, k, n, rs, rfl, hF2, ok.1, (fun _ => ?_), fun j ej hj => (hneg j ej hj).elim⟩
          walk_at "go"
          refine ⟨false, st, nv, k, l, rs, rfl, hN10.mono s102, ?_⟩
          walk_at "go"
          walk_at "go"
          refine ⟨⟨_, _, ht1⟩, st, nv, k, tw, rs, rfl, hG2, ok.1, (fun _ => ?_), fun j ej hj => (hneg j ej hj).elim⟩
          walk_at "go"
          refine ⟨false, st, nv, k, l, rs, rfl, hN10.mono s102, ?_⟩
          walk_at "go"
          walk_at "go"
          exact ⟨s1.trans t12, _, rfl⟩
        · rintro σ H14 ⟨s14, v9, rfl⟩
          have s1014 := s1013.trans s14
          have hF14 := hF10.mono s1014
          have hD14 := s14 _ _ (s213 _ _ hD2)
          walk_at "go"
          refine ⟨st, nv, _, n, rs, rfl, hF14, ok.1, by decide, fun H15 s15 => ?_⟩
          walk_at "go"
          refine dixI (by decide) (by decide) (SqL.of (s15 _ _ hD14)) hd fun d38 b1 b2 => ?_
          walk_at "go"
          refine ⟨st, nv, _, n, rs, rfl, hF14.mono s15, ok.1, by omega, fun H16 s16 => ?_⟩
          walk_at "go"
          refine ⟨a, ns, 2, rfl, (s2.trans (s213.trans (s14.trans (s15.trans s16)))).seq hS, ?_⟩
          walk_at "go"
          refine dixI (by decide) (by decide) (SqL.of (s16 _ _ (s15 _ _ hD14))) hd fun d37 b1 b2 => ?_
          walk_at "go"
          intro M ms nM hM
          have s17 := same_new (o := .lst (ms.map V.int)) nM
          walk_at "go"
          refine ⟨M, ms, rfl, SqL.of upd_same, hM, fun H18 s18 => ?_⟩
          walk_at "go"
          refine ⟨st, nv, l, M, rs, ms, rfl, hN.mono (s213.trans (s14.trans (s15.trans (s16.trans (s17.trans s18))))), ok, SqL.of (s18 _ _ upd_same), hM, fun H19 s19 => ?_⟩
          walk_at "go"
          exact q _
end
end Z
set_option Elab.async false
set_option linter.all false
set_option maxRecDepth 100000
set_option maxHeartbeats 4000000
set_option maxHeartbeats 0
namespace Z
open PySem PySem.Spec PyProof.Rows L2 Nd
def isB (K : PySem.W.Frag) (C : Addr) : Bool := He.eqO (PySem.W.findIn K (.ref C) "__class__") (some (some (.builtin "object.__class__"))) && (He.eqO (PySem.W.specialIn K (.builtin "object.__class__") "__get__") (some (some (.builtin "getset_descriptor.__get__"))) && (decide (PySem.W.takesIn K (.builtin "object.__class__") = some true) && (decide (PySem.W.mroIn K C (.type "object") = some true) && decide (PySem.W.kitOne K (.ref C) (.ref C) = some true))))
theorem isB_ok {K : PySem.W.Frag} {C : Addr} (cl : Cls K C) (h : isB K C = true) : C8.InsC K C := by
  obtain ⟨h1, h⟩ := He.ba h
  obtain ⟨h2, h⟩ := He.ba h
  obtain ⟨h3, h⟩ := He.ba h
  obtain ⟨h4, h5⟩ := He.ba h
  exact ⟨cl, He.eqO_ok h1, He.eqO_ok h2, of_decide_eq_true h3, of_decide_eq_true h4, of_decide_eq_true h5⟩
def spB (K : PySem.W.Frag) (C : Addr) (m : Str) : Bool := He.eqO (PySem.W.findIn K (.ref C) m) (some (some (.ref (He.ma K C m)))) && (PySem.W.isFn K (.ref (He.ma K C m)) && PySem.W.fnIn K (He.ma K C m))
theorem spB_ok {K : PySem.W.Frag} {C : Addr} {m : Str} (h : spB K C m = true) : PySem.W.findIn K (.ref C) m = some (some (.ref (He.ma K C m))) ∧ PySem.W.isFn K (.ref (He.ma K C m)) = true ∧ PySem.W.fnIn K (He.ma K C m) = true := by
  obtain ⟨h1, h⟩ := He.ba h
  obtain ⟨h2, h3⟩ := He.ba h
  exact ⟨He.eqO_ok h1, h2, h3⟩
def d_value_at : He.DefD := ⟨("value_at", none), "value_at", "value_at", defArgs s_value_at, defBody s_value_at, defScope s_value_at, [], []⟩
def d_greatest_value : He.DefD := ⟨("greatest_value", none), "greatest_value", "greatest_value", defArgs s_greatest_value, defBody s_greatest_value, defScope s_greatest_value, [], []⟩
def d_Need___init__ : He.DefD := ⟨("Need", some "__init__"), "__init__", "Need.__init__", defArgs s_Need___init__, defBody s_Need___init__, defScope s_Need___init__, [], []⟩
def d_Need_value_for : He.DefD := ⟨("Need", some "value_for"), "value_for", "Need.value_for", defArgs s_Need_value_for, defBody s_Need_value_for, defScope s_Need_value_for, [], []⟩
def d_Need___call__ : He.DefD := ⟨("Need", some "__call__"), "__call__", "Need.__call__", defArgs s_Need___call__, defBody s_Need___call__, defScope s_Need___call__, [], []⟩
def d_Need___eq__ : He.DefD := ⟨("Need", some "__eq__"), "__eq__", "Need.__eq__", defArgs s_Need___eq__, defBody s_Need___eq__, defScope s_Need___eq__, [], []⟩
def d_cell : He.DefD := ⟨("_law_cell", none), "_law_cell", "_law_cell", defArgs s_cell, defBody s_cell, defScope s_cell, [], []⟩
def d_draws : He.DefD := ⟨("_law_draws", none), "_law_draws", "_law_draws", defArgs s_draws, defBody s_draws, defScope s_draws, [], []⟩
def d_take : He.DefD := ⟨("_law_take", none), "_law_take", "_law_take", defArgs s_take, defBody s_take, defScope s_take, [], []⟩
def d_need : He.DefD := ⟨("_law_need", none), "_law_need", "_law_need", defArgs s_need, defBody s_need, defScope s_need, [], []⟩
def d_value : He.DefD := ⟨("_law_value", none), "_law_value", "_law_value", defArgs s_value, defBody s_value, defScope s_value, [], []⟩
def d_points : He.DefD := ⟨("_law_points", none), "_law_points", "_law_points", defArgs s_points, defBody s_points, defScope s_points, [], []⟩
def d_same : He.DefD := ⟨("_law_same", none), "_law_same", "_law_same", defArgs s_same, defBody s_same, defScope s_same, [], []⟩
def d_raised : He.DefD := ⟨("_law_raised", none), "_law_raised", "_law_raised", defArgs s_raised, defBody s_raised, defScope s_raised, [], []⟩
def d_raised_base : He.DefD := ⟨("_law_raised_base", none), "_law_raised_base", "_law_raised_base", defArgs s_raised_base, defBody s_raised_base, defScope s_raised_base, [], []⟩
def d_refused : He.DefD := ⟨("_law_refused", none), "_law_refused", "_law_refused", defArgs s_refused, defBody s_refused, defScope s_refused, [], []⟩
def d_refuses_amount : He.DefD := ⟨("_law_refuses_amount", none), "_law_refuses_amount", "_law_refuses_amount", defArgs s_refuses_amount, defBody s_refuses_amount, defScope s_refuses_amount, [], []⟩
def d_wrong_fields : He.DefD := ⟨("_law_wrong_fields", none), "_law_wrong_fields", "_law_wrong_fields", defArgs s_wrong_fields, defBody s_wrong_fields, defScope s_wrong_fields, [], []⟩
def d_sixty : He.DefD := ⟨("_law_sixty", none), "_law_sixty", "_law_sixty", defArgs s_sixty, defBody s_sixty, defScope s_sixty, [], []⟩
def d_law : He.DefD := ⟨("law", none), "law", "law", defArgs s_law, defBody s_law, defScope s_law, [], []⟩
abbrev s_BadNeed___init__ : Stmt := inClass (topS 5) 0
theorem xn_BadNeed {P : Program} {w : World} {K : PySem.W.Frag} {mg : Str → Option Value} {base : Heap} {fl : Str} (h1 : supObs K "BadNeed" = supVal "BadNeed.__init__" s_BadNeed___init__) (h : ExnF K (He.ga K "BadNeed") "BadNeed.__init__" "field" fl) (hfl : ((P.main.file : Str) == fl) = true) (htop : (P.main.scope.names.lookup ("super" : Str)).isSome = false) (g : mg "BadNeed" = some (.ref (He.ga K "BadNeed"))) (m_super : mg "super" = none) : Exn P w K mg base "BadNeed" (He.ga K "BadNeed") "field" := by
  obtain ⟨c, cc, fd, kV, doc, pm, ct, an, hfd, S, hcd⟩ := sup_of h1 h.sup hfl htop
  refine ⟨S.oex, g, He.ma K _ "__init__", fd, ["self", "field"], h.ini, h.ty, ?_, ?_⟩
  · exact exn_ok (v := "field") (F := ⟨"__init__", "BadNeed.__init__", defArgs s_BadNeed___init__, defBody s_BadNeed___init__, defScope s_BadNeed___init__, [("__class__", cc)], c⟩) hfd S hcd (NdefX.nscope_by (sc := defScope s_BadNeed___init__) (by decide +kernel)) rfl rfl rfl (show (defScope s_BadNeed___init__).names.lookup ("super" : Str) = some .globalImplicit by decide +kernel) m_super h.no (by decide) (by decide) rfl (fun _ _ _ _ _ => rfl) (fun _ _ _ _ _ => rfl) (fun _ _ _ _ _ => rfl) (fun _ _ _ _ _ => rfl)
  · subst hfd
    exact Binds.all fun us hl => match us, hl with | [_, _], _ => rfl
abbrev s_BadAmount___init__ : Stmt := inClass (topS 3) 0
theorem xn_BadAmount {P : Program} {w : World} {K : PySem.W.Frag} {mg : Str → Option Value} {base : Heap} {fl : Str} (h1 : supObs K "BadAmount" = supVal "BadAmount.__init__" s_BadAmount___init__) (h : ExnF K (He.ga K "BadAmount") "BadAmount.__init__" "value" fl) (hfl : ((P.main.file : Str) == fl) = true) (htop : (P.main.scope.names.lookup ("super" : Str)).isSome = false) (g : mg "BadAmount" = some (.ref (He.ga K "BadAmount"))) (m_super : mg "super" = none) : Exn P w K mg base "BadAmount" (He.ga K "BadAmount") "value" := by
  obtain ⟨c, cc, fd, kV, doc, pm, ct, an, hfd, S, hcd⟩ := sup_of h1 h.sup hfl htop
  refine ⟨S.oex, g, He.ma K _ "__init__", fd, ["self", "value"], h.ini, h.ty, ?_, ?_⟩
  · exact exn_ok (v := "value") (F := ⟨"__init__", "BadAmount.__init__", defArgs s_BadAmount___init__, defBody s_BadAmount___init__, defScope s_BadAmount___init__, [("__class__", cc)], c⟩) hfd S hcd (NdefX.nscope_by (sc := defScope s_BadAmount___init__) (by decide +kernel)) rfl rfl rfl (show (defScope s_BadAmount___init__).names.lookup ("super" : Str) = some .globalImplicit by decide +kernel) m_super h.no (by decide) (by decide) rfl (fun _ _ _ _ _ => rfl) (fun _ _ _ _ _ => rfl) (fun _ _ _ _ _ => rfl) (fun _ _ _ _ _ => rfl)
  · subst hfd
    exact Binds.all fun us hl => match us, hl with | [_, _], _ => rfl
def xns : List Str := ["BadNeed", "BadAmount"]
def xvs : List SupV := [supVal "BadNeed.__init__" s_BadNeed___init__, supVal "BadAmount.__init__" s_BadAmount___init__]
def exXn (fl : Str) (K : PySem.W.Frag) : List Bool := [exnB fl "BadNeed.__init__" "field" K (He.ga K "BadNeed"), exnB fl "BadAmount.__init__" "value" K (He.ga K "BadAmount")]
def fn : List He.DefD := [d_value_at, d_greatest_value, d_Need___init__, d_Need_value_for, d_Need___call__, d_Need___eq__, d_cell, d_draws, d_take, d_need, d_value, d_points, d_same, d_raised, d_raised_base, d_refused, d_refuses_amount, d_wrong_fields, d_sixty, d_law]
def fa : List He.Fa := [.glo "value_at", .glo "greatest_value", .glo "_law_cell", .glo "_law_draws", .glo "_law_take", .glo "_law_need", .glo "_law_value", .glo "_law_points", .glo "_law_same", .glo "_law_raised", .glo "_law_raised_base", .glo "_law_refused", .glo "_law_refuses_amount", .glo "_law_wrong_fields", .glo "_law_sixty", .glo "law", .free "ValueError", .free "abs", .free "bool", .free "int", .free "isinstance", .free "len", .free "list", .free "max", .free "range", .free "sum", .free "super", .free "tuple", .glo "Need", .cls "Need", .mkr "Need", .noat "Need" "start", .noat "Need" "rises", .noat "Need" "never", .meth "Need" "value_for", .glo "HouseError", .glo "BadNeed", .glo "BadAmount"]
def loose : List Str := ["_wall", "HouseError", "BadAmount", "BadCount", "BadNeed", "value_at", "joined", "marks_of", "track", "rising_part", "combined", "composed", "MOST_TIMES", "greatest_value", "Need", "_law_cell", "_law_draws", "_law_take", "_law_need", "_law_value", "_law_points", "_law_same", "_law_raised", "_law_raised_base", "_law_refused", "_law_refuses_amount", "_law_wrong_fields", "_law_sixty"]
def fl : Str := PySem.Challenge.pw_signedpacts_k16_need_values.main.file
def exL (K : PySem.W.Frag) : List Bool := [isB K (He.ga K "Need"), spB K (He.ga K "Need") "__call__", spB K (He.ga K "Need") "__eq__",
  exmB K (He.ga K "BadNeed") (He.ga K "BadNeed"), exmB K (He.ga K "BadNeed") (He.ga K "HouseError"), exmB K (He.ga K "BadAmount") (He.ga K "BadAmount"),
  kitVB K (He.ga K "BadNeed") (.type "ValueError") true, kitVB K (He.ga K "BadNeed") (.ref (He.ga K "BadNeed")) true, kitVB K (He.ga K "BadNeed") (.ref (He.ga K "BadAmount")) false,
  kitVB K (He.ga K "BadAmount") (.ref (He.ga K "HouseError")) true, kitVB K (He.ga K "BadAmount") (.ref (He.ga K "BadNeed")) false]
def ex (K : PySem.W.Frag) : Bool := (exL K).all id && (exXn fl K).all id
theorem all_at {bs : List Bool} (h : bs.all id = true) (i : Nat) {b : Bool} (e : bs[i]? = some b := by rfl) : b = true := List.all_eq_true.mp h b (List.mem_of_getElem? e)
abbrev R : PySem.W.OpenRow := PySem.W.OpenLaw.row PySem.Challenge.rw_signedpacts_k16_need_values
abbrev hk : PySem.W.Hook := hookX 4 fa fn xns xvs ex
def ob (s : PySem.W.SharedT) : He.AlD × (List SupV × Bool) := obX 4 fa fn xns ex (HandSHeadRun.getT s)
theorem ob_eq (s : PySem.W.SharedT) : ob s = hk.obs s.abs := obX_eq (HandSHeadRun.getT_eq s)
theorem run (w : World) : HandSHeadRun.RunEq R (PySem.W.view R.prog [32]) hk ob 8000 loose w := by
  intro os
  kernel_rfl
theorem facts {P : Program} {w : World} {K : PySem.W.Frag} {h : Heap} {mg : Str → Option Value} {f : Addr} (X : K.In h) (G : h.Ns mainGlobals mg) (hfa : mg ("law" : Str) = some (.ref f)) (c : He.SaysD fa fn K) (cs : xns.map (supObs K) = xvs) (cx : ex K = true) (hfl : ((P.main.file : Str) == fl) = true) (htop : (P.main.scope.names.lookup ("super" : Str)).isSome = false) :
    ∃ fd : FuncData, (∀ (s : Shared) (v : Value), BindsTo s fd ⟨[v], []⟩ [("_law_script", v)]) ∧ ∀ base : Heap, K.In base → base.Ns mainGlobals mg → FnOk P w K mg base CX0 9 f fd ["_law_script"] (spLaw K) := by
  obtain ⟨fd_value_at, F_value_at⟩ := c.def_ 0 (d := d_value_at) rfl
  have F_value_at : FnP K "value_at" s_value_at _ fd_value_at := F_value_at
  have g_value_at := He.glo_ok X G (c.fact 0 (f := .glo "value_at") rfl)
  have b_value_at : Binds K fd_value_at P_value_at [] := F_value_at.bindsN fun _ _ _ _ _ _ us hl => match us, hl with | [_, _, _], _ => rfl
  obtain ⟨fd_greatest_value, F_greatest_value⟩ := c.def_ 1 (d := d_greatest_value) rfl
  have F_greatest_value : FnP K "greatest_value" s_greatest_value _ fd_greatest_value := F_greatest_value
  have g_greatest_value := He.glo_ok X G (c.fact 1 (f := .glo "greatest_value") rfl)
  have b_greatest_value : Binds K fd_greatest_value P_greatest_value [] := F_greatest_value.bindsN fun _ _ _ _ _ _ us hl => match us, hl with | [_, _], _ => rfl
  obtain ⟨fd_Need___init__, F_Need___init__⟩ := c.def_ 2 (d := d_Need___init__) rfl
  have F_Need___init__ : FnM K "__init__" "Need.__init__" s_Need___init__ (He.ma K (He.ga K "Need") "__init__") fd_Need___init__ := F_Need___init__
  have b_Need___init__ : Binds K fd_Need___init__ P_Need___init__ [] := F_Need___init__.bindsN fun _ _ _ _ _ _ us hl => match us, hl with | [_, _, _, _], _ => rfl
  obtain ⟨fd_Need_value_for, F_Need_value_for⟩ := c.def_ 3 (d := d_Need_value_for) rfl
  have F_Need_value_for : FnM K "value_for" "Need.value_for" s_Need_value_for (He.ma K (He.ga K "Need") "value_for") fd_Need_value_for := F_Need_value_for
  have b_Need_value_for : Binds K fd_Need_value_for P_Need_value_for [] := F_Need_value_for.bindsN fun _ _ _ _ _ _ us hl => match us, hl with | [_, _], _ => rfl
  obtain ⟨fd_Need___call__, F_Need___call__⟩ := c.def_ 4 (d := d_Need___call__) rfl
  have F_Need___call__ : FnM K "__call__" "Need.__call__" s_Need___call__ (He.ma K (He.ga K "Need") "__call__") fd_Need___call__ := F_Need___call__
  have b_Need___call__ : Binds K fd_Need___call__ P_Need___call__ [] := F_Need___call__.bindsN fun _ _ _ _ _ _ us hl => match us, hl with | [_, _], _ => rfl
  obtain ⟨fd_Need___eq__, F_Need___eq__⟩ := c.def_ 5 (d := d_Need___eq__) rfl
  have F_Need___eq__ : FnM K "__eq__" "Need.__eq__" s_Need___eq__ (He.ma K (He.ga K "Need") "__eq__") fd_Need___eq__ := F_Need___eq__
  have b_Need___eq__ : Binds K fd_Need___eq__ P_Need___eq__ [] := F_Need___eq__.bindsN fun _ _ _ _ _ _ us hl => match us, hl with | [_, _], _ => rfl
  obtain ⟨fd_cell, F_cell⟩ := c.def_ 6 (d := d_cell) rfl
  have F_cell : FnP K "_law_cell" s_cell _ fd_cell := F_cell
  have g_cell := He.glo_ok X G (c.fact 2 (f := .glo "_law_cell") rfl)
  have b_cell : Binds K fd_cell P_cell [] := F_cell.bindsN fun _ _ _ _ _ _ us hl => match us, hl with | [_, _], _ => rfl
  obtain ⟨fd_draws, F_draws⟩ := c.def_ 7 (d := d_draws) rfl
  have F_draws : FnP K "_law_draws" s_draws _ fd_draws := F_draws
  have g_draws := He.glo_ok X G (c.fact 3 (f := .glo "_law_draws") rfl)
  have b_draws : Binds K fd_draws P_draws [] := F_draws.bindsN fun _ _ _ _ _ _ us hl => match us, hl with | [_, _], _ => rfl
  obtain ⟨fd_take, F_take⟩ := c.def_ 8 (d := d_take) rfl
  have F_take : FnP K "_law_take" s_take _ fd_take := F_take
  have g_take := He.glo_ok X G (c.fact 4 (f := .glo "_law_take") rfl)
  have b_take : Binds K fd_take P_take [] := F_take.bindsN fun _ _ _ _ _ _ us hl => match us, hl with | [_, _], _ => rfl
  obtain ⟨fd_need, F_need⟩ := c.def_ 9 (d := d_need) rfl
  have F_need : FnP K "_law_need" s_need _ fd_need := F_need
  have g_need := He.glo_ok X G (c.fact 5 (f := .glo "_law_need") rfl)
  have b_need : Binds K fd_need P_need [] := F_need.bindsN fun _ _ _ _ _ _ us hl => match us, hl with | [_, _], _ => rfl
  obtain ⟨fd_value, F_value⟩ := c.def_ 10 (d := d_value) rfl
  have F_value : FnP K "_law_value" s_value _ fd_value := F_value
  have g_value := He.glo_ok X G (c.fact 6 (f := .glo "_law_value") rfl)
  have b_value : Binds K fd_value P_value [] := F_value.bindsN fun _ _ _ _ _ _ us hl => match us, hl with | [_, _], _ => rfl
  obtain ⟨fd_points, F_points⟩ := c.def_ 11 (d := d_points) rfl
  have F_points : FnP K "_law_points" s_points _ fd_points := F_points
  have g_points := He.glo_ok X G (c.fact 7 (f := .glo "_law_points") rfl)
  have b_points : Binds K fd_points P_points [] := F_points.bindsN fun _ _ _ _ _ _ us hl => match us, hl with | [_], _ => rfl
  obtain ⟨fd_same, F_same⟩ := c.def_ 12 (d := d_same) rfl
  have F_same : FnP K "_law_same" s_same _ fd_same := F_same
  have g_same := He.glo_ok X G (c.fact 8 (f := .glo "_law_same") rfl)
  have b_same : Binds K fd_same P_same [] := F_same.bindsN fun _ _ _ _ _ _ us hl => match us, hl with | [_, _], _ => rfl
  obtain ⟨fd_raised, F_raised⟩ := c.def_ 13 (d := d_raised) rfl
  have F_raised : FnP K "_law_raised" s_raised _ fd_raised := F_raised
  have g_raised := He.glo_ok X G (c.fact 9 (f := .glo "_law_raised") rfl)
  have b_raised : Binds K fd_raised P_raised [] := F_raised.bindsN fun _ _ _ _ _ _ us hl => match us, hl with | [_, _, _], _ => rfl
  obtain ⟨fd_raised_base, F_raised_base⟩ := c.def_ 14 (d := d_raised_base) rfl
  have F_raised_base : FnP K "_law_raised_base" s_raised_base _ fd_raised_base := F_raised_base
  have g_raised_base := He.glo_ok X G (c.fact 10 (f := .glo "_law_raised_base") rfl)
  have b_raised_base : Binds K fd_raised_base P_raised_base [] := F_raised_base.bindsN fun _ _ _ _ _ _ us hl => match us, hl with | [_, _, _], _ => rfl
  obtain ⟨fd_refused, F_refused⟩ := c.def_ 15 (d := d_refused) rfl
  have F_refused : FnP K "_law_refused" s_refused _ fd_refused := F_refused
  have g_refused := He.glo_ok X G (c.fact 11 (f := .glo "_law_refused") rfl)
  have b_refused : Binds K fd_refused P_refused [] := F_refused.bindsN fun _ _ _ _ _ _ us hl => match us, hl with | [_, _, _, _], _ => rfl
  obtain ⟨fd_refuses_amount, F_refuses_amount⟩ := c.def_ 16 (d := d_refuses_amount) rfl
  have F_refuses_amount : FnP K "_law_refuses_amount" s_refuses_amount _ fd_refuses_amount := F_refuses_amount
  have g_refuses_amount := He.glo_ok X G (c.fact 12 (f := .glo "_law_refuses_amount") rfl)
  have b_refuses_amount : Binds K fd_refuses_amount P_refuses_amount [] := F_refuses_amount.bindsN fun _ _ _ _ _ _ us hl => match us, hl with | [_, _], _ => rfl
  obtain ⟨fd_wrong_fields, F_wrong_fields⟩ := c.def_ 17 (d := d_wrong_fields) rfl
  have F_wrong_fields : FnP K "_law_wrong_fields" s_wrong_fields _ fd_wrong_fields := F_wrong_fields
  have g_wrong_fields := He.glo_ok X G (c.fact 13 (f := .glo "_law_wrong_fields") rfl)
  have b_wrong_fields : Binds K fd_wrong_fields P_wrong_fields [] := F_wrong_fields.bindsN fun _ _ _ _ _ _ us hl => match us, hl with | [_, _], _ => rfl
  obtain ⟨fd_sixty, F_sixty⟩ := c.def_ 18 (d := d_sixty) rfl
  have F_sixty : FnP K "_law_sixty" s_sixty _ fd_sixty := F_sixty
  have g_sixty := He.glo_ok X G (c.fact 14 (f := .glo "_law_sixty") rfl)
  have b_sixty : Binds K fd_sixty P_sixty [] := F_sixty.bindsN fun _ _ _ _ _ _ us hl => match us, hl with | [_], _ => rfl
  obtain ⟨fd_law, F_law⟩ := c.def_ 19 (d := d_law) rfl
  have F_law : FnP K "law" s_law _ fd_law := F_law
  have g_law := He.glo_ok X G (c.fact 15 (f := .glo "law") rfl)
  have m_ValueError := He.free_ok X G (c.fact 16 (f := .free "ValueError") rfl)
  have m_abs := He.free_ok X G (c.fact 17 (f := .free "abs") rfl)
  have m_bool := He.free_ok X G (c.fact 18 (f := .free "bool") rfl)
  have m_int := He.free_ok X G (c.fact 19 (f := .free "int") rfl)
  have m_isinstance := He.free_ok X G (c.fact 20 (f := .free "isinstance") rfl)
  have m_len := He.free_ok X G (c.fact 21 (f := .free "len") rfl)
  have m_list := He.free_ok X G (c.fact 22 (f := .free "list") rfl)
  have m_max := He.free_ok X G (c.fact 23 (f := .free "max") rfl)
  have m_range := He.free_ok X G (c.fact 24 (f := .free "range") rfl)
  have m_sum := He.free_ok X G (c.fact 25 (f := .free "sum") rfl)
  have m_super := He.free_ok X G (c.fact 26 (f := .free "super") rfl)
  have m_tuple := He.free_ok X G (c.fact 27 (f := .free "tuple") rfl)
  have g_Need := He.glo_ok X G (c.fact 28 (f := .glo "Need") rfl)
  have cls_Need := He.cls_ok (c.fact 29 (f := .cls "Need") rfl)
  have mk_Need := He.mkr_ok (c.fact 30 (f := .mkr "Need") rfl)
  have n_Need_start := He.noat_ok (c.fact 31 (f := .noat "Need" "start") rfl)
  have n_Need_rises := He.noat_ok (c.fact 32 (f := .noat "Need" "rises") rfl)
  have n_Need_never := He.noat_ok (c.fact 33 (f := .noat "Need" "never") rfl)
  have me_Need_value_for := He.meth_ok (c.fact 34 (f := .meth "Need" "value_for") rfl)
  have g_HouseError := He.glo_ok X G (c.fact 35 (f := .glo "HouseError") rfl)
  have g_BadNeed := He.glo_ok X G (c.fact 36 (f := .glo "BadNeed") rfl)
  have g_BadAmount := He.glo_ok X G (c.fact 37 (f := .glo "BadAmount") rfl)
  obtain ⟨cx, cy⟩ := He.ba cx
  have isC := isB_ok cls_Need (all_at cx 0)
  obtain ⟨y1, y2, y3⟩ := spB_ok (all_at cx 1)
  obtain ⟨z1, z2, z3⟩ := spB_ok (all_at cx 2)
  have teNN := of_decide_eq_true (all_at cx 3)
  have teNH := of_decide_eq_true (all_at cx 4)
  have teAA := of_decide_eq_true (all_at cx 5)
  have kNV := of_decide_eq_true (all_at cx 6)
  have kNN := of_decide_eq_true (all_at cx 7)
  have kNA := of_decide_eq_true (all_at cx 8)
  have kAH := of_decide_eq_true (all_at cx 9)
  have kAN := of_decide_eq_true (all_at cx 10)
  have fN := exnB_ok (all_at cy 0)
  have fA := exnB_ok (all_at cy 1)
  have e := hfa.symm.trans g_law
  cases e
  have b := FunD.bindsA (ps := ["_law_script"]) F_law fun _ _ _ _ _ _ us hl => match us, hl with | [_], _ => rfl
  refine ⟨fd_law, fun s v => b s [v] rfl, fun base _ _ => ?_⟩
  have x_BadNeed : Exn P w K mg base "BadNeed" (He.ga K "BadNeed") "field" := xn_BadNeed (sup_at cs 0) fN hfl htop g_BadNeed m_super
  have x_BadAmount : Exn P w K mg base "BadAmount" (He.ga K "BadAmount") "value" := xn_BadAmount (sup_at cs 1) fA hfl htop g_BadAmount m_super
  have c_cell : Cal P w K mg base 1 "_law_cell" (spCell K) := cal_of F_cell g_cell b_cell (ok_cell F_cell m_len m_int)
  have c_draws : Cal P w K mg base 1 "_law_draws" spDraws := cal_of F_draws g_draws b_draws (ok_draws F_draws m_int m_abs m_range)
  have c_take : Cal P w K mg base 1 "_law_take" (spTake K) := cal_of F_take g_take b_take (ok_take F_take m_len)
  have c_value_at : Cal P w K mg base 1 "value_at" (spValueAt K) := cal_of F_value_at g_value_at b_value_at (ok_value_at F_value_at)
  have c_greatest_value : CalX P w K mg base 3 "greatest_value" (spGreatest (He.ga K "BadNeed") K) := ⟨_, _, _, ok_greatest_value F_greatest_value m_len x_BadNeed, g_greatest_value, F_greatest_value.kp, b_greatest_value⟩
  have k_Need : MakX P w K mg base 4 "Need" (He.ga K "Need") (spInit (He.ga K "Need") (He.ga K "BadNeed") K) := ⟨_, _, _, mk_Need, ok_init F_Need___init__ cls_Need n_Need_start n_Need_rises n_Need_never m_tuple x_BadNeed c_greatest_value, g_Need, b_Need___init__⟩
  have me_value_for : Met P w K mg base 2 (He.ga K "Need") "value_for" (spCallN (He.ga K "Need") K) := ⟨_, _, _, cls_Need, me_Need_value_for, ok_value_for F_Need_value_for cls_Need n_Need_start n_Need_rises n_Need_never c_value_at, b_Need_value_for⟩
  have co_call : CobX P w K mg base 3 (He.ga K "Need") (spCallX (He.ga K "Need") (He.ga K "BadAmount") K) := ⟨_, _, _, ⟨y1, y2, y3⟩, ok_call F_Need___call__ x_BadAmount me_value_for, b_Need___call__⟩
  have e_Need : Eqo P w K mg base 1 (He.ga K "Need") (spEq (He.ga K "Need") K) := ⟨_, _, _, ok_eq F_Need___eq__ isC m_isinstance g_Need cls_Need n_Need_start n_Need_rises n_Need_never, z1, z2, b_Need___eq__⟩
  have c_need : Cal P w K mg base 2 "_law_need" (spLN K) := cal_of F_need g_need b_need (ok_need F_need m_int m_range m_len m_tuple c_take)
  have c_value : Cal P w K mg base 1 "_law_value" (spLV K) := cal_of F_value g_value b_value (ok_value F_value)
  have c_points : Cal P w K mg base 1 "_law_points" (spPoints K) := cal_of F_points g_points b_points (ok_points F_points m_max)
  have c_same : Cal P w K mg base 1 "_law_same" spSame := cal_of F_same g_same b_same (ok_same F_same m_isinstance m_int m_bool)
  have c_raised : Cal P w K mg base 6 "_law_raised" (spRaised K) := cal_of F_raised g_raised b_raised (ok_raised F_raised g_BadNeed teNN fN.xf fN.no k_Need)
  have c_raised_base : Cal P w K mg base 6 "_law_raised_base" (spRaisedB K) := cal_of F_raised_base g_raised_base b_raised_base (ok_raised_base F_raised_base m_isinstance m_ValueError g_HouseError g_BadNeed g_BadAmount teNH fN.ec kNV kNN kNA k_Need)
  have c_refused : Cal P w K mg base 7 "_law_refused" (spRefused K) := cal_of F_refused g_refused b_refused (ok_refused F_refused c_raised c_raised_base)
  have c_refuses_amount : Cal P w K mg base 4 "_law_refuses_amount" (spRefAm (He.ga K "Need") K) := cal_of F_refuses_amount g_refuses_amount b_refuses_amount (ok_refuses_amount F_refuses_amount m_isinstance g_HouseError g_BadNeed g_BadAmount teAA fA.ec kAH kAN fA.xf fA.no co_call)
  have c_wrong_fields : Cal P w K mg base 8 "_law_wrong_fields" (spWrong K) := cal_of F_wrong_fields g_wrong_fields b_wrong_fields (ok_wrong_fields F_wrong_fields m_list m_sum m_len m_range m_int c_refused)
  have c_sixty : Cal P w K mg base 6 "_law_sixty" (spSixty K) := cal_of F_sixty g_sixty b_sixty (ok_sixty F_sixty cls_Need n_Need_rises m_int m_range m_tuple k_Need co_call c_same c_value)
  exact ok_law F_law m_int m_len m_abs m_list m_tuple m_isinstance cls_Need n_Need_start n_Need_rises n_Need_never c_draws c_cell c_need c_points c_value c_same c_refuses_amount c_sixty c_wrong_fields k_Need co_call e_Need
end Z
open PySem PySem.W PySem.Calls PyProof.Rows
theorem PySem.Challenge.cw_signedpacts_k16_need_values_holds : PySem.Challenge.rw_signedpacts_k16_need_values.Holds := by
  w_on; o_law
  refine HandSHeadRun.head_any (r := OpenLaw.row PySem.Challenge.rw_signedpacts_k16_need_values) (q := view (OpenLaw.row PySem.Challenge.rw_signedpacts_k16_need_values).prog [32]) (H := Z.hk) (ob := Z.ob) (M := 8000) (loose := Z.loose) (d := HandSHeadRun.topDef (OpenLaw.row PySem.Challenge.rw_signedpacts_k16_need_values).prog 32) (kwd := []) Z.ob_eq
    (by kernel_rfl) (fun s => by kernel_rfl) Z.run (by kernel_rfl) (by kernel_rfl) (by kernel_rfl) (by rfl) (by first | assumption | decide +kernel) (by decide +kernel) ⟨rfl, rfl, rfl, rfl, rfl, by decide +kernel⟩ ?hw ?hc
  case hw => w_witness2
  case hc =>
    refine L2.walk_ofE (l := PySem.Challenge.rw_signedpacts_k16_need_values) (n := 63) (k := 9) (x := "_law_script") (CX := L2.CX0) rfl (by decide) (by kernel_rfl) ⟨rfl, by decide, by decide⟩ ?F (fun _ _ _ _ z => z)
    intro w mg fa h Y G hmg0
    obtain ⟨K, KX, c, cs, cx⟩ := Y
    have hmg : mg ("law" : PySem.Str) = some (.ref fa) := by
      have e : (HandSHeadRun.topDef (OpenLaw.row PySem.Challenge.rw_signedpacts_k16_need_values).prog 32).name = ("law" : PySem.Str) := by kernel_rfl
      rw [← e]
      exact hmg0
    obtain ⟨fd, hb, hF⟩ := Z.facts (P := (PySem.Challenge.rw_signedpacts_k16_need_values).prog) (w := w) KX G hmg c cs cx (by kernel_rfl) (by kernel_rfl)
    exact ⟨K, fd, Z.spLaw K, KX, hb, fun H a ns hl _ hS => ⟨a, ns, rfl, hS, fun _ => rfl⟩, hF⟩
