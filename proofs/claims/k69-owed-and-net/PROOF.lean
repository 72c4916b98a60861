import PyProof.Rows.All
import Wide.All
import OpenK.AllK
import Wide.FinOn
import HandS.ForMost
import HandS.Zip
import HandS.TupMul
import HandS.Codes
import KE.GoesMore
import KE.GoesEnum
import HandS.Defaults
import HandS.IsInst
import HandS.Wide
import HandS.WideBits
import HandS.NoneIn
import HandS.OwnEq
import HandS.Star
import HandS.SetTxtIn
import HandS.Dict
import HandS.Iter
import KE.KDictList
import HandS.Sort
import HandS.ListItems
import HandS.DictComp
import HandS.Conv
import HandS.More
import HandS.Head0
import HandS.Head1
import HandS.Head2
import HandS.HeadEnd
import HandS.HeadHook1
import HandS.HeadHook2
import PySem.Challenge.RW_signedpacts_k69_owed_and_net
set_option Elab.async false
set_option linter.all false
set_option maxRecDepth 100000
set_option maxHeartbeats 4000000
namespace Z
open PySem PySem.Spec PyProof.Rows L2
/-! ### zip over two sequences, each a list (true) or a tuple (false) -/
def SqK (b : Bool) (K : PySem.W.Frag) (H : Hp) (a : Addr) (xs : List V) : Prop := match b with
  | true => SqL K H a xs
  | false => SqT K H a xs
def ItK (b : Bool) (h : Heap) (it l : Addr) (i : Nat) : Prop := match b with
  | true => h.IsListIter it l i
  | false => h.IsTupleIter it l i
def IsK (b : Bool) (h : Heap) (l : Addr) (xs : Array Value) : Prop := match b with
  | true => h.IsList l xs
  | false => h.IsTuple l xs
theorem ItK.at' {b : Bool} {h h' : Heap} {it l : Addr} {i : Nat} (x : ItK b h it l i) (k : ∀ o, h.get? it = some o → h'.get? it = some o) : ItK b h' it l i := by
  cases b
  · exact Heap.IsTupleIter.at x k
  · exact Heap.IsListIter.at x k
theorem ItK.obj {b : Bool} {h : Heap} {it l : Addr} {i : Nat} (x : ItK b h it l i) : ∃ o, h.get? it = some o ∧ ∀ v, o.data ≠ .cell v := by
  cases b
  · obtain ⟨o, e, _, d⟩ := (show h.IsTupleIter it l i from x)
    exact ⟨o, e, fun v q => by rw [d] at q; cases q⟩
  · obtain ⟨o, e, _, d⟩ := (show h.IsListIter it l i from x)
    exact ⟨o, e, fun v q => by rw [d] at q; cases q⟩
theorem sqk_is {X : Cx} {pins : List (Addr × Obj)} {σ : L2.St} {H : Hp} {s : Shared} {b : Bool} {a : Addr} {xs : List V} (I : Inv X pins σ H s) (h : SqK b X.K H a xs) :
    ∃ its : List Value, Vals xs its ∧ IsK b s.heap a its.toArray ∧ a < s.heap.objs.size := by
  cases b
  · obtain ⟨its, r, p, _⟩ := I.tuple h
    obtain ⟨o, ho, _⟩ := id p
    exact ⟨its, r, p, Heap.lt_size ho⟩
  · obtain ⟨its, r, p, _⟩ := I.list h
    exact ⟨its, r, p.isList, p.lt⟩
theorem sqk_inj {X : Cx} {pins : List (Addr × Obj)} {σ : L2.St} {H : Hp} {s : Shared} {b : Bool} {a : Addr} {xs ys : List V} (I : Inv X pins σ H s) (h : SqK b X.K H a xs) (h' : SqK b X.K H a ys) : xs = ys := by
  cases b
  · exact I.tuple_inj h h'
  · exact I.list_inj h h'
theorem drawsK {prog : Program} {w : World} {A : Around} (b : Bool) (hh : A.handled = none) (it l : Addr) (hne : l ≠ it) (items : Array Value) :
    Draws prog w A it [it, l] items.size (fun i v => items[i]? = some v) (fun i h => ItK b h it l i ∧ IsK b h l items) := by
  cases b
  · exact Draws.tuple hh it l hne items
  · exact Draws.list hh it l hne items
def ItzM (p q : Bool) (K : PySem.W.Frag) (a b : Addr) : It :=
  ⟨fun i H => ∃ (xs ys : List V) (x y : V), SqK p K H a xs ∧ SqK q K H b ys ∧ xs[i]? = some x ∧ ys[i]? = some y,
   fun i H v H' => ∃ T x y, v = .ref T ∧ H T = none ∧ H' = upd H T (.tup [x, y]) ∧ (∀ xs, SqK p K H a xs → xs[i]? = some x) ∧ (∀ ys, SqK q K H b ys → ys[i]? = some y),
   fun i H => ∃ xs ys : List V, SqK p K H a xs ∧ SqK q K H b ys ∧ (xs.length ≤ i ∨ ys.length ≤ i) ∧ i ≤ xs.length ∧ i ≤ ys.length⟩
theorem zsep {z TI TO i1 i2 a b : Addr} (D : ZipApart z TI TO i1 i2 a b) : ZipSep2 z TI TO i1 i2 [i1, a] [i2, b] where
  TIz := D.TIz
  TOz := D.TOz
  TITO := D.TITO
  TIi1 := D.TIi1
  mem1 := List.mem_cons_self
  zf1 := fun h => by rcases List.mem_cons.mp h with e | h; exact D.i1z e.symm; exact D.l1z (List.mem_singleton.mp h).symm
  Tf1 := fun h => by rcases List.mem_cons.mp h with e | h; exact D.TOi1 e; exact D.l1TO (List.mem_singleton.mp h).symm
  TIi2 := D.TIi2
  mem2 := List.mem_cons_self
  zf2 := fun h => by rcases List.mem_cons.mp h with e | h; exact D.i2z e.symm; exact D.l2z (List.mem_singleton.mp h).symm
  Tf2 := fun h => by rcases List.mem_cons.mp h with e | h; exact D.TOi2 e; exact D.l2TO (List.mem_singleton.mp h).symm
  sep1_2 := fun h => by rcases List.mem_cons.mp h with e | h; exact D.i12 e; exact D.l2i1 (List.mem_singleton.mp h).symm
  sep2_1 := fun h => by rcases List.mem_cons.mp h with e | h; exact D.i12 e.symm; exact D.l1i2 (List.mem_singleton.mp h).symm
theorem five {c z TI TO i1 i2 : Addr} {Pr : Addr → Prop} (hc : c ∈ [z, TI, TO, i1, i2]) (a : Pr z) (b : Pr TI) (d : Pr TO) (e : Pr i1) (f : Pr i2) : Pr c := by
  have q : c = z ∨ c = TI ∨ c = TO ∨ c = i1 ∨ c = i2 := by simpa using hc
  rcases q with rfl | rfl | rfl | rfl | rfl <;> assumption
theorem turn_zipM {p q : Bool} {P : Program} {w : World} {K : PySem.W.Frag} {elts : List Expr} {kk : Nat} {tpos : Pos} {a b z TI TO i1 i2 : Addr} (D : ZipApart z TI TO i1 i2 a b) :
    Turn P w K (.Tuple elts kk tpos) (ItzM p q K a b) [z, TI, TO, i1, i2] z (fun i h => IsZip h z TI TO .none ∧ IsTupOf2 h TI (.ref i1) (.ref i2) ∧ (∃ x y, IsTupOf2 h TO x y) ∧ ItK p h i1 a i ∧ ItK q h i2 b i) where
  mem := by simp
  obj := fun i h st c hc => by
    obtain ⟨hz, hI, ⟨x, y, hO⟩, h1, h2⟩ := st
    exact five (Pr := fun c => ∃ o, h.get? c = some o ∧ ∀ v, o.data ≠ .cell v) hc ⟨_, hz, fun v q => nomatch q⟩ ⟨_, hI, fun v q => nomatch q⟩ ⟨_, hO, fun v q => nomatch q⟩ h1.obj h2.obj
  keep := fun i h h' st k => by
    obtain ⟨hz, hI, ⟨x, y, hO⟩, h1, h2⟩ := st
    exact ⟨k z (by simp) _ hz, k TI (by simp) _ hI, ⟨x, y, k TO (by simp) _ hO⟩, h1.at' (fun o e => k i1 (by simp) o e), h2.at' (fun o e => k i2 (by simp) o e)⟩
  item := by
    intro X hP hw hK hc i pins s σ H E I hf st hg
    subst hP hw hK
    obtain ⟨hz, hI, ⟨x0, y0, hO⟩, h1, h2⟩ := st
    obtain ⟨xs, ys, x, y, qx, qy, ex, ey⟩ := hg
    obtain ⟨us, rx, kx, _⟩ := sqk_is I qx
    obtain ⟨vs, ry, ky, _⟩ := sqk_is I qy
    obtain ⟨u, eu, ru⟩ := rx.get ex
    obtain ⟨v, ev, rv⟩ := ry.get ey
    have hzl : z < s.heap.objs.size := Heap.lt_size hz
    have lu : i < us.toArray.size := by simpa using (List.getElem?_eq_some_iff.mp eu).1
    have lv : i < vs.toArray.size := by simpa using (List.getElem?_eq_some_iff.mp ev).1
    have hh : X.A.in1.handled = none := I.ok.hd hc
    refine wpAny_pyNext_zipD2_item (zsep D) (drawsK p hh i1 a D.l1i1 us.toArray) (drawsK q hh i2 b D.l2i2 vs.toArray) hz hI hO ⟨h1, kx⟩ ⟨h2, ky⟩ lu lv fun m1 m2 g tk p1 p2 gz gO g1 g2 gT gs gk => ?_
    have e1 : m1 = u := by
      have t1 : us.toArray[i]? = some u := by simpa using eu
      exact Option.some.inj (p1.symm.trans t1)
    have e2 : m2 = v := by
      have t1 : vs.toArray[i]? = some v := by simpa using ev
      exact Option.some.inj (p2.symm.trans t1)
    subst e1 e2
    refine ⟨_, rfl, wpAny_letOwnedTupleGo_zip (s := { s with heap := g, toks := tk }) gz fun g' gz' sb => ?_⟩
    have gT' : g'.get? s.heap.objs.size = some { cls := .type "tuple", data := .seq #[m1, m2] } := (sb.2 _ (Nat.ne_of_gt hzl)).trans gT
    have nw : ObjOk X.prog X.w (upd H s.heap.objs.size (.tup [x, y])) g' s.heap.objs.size (.tup [x, y]) := ⟨by show 2 ≤ sizeLine; decide, [m1, m2], .cons ru (.cons rv .nil), ⟨_, gT', rfl, _, rfl⟩⟩
    have I1 : Inv X pins σ (upd H s.heap.objs.size (.tup [x, y])) { s with heap := g', toks := tk } :=
      I.turnedNew (t' := tk) (ch := [z, TI, TO, i1, i2]) (fun c o nb e => (sb.2 c (fun w => nb (by simp [w]))).trans (gk c o (fun w => nb (by simp [w])) (fun w => nb (by simp [w])) (fun w => nb (by simp [w])) (fun w => nb (by simp [w])) e)) hf (Nat.le_refl _) nw
    refine ⟨.ref s.heap.objs.size, _, I1, rfl, ⟨_, x, y, rfl, I.hok.fresh (Nat.le_refl _), rfl, fun l hl => by rw [sqk_inj I hl qx]; exact ex, fun l hl => by rw [sqk_inj I hl qy]; exact ey⟩, ⟨gz', ?_, ⟨m1, m2, ?_⟩, ?_, ?_⟩, fun c hcm => ?_⟩
    · exact (sb.2 _ D.TIz).trans (gk _ _ D.TIz D.TITO D.TIi1 D.TIi2 hI)
    · exact (sb.2 _ D.TOz).trans gO
    · exact ItK.at' g1.1 (fun o e => (sb.2 _ D.i1z).trans e)
    · exact ItK.at' g2.1 (fun o e => (sb.2 _ D.i2z).trans e)
    · have lt : c < s.heap.objs.size := by
        obtain ⟨o1, q1, _⟩ := h1.obj
        obtain ⟨o2, q2, _⟩ := h2.obj
        exact five (Pr := fun c => c < s.heap.objs.size) hcm hzl (Heap.lt_size hI) (Heap.lt_size hO) (Heap.lt_size q1) (Heap.lt_size q2)
      rw [upd_ne (Nat.ne_of_lt lt)]
      exact (hf c hcm).1
  done := by
    intro X hP hw hK hc i pins s σ H E I hf st hg
    subst hP hw hK
    obtain ⟨hz, hI, ⟨x0, y0, hO⟩, h1, h2⟩ := st
    obtain ⟨xs, ys, qx, qy, hend, le1, le2⟩ := hg
    obtain ⟨us, rx, kx, _⟩ := sqk_is I qx
    obtain ⟨vs, ry, ky, _⟩ := sqk_is I qy
    have l1 := rx.length
    have l2 := ry.length
    have n1 : us.toArray.size = us.length := by simp
    have n2 : vs.toArray.size = vs.length := by simp
    have hh : X.A.in1.handled = none := I.ok.hd hc
    refine wpAny_pyNext_zipD2_end (i := i) (zsep D) (drawsK p hh i1 a D.l1i1 us.toArray) (drawsK q hh i2 b D.l2i2 vs.toArray) hz hI hO ⟨h1, kx⟩ ⟨h2, ky⟩ (by omega) (by omega) (by omega) fun g tk gk => ?_
    exact ⟨rfl, I.turnedL (t' := tk) (ch := [z, TI, TO, i1, i2]) (fun c o nb e => gk c o (fun w => nb (by simp [w])) (fun w => nb (by simp [w])) (fun w => nb (by simp [w])) (fun w => nb (by simp [w])) e) hf⟩
  self := fun A i s Q E st h => wpAny_pyIter_zip st.1 h
def iZipM (K : PySem.W.Frag) (ta : TA) : TI := fun σ H R => ta σ H fun vs H1 => ∃ p q a b xs ys, vs = [.ref a, .ref b] ∧ SqK p K H1 a xs ∧ SqK q K H1 b ys ∧ R (ItzM p q K a b) H1
theorem begK {p : Bool} {h : Heap} {a : Addr} {xs : Array Value} (k : IsK p h a xs) : ∃ o Hp', Begins (.ref a) o Hp' ∧ Hp' h ∧ ∀ h' it, h'.get? it = some o → ItK p h' it a 0 := by
  cases p
  · exact ⟨_, _, begins_tuple a xs, k, fun h' it e => ⟨_, e, rfl, rfl⟩⟩
  · exact ⟨_, _, begins_list a xs, k, fun h' it e => ⟨_, e, rfl, rfl⟩⟩
theorem pi_zipM {X : Cx} {e e2 : Expr} {ta : TA} {p pos tpos : Pos} {elts : List Expr} {kk : Nat} (hg : Gl X "zip") (hm : X.mg "zip" = none) (ha : PA X [e, e2] ta)
    (hs : starEach [e, e2] X.env = (false, eval e X.env) :: starEach [e2] X.env := by rfl) (hpl : (backTo pos (starEach [e2] X.env)).any (·.1) = false := by rfl) :
    PI X (.Tuple elts kk tpos) (.Call (.Name "zip" p) [e, e2] [] pos) (iZipM X.K ta) := by
  constructor
  intro pins s σ H R I h
  refine Call_ (ld_blt I hg hm PyProof.Rows.boot_zip (PyProof.Rows.callWith_type1 (thn (ha.run pos pins s σ H _ I h) fun us s1 ⟨vs, H1, I1, r1, q1⟩ => ?_) hs hpl))
  obtain ⟨k1, k2, a, b, xs, ys, ex, qx, qy, q⟩ := q1
  subst ex
  obtain ⟨u, v, rfl, ru, rv⟩ := Vals.two r1
  cases ru
  cases rv
  obtain ⟨i1, _, p1, lt1⟩ := sqk_is I1 qx
  obtain ⟨i2, _, p2, lt2⟩ := sqk_is I1 qy
  obtain ⟨o1, G1, B1, g1, w1⟩ := begK p1
  obtain ⟨o2, G2, B2, g2, w2⟩ := begK p2
  refine zip_begins2 B1 B2 g1 g2 fun h' hz hI hO e1 e2 hsz hk => wpAny_pyIter_zip hz ?_
  have I2 : Inv X pins σ H1 { s1 with heap := h' } := I1.kept (t' := s1.toks) hk
  refine ⟨s1.heap.objs.size + 4, [s1.heap.objs.size + 4, s1.heap.objs.size + 2, s1.heap.objs.size + 3, s1.heap.objs.size, s1.heap.objs.size + 1], _, _, H1, rfl, I2, turn_zipM (PySem.W.ktu_apart s1.heap.objs.size a b lt1 lt2), ⟨hz, hI, ⟨_, _, hO⟩, w1 _ _ e1, w2 _ _ e2⟩, fun c hcm => ?_, q⟩
  have hle : s1.heap.objs.size ≤ c := five (Pr := fun c => s1.heap.objs.size ≤ c) hcm (Nat.le_add_right _ _) (Nat.le_add_right _ _) (Nat.le_add_right _ _) (Nat.le_refl _) (Nat.le_add_right _ _)
  exact I1.fpOk hle (I1.hok.fresh hle)
end Z
set_option Elab.async false
set_option linter.all false
set_option maxRecDepth 100000
set_option maxHeartbeats 4000000
namespace Z
open PySem PySem.Spec PyProof.Rows L2
/-! ### (v,) * k for 0 ≤ k -/
theorem tmul0 (l : Addr) (v : Value) (n : Nat) (dd : Option Addr) (sl : Array (Option Value)) (u : Tok) :
    Meets (Builtin.«tuple.__mul__» ⟨[.ref l, .int 0 u], []⟩) (fun _ R s => s.heap.get? l = some { cls := .type "tuple", dict := dd, data := .seq #[v] n, slots := sl } ∧
      R (.ok (.ret (Value.ref s.heap.objs.size))) { s with heap := s.heap.push { cls := Value.type "tuple", data := Data.seq #[] }, toks := s.toks }) :=
  .of_wp fun prog w A R s h => by
    obtain ⟨hp, g, d, tk, os⟩ := s
    obtain ⟨hl, h⟩ := h
    have f1 := AutoSeq1.idx_int
    wp_walk using AutoSeq1.wpAny_loadPart' hl
    exact ⟨_, rfl, h⟩
theorem tmul1 (l : Addr) (items : Array Value) (n : Nat) (dd : Option Addr) (sl : Array (Option Value)) (u : Tok) :
    Meets (Builtin.«tuple.__mul__» ⟨[.ref l, .int 1 u], []⟩) (fun _ R s => s.heap.get? l = some { cls := .type "tuple", dict := dd, data := .seq items n, slots := sl } ∧ R (.ok (.ret (Value.ref l))) s) :=
  .of_wp fun prog w A R s h => by
    obtain ⟨hp, g, d, tk, os⟩ := s
    obtain ⟨hl, h⟩ := h
    have f1 := AutoSeq1.idx_int
    wp_walk using AutoSeq1.wpAny_loadPart' hl
    exact ⟨_, rfl, h⟩
theorem same_new {H : Hp} {p : Addr} {o : HO} (h : H p = none) : Same H (upd H p o) := fun b x e => by
  rw [upd_ne (ne_of_none e h)]
  exact e
def rRepU : R2 := fun x y H Q => ∃ l k v, x = .ref l ∧ y = .int k ∧ H l = some (.tup [v]) ∧ 0 ≤ k ∧ k ≤ 1000 ∧ ∀ p H', Same H H' → H' p = some (.tup (List.replicate k.toNat v)) → Q (.ref p) H'
theorem op_repU {X : Cx} : OpR X (binaryOp .Mult) rRepU := by
  intro pins s σ H x y vv uu Q I rx ry h
  obtain ⟨l, k, v, rfl, rfl, hT, h0, h1, q⟩ := id h
  by_cases k2 : 2 ≤ k
  · refine op_repT pins s σ H _ _ vv uu Q I rx ry ⟨l, k, [v], rfl, rfl, .inl (.inl hT), by simp, k2, h1, by simp, fun p np => q p _ (same_new np) ?_⟩
    rw [upd_same]
    congr 2
    generalize k.toNat = m
    induction m with
    | zero => rfl
    | succ m ih => rw [List.replicate_succ, List.flatten_cons, ih, List.replicate_succ]; rfl
  · cases rx
    obtain ⟨t, rfl⟩ := ry
    obtain ⟨its, r, ⟨⟨cls, dd, data, sl⟩, ho, hc, n, hd⟩, hs⟩ := I.tuple (.inl (.inl hT) : SqT X.K H l [v])
    simp only at hc hd
    subst hc hd
    obtain ⟨u, rfl, ru⟩ := Vals.one r
    by_cases k1 : k = 1
    · subst k1
      refine wpAny_binaryOp_repeat_ref (T := "tuple") (U := "int") (by decide) ⟨_, ho, rfl⟩ (fun s' => typeIs_int s' 1 t) noFill_tuple_mul F.fills_int_mul F.slot_int_rmul repeat_tuple F.slot_int_index.lookup
        (call_meets F.slot_int_rmul (typeIs_int s 1 t) F.entry_int_rmul (F.args_int_rmul_2 _ _) (int_rmul_tuple 1 t l [u].toArray n dd sl)
          ⟨ho, rfl, ⟨_, ho, rfl⟩, call_meets F.slot_tuple_mul ⟨_, ho, rfl⟩ F.entry_tuple_mul (F.args_tuple_mul_2 _ _) (tmul1 l [u].toArray n dd sl t) ⟨ho, ?_⟩⟩)
      exact ⟨.ref l, H, I, rfl, q l H (Same.refl H) hT⟩
    · have k0 : k = 0 := by omega
      subst k0
      refine wpAny_binaryOp_repeat_ref (T := "tuple") (U := "int") (by decide) ⟨_, ho, rfl⟩ (fun s' => typeIs_int s' 0 t) noFill_tuple_mul F.fills_int_mul F.slot_int_rmul repeat_tuple F.slot_int_index.lookup
        (call_meets F.slot_int_rmul (typeIs_int s 0 t) F.entry_int_rmul (F.args_int_rmul_2 _ _) (int_rmul_tuple 0 t l [u].toArray n dd sl)
          ⟨ho, rfl, ⟨_, ho, rfl⟩, call_meets F.slot_tuple_mul ⟨_, ho, rfl⟩ F.entry_tuple_mul (F.args_tuple_mul_2 _ _) (tmul0 l u n dd sl t) ⟨ho, ?_⟩⟩)
      refine ⟨.ref s.heap.objs.size, _, I.laid (t' := s.toks) (o := .tup []) (fun b ob z => Heap.get?_push_of_some _ z) (Nat.le_refl _) ?_, rfl, q _ _ (same_new (I.hok.fresh (Nat.le_refl _))) upd_same⟩
      exact ⟨Nat.zero_le _, [], .nil, IsTup.new _ _⟩
/-! ### loops and comprehensions over any iterator -/
def forW (J : It) (g : TG) (tb : TS) (D : Ends) (σ : L2.St) (H : Hp) : Prop := ∃ W : Nat → Nat → L2.St → Hp → Prop, (∃ m, W 0 m σ H) ∧ ∀ i m σ H, W i m σ H →
  (J.stop i H ∧ D.nx σ H) ∨ (J.go i H ∧ ∃ N : L2.St → Hp → Prop, (∀ σ' H', N σ' H' → ∃ m', m' < m ∧ W (i + 1) m' σ' H') ∧ ∀ x H', J.yld i H x H' → g x σ H' fun σ2 H2 => tb { D with nx := N, ct := N, bk := D.nx } σ2 H2)
theorem for_gen {J : It} {n : Nat} {g : TG} {tb : TS} {D : Ends} {σ : L2.St} {H : Hp} (Pv : Nat → L2.St → Hp → Prop) (h0 : Pv 0 σ H) (hgo : ∀ i σ H, i < n → Pv i σ H → J.go i H) (hst : ∀ σ H, Pv n σ H → J.stop n H)
    (hs : ∀ i σ H x H', i < n → Pv i σ H → J.yld i H x H' → g x σ H' fun σ2 H2 => tb { D with nx := Pv (i + 1), ct := Pv (i + 1), bk := D.nx } σ2 H2) (hd : ∀ σ H, Pv n σ H → D.nx σ H) : forW J g tb D σ H := by
  refine ⟨fun i m σ H => m = n - i ∧ i ≤ n ∧ Pv i σ H, ⟨n, by omega, Nat.zero_le _, h0⟩, fun i m σ H w => ?_⟩
  obtain ⟨rfl, hi, p⟩ := w
  by_cases hlt : i < n
  · exact .inr ⟨hgo i σ H hlt p, Pv (i + 1), fun σ' H' z => ⟨n - (i + 1), by omega, rfl, hlt, z⟩, fun x H' y => hs i σ H x H' hlt p y⟩
  · have e : i = n := by omega
    subst e
    exact .inl ⟨hst σ H p, hd σ H p⟩
def lcW (J : It) (g : TG) (tt : TT) (te : TE) (vs : List Nat) (σ : L2.St) (D : Addr) (Qd : Hp → Prop) (H1 : Hp) : Prop := ∃ W : Nat → Nat → Hp → Prop, (∃ m, W 0 m (upd H1 D (.lst []))) ∧ ∀ i m H, W i m H →
  (J.stop i H ∧ Qd H) ∨ (J.go i H ∧ ∃ Nx : Hp → Prop, (∀ H', Nx H' → ∃ m', m' < m ∧ W (i + 1) m' H') ∧ ∀ x H', J.yld i H x H' → g x (wipe σ vs) H' fun σ2 H2 => wipe σ2 vs = wipe σ vs ∧ tt σ2 H2 fun b H3 =>
    if b = true then te σ2 H3 fun y H4 => ∃ acc, H4 D = some (.lst acc) ∧ acc.length < sizeLine ∧ Nx (upd H4 D (.lst (acc ++ [y]))) else Nx H3)
theorem lc_gen {J : It} {n : Nat} {g : TG} {tt : TT} {te : TE} {vs : List Nat} {σ : L2.St} {H1 : Hp} {D : Addr} {Qd : Hp → Prop} (Pv : Nat → Hp → Prop) (h0 : Pv 0 (upd H1 D (.lst []))) (hgo : ∀ i H, i < n → Pv i H → J.go i H) (hst : ∀ H, Pv n H → J.stop n H)
    (hs : ∀ i H x H', i < n → Pv i H → J.yld i H x H' → g x (wipe σ vs) H' fun σ2 H2 => wipe σ2 vs = wipe σ vs ∧ tt σ2 H2 fun b H3 =>
      if b = true then te σ2 H3 fun y H4 => ∃ acc, H4 D = some (.lst acc) ∧ acc.length < sizeLine ∧ Pv (i + 1) (upd H4 D (.lst (acc ++ [y]))) else Pv (i + 1) H3) (hd : ∀ H, Pv n H → Qd H) : lcW J g tt te vs σ D Qd H1 := by
  refine ⟨fun i m H => m = n - i ∧ i ≤ n ∧ Pv i H, ⟨n, by omega, Nat.zero_le _, h0⟩, fun i m H w => ?_⟩
  obtain ⟨rfl, hi, p⟩ := w
  by_cases hlt : i < n
  · exact .inr ⟨hgo i H hlt p, Pv (i + 1), fun H' z => ⟨n - (i + 1), by omega, rfl, hlt, z⟩, fun x H' y => hs i H x H' hlt p y⟩
  · have e : i = n := by omega
    subst e
    exact .inl ⟨hst H p, hd H p⟩
/-! ### a def of the module that may be called by its name -/
structure Cal (P : Program) (w : World) (K : PySem.W.Frag) (mg : Str → Option Value) (base : Heap) (k : Nat) (x : Str) (sp : Sp) : Prop where
  ex : ∃ (f : Addr) (fd : FuncData) (ps : List Str), FnOk P w K mg base CX0 k f fd ps sp ∧ mg x = some (.ref f) ∧ PySem.W.keepIn K (.ref f) = true ∧ Binds K fd ps []
section
variable {X : Cx} {k j : Nat} {x : Str} {sp : Sp} {p pos : Pos} {e : Expr} {es : List Expr} {t : TA}
theorem pe_cl (c : Cal X.prog X.w X.K X.mg X.base k x sp) (hr : Room j X.A) (hk : k ≤ j) (hg : Gl X x) (ha : PA X (e :: es) t)
    (hdb : (x == ("__debug__" : Str)) = false := by decide) (he : starEach (e :: es) X.env = (false, eval e X.env) :: starEach es X.env := by rfl) (hpl : (backTo pos (starEach es X.env)).any (·.1) = false := by rfl) : PE X (.Call (.Name x p) (e :: es) [] pos) (tCall sp [] E0 t) := by
  obtain ⟨f, fd, ps, F, hm, kp, b⟩ := c.ex
  exact pe_call F (hr.mono hk) hg hm kp b .nil pass0 ha hdb he hpl
end
structure CalK (P : Program) (w : World) (K : PySem.W.Frag) (mg : Str → Option Value) (base : Heap) (k : Nat) (x : Str) (n : Nat) (ks : List Str) (gV : List V → List V → List V) (sp : Sp) : Prop where
  ex : ∃ (f : Addr) (fd : FuncData) (ps : List Str) (g : List Value → List Value → List Value), FnOk P w K mg base CX0 k f fd ps sp ∧ mg x = some (.ref f) ∧ PySem.W.keepIn K (.ref f) = true ∧ KBn K fd ps n ks g gV
section
variable {X : Cx} {k j n : Nat} {x : Str} {sp : Sp} {ks : List Str} {gV : List V → List V → List V} {p pos : Pos} {e : Expr} {es : List Expr} {kws : List Keyword} {t tk : TA}
theorem pe_clK (c : CalK X.prog X.w X.K X.mg X.base k x n ks gV sp) (hr : Room j X.A) (hk : k ≤ j) (hg : Gl X x) (ha : PA X (e :: es) t) (hkw : PK X kws tk)
    (hall : (backToKw pos (keywordEach kws X.env)).all (·.1.isSome) = true := by rfl) (hks : (backToKw pos (keywordEach kws X.env)).filterMap (·.1) = ks := by rfl) (hdb : (x == ("__debug__" : Str)) = false := by decide)
    (he : starEach (e :: es) X.env = (false, eval e X.env) :: starEach es X.env := by rfl) (hpl : ((backTo pos (starEach (e :: es) X.env)).any (·.1) || (backToKw pos (keywordEach kws X.env)).any (·.1.isNone)) = false := by rfl) :
    PE X (.Call (.Name x p) (e :: es) kws pos) (tCallN n ks.length sp gV E0 t tk) := by
  obtain ⟨f, fd, ps, g, F, hm, kp, b⟩ := c.ex
  exact pe_callN F (hr.mono hk) hg hm kp b pass0 ha hkw hall hks hdb he hpl
end
/-! ### heaps -/
/-- all but p stands -/
def SB (p : Addr) (H H' : Hp) : Prop := ∀ b o, b ≠ p → H b = some o → H' b = some o
theorem Same.sb {p : Addr} {H H' : Hp} (s : Same H H') : SB p H H' := fun b o _ h => s b o h
theorem SB.trans {p : Addr} {H H1 H2 : Hp} (a : SB p H H1) (b : SB p H1 H2) : SB p H H2 := fun c o n h => b c o n (a c o n h)
theorem SB.upd {p : Addr} {H H' : Hp} {o : HO} (s : SB p H H') : SB p H (upd H' p o) := fun b u n h => by
  rw [upd_ne n]
  exact s b u n h
theorem SB.same {p : Addr} {H H' : Hp} (s : SB p H H') (n : H p = none) : Same H H' := fun b o h => s b o (ne_of_none h n) h
theorem Same.mut {p : Addr} {H H' : Hp} {o : HO} (s : Same H H') (n : H p = none) : Same H (L2.upd H' p o) := fun b u h => by
  rw [upd_ne (ne_of_none h n)]
  exact s b u h
theorem SB.sq {K : PySem.W.Frag} {p a : Addr} {H H' : Hp} {xs : List V} (s : SB p H H') (n : a ≠ p) (h : SqL K H a xs) : SqL K H' a xs := by
  rcases h with (h | ⟨o, h⟩) | h
  · exact .inl (.inl (s _ _ n h))
  · exact .inl (.inr ⟨o, s _ _ n h⟩)
  · exact .inr h
theorem Same.sqT {K : PySem.W.Frag} {a : Addr} {H H' : Hp} {xs : List V} (s : Same H H') (h : SqT K H a xs) : SqT K H' a xs := by
  rcases h with (h | ⟨o, h⟩) | h
  · exact .inl (.inl (s _ _ h))
  · exact .inl (.inr ⟨o, s _ _ h⟩)
  · exact .inr h
theorem Same.sqK {b : Bool} {K : PySem.W.Frag} {a : Addr} {H H' : Hp} {xs : List V} (s : Same H H') (h : SqK b K H a xs) : SqK b K H' a xs := by
  cases b
  · exact Z.Same.sqT s h
  · exact s.seq h
theorem at_map {α : Type} {f : α → V} {xs : List α} {i : Nat} {x : α} (h : xs[i]? = some x) : atI (xs.map f) (i : Int) = some (f x) := atI_nat (by rw [List.getElem?_map, h]; rfl)
theorem of_map {α : Type} {f : α → V} {xs : List α} {i : Nat} {v : V} (h : (xs.map f)[i]? = some v) : ∃ x, xs[i]? = some x ∧ v = f x := by
  rw [List.getElem?_map] at h
  cases e : xs[i]? with
  | none => rw [e] at h; cases h
  | some x => rw [e] at h; exact ⟨x, rfl, (Option.some.inj h).symm⟩
end Z
set_option Elab.async false
set_option linter.all false
set_option maxRecDepth 100000
set_option maxHeartbeats 4000000
namespace Z
open PySem PySem.Spec PyProof.Rows L2
/-! ### data -/
def sqD (b : Bool) (ds : List PyData) : PyData := match b with
  | true => .list ds
  | false => .tuple ds
def intsD (b : Bool) (ns : List Int) : PyData := sqD b (ns.map PyData.int)
def matD (b : Bool) (rs : List (List Int)) : PyData := sqD b (rs.map (intsD b))
theorem dp_sq {b : Bool} {K : PySem.W.Frag} {H : Hp} {a : Addr} {xs : List V} {ds : List PyData} (h : SqK b K H a xs) (d : DpAll K H xs ds) : Dp K H (.ref a) (sqD b ds) := by
  cases b
  · exact .tup h d
  · exact .lst h d
theorem dpa_ints {K : PySem.W.Frag} {H : Hp} : ∀ ns : List Int, DpAll K H (ns.map V.int) (ns.map PyData.int)
  | [] => .nil
  | n :: r => .cons (.int n) (dpa_ints r)
theorem dp_ints {b : Bool} {K : PySem.W.Frag} {H : Hp} {a : Addr} {ns : List Int} (h : SqK b K H a (ns.map V.int)) : Dp K H (.ref a) (intsD b ns) := dp_sq h (dpa_ints ns)
/-- a matrix: a list (or tuple) of lists (or tuples) of ints, at ps -/
def Mat (b : Bool) (K : PySem.W.Frag) (H : Hp) (a : Addr) (ps : List Addr) (rs : List (List Int)) : Prop := SqK b K H a (ps.map V.ref) ∧ ps.length = rs.length ∧ ∀ (i : Nat) (p : Addr) (r : List Int), ps[i]? = some p → rs[i]? = some r → SqK b K H p (r.map V.int)
theorem Mat.mono {b : Bool} {K : PySem.W.Frag} {H H' : Hp} {a : Addr} {ps : List Addr} {rs : List (List Int)} (s : Same H H') (m : Mat b K H a ps rs) : Mat b K H' a ps rs := ⟨Z.Same.sqK s m.1, m.2.1, fun i p r h1 h2 => Z.Same.sqK s (m.2.2 i p r h1 h2)⟩
theorem dpa_mat {b : Bool} {K : PySem.W.Frag} {H : Hp} : ∀ (ps : List Addr) (rs : List (List Int)), ps.length = rs.length → (∀ (i : Nat) (p : Addr) (r : List Int), ps[i]? = some p → rs[i]? = some r → SqK b K H p (r.map V.int)) → DpAll K H (ps.map V.ref) (rs.map (intsD b))
  | [], [], _, _ => .nil
  | p :: ps, r :: rs, hl, h => .cons (dp_ints (h 0 p r rfl rfl)) (dpa_mat ps rs (by simpa using hl) fun i q s h1 h2 => h (i + 1) q s h1 h2)
theorem Mat.dp {b : Bool} {K : PySem.W.Frag} {H : Hp} {a : Addr} {ps : List Addr} {rs : List (List Int)} (m : Mat b K H a ps rs) : Dp K H (.ref a) (matD b rs) := dp_sq m.1 (dpa_mat ps rs m.2.1 m.2.2)
theorem lay_ints : ∀ ns : List Int, PyData.canLayAll0 (ns.map PyData.int) = true
  | [] => rfl
  | n :: r => by
    rw [List.map_cons, PyData.canLayAll0, lay_ints r]
    rfl
theorem dep_ints : ∀ ns : List Int, PyData.depthAll (ns.map PyData.int) = 0
  | [] => rfl
  | n :: r => by
    rw [List.map_cons, PyData.depthAll, dep_ints r]
    rfl
theorem shaped_ints (b : Bool) (ns : List Int) : SeqAt.shaped (intsD b ns) = true := by
  unfold SeqAt.shaped intsD
  cases b
  · show (PyData.canLayAll0 (ns.map PyData.int) && decide (PyData.depthAll (ns.map PyData.int) + 1 ≤ 64)) = true
    rw [lay_ints, dep_ints]
    rfl
  · show (PyData.canLayAll0 (ns.map PyData.int) && decide (PyData.depthAll (ns.map PyData.int) + 1 ≤ 64)) = true
    rw [lay_ints, dep_ints]
    rfl
theorem lay_mat (b : Bool) : ∀ rs : List (List Int), PyData.canLayAll0 (rs.map (intsD b)) = true
  | [] => rfl
  | n :: r => by
    rw [List.map_cons, PyData.canLayAll0, lay_mat b r, SeqAt.canLay_of_shaped (shaped_ints b n)]
    rfl
theorem dep_mat (b : Bool) : ∀ rs : List (List Int), PyData.depthAll (rs.map (intsD b)) ≤ 1
  | [] => Nat.zero_le _
  | n :: r => by
    rw [List.map_cons, PyData.depthAll]
    have h := dep_mat b r
    have h2 : (intsD b n).depth = 1 := by
      cases b
      · show PyData.depthAll (n.map PyData.int) + 1 = 1
        rw [dep_ints]
      · show PyData.depthAll (n.map PyData.int) + 1 = 1
        rw [dep_ints]
    omega
theorem shaped_mat (b : Bool) (rs : List (List Int)) : SeqAt.shaped (matD b rs) = true := by
  have h := dep_mat b rs
  unfold SeqAt.shaped matD
  cases b
  · show (PyData.canLayAll0 (rs.map (intsD false)) && decide (PyData.depthAll (rs.map (intsD false)) + 1 ≤ 64)) = true
    rw [lay_mat, decide_eq_true (by omega)]
    rfl
  · show (PyData.canLayAll0 (rs.map (intsD true)) && decide (PyData.depthAll (rs.map (intsD true)) + 1 ≤ 64)) = true
    rw [lay_mat, decide_eq_true (by omega)]
    rfl
theorem same2 {K : PySem.W.Frag} {H : Hp} {x y : V} {d : PyData} {R : PyData → PyData → Prop} (hx : Dp K H x d) (hy : Dp K H y d) (hs : SeqAt.shaped d = true) (q : R d d) : ∃ d' e', Dp K H x d' ∧ Dp K H y e' ∧ SeqAt.shaped d' = true ∧ SeqAt.shaped e' = true ∧ R d' e' := ⟨d, d, hx, hy, hs, hs, q⟩
theorem eqv_same {d : PyData} (hs : SeqAt.shaped d = true) : PyData.eqv d d = true := SeqAt.eqv_refl d (SeqAt.canLay_of_shaped hs)
/-! ### a target that is one of two kinds -/
def gOr (t u : TG) : TG := fun v σ H Q => t v σ H Q ∨ u v σ H Q
theorem pg_or {X : Cx} {e : Expr} {t u : TG} (h1 : PG X e t) (h2 : PG X e u) : PG X e (gOr t u) := by
  refine ⟨fun pins s σ H v uu Q I r hw => ?_⟩
  rcases hw with h | h
  · exact h1.run pins s σ H v uu Q I r h
  · exact h2.run pins s σ H v uu Q I r h
/-! ### isinstance of built-in kinds -/
theorem isi {K : PySem.W.Frag} {H : Hp} {x : V} {T c : String} {b : Bool} {R : Bool → Prop} (t : TyOf K H x (.type T)) (h : kitB T c = some b) (q : R b) : ∃ (x' c' : V) (t' u' : Value) (b' : Bool), [x, .ty c] = [x', c'] ∧ ClsV c' u' ∧ TyX K H x' t' ∧ PySem.W.kitOne K t' u' = some b' ∧ R b' :=
  ⟨x, .ty c, .type T, .type c, b, rfl, .ty c, .base t, kit_ty h, q⟩
/-! ### rules by the written part itself (within a comprehension's block) -/
section
variable {X : Cx} {K : PySem.W.Frag}
theorem ix_list_K (h : X.K = K) : IxR X (rIxL K) := by subst h; exact ix_list
theorem ix_tup_K (h : X.K = K) : IxR X (rIxT K) := by subst h; exact ix_tup
theorem ix_seq_K (h : X.K = K) : IxR X (rIx K) := by subst h; exact ix_seq
theorem call_len_seq_K (h : X.K = K) : CallR X (.builtin "len") (fun xs H Q => ∃ p ys, xs = [.ref p] ∧ (SqL K H p ys ∨ SqT K H p ys) ∧ Q (.int ys.length) H) := by subst h; exact call_len_seq
theorem call_list_of_K (h : X.K = K) : CallR X (.type "list") (fun xs H Q => ∃ p ys, xs = [.ref p] ∧ (SqL K H p ys ∨ SqT K H p ys) ∧ ∀ l, H l = none → Q (.ref l) (upd H l (.lst ys))) := by subst h; exact call_list_of
theorem call_tuple_of_K (h : X.K = K) : CallR X (.type "tuple") (fun xs H Q => ∃ p ys, xs = [.ref p] ∧ ((SqL K H p ys ∧ ∀ l, H l = none → Q (.ref l) (upd H l (.tup ys))) ∨ (SqT K H p ys ∧ Q (.ref p) H))) := by subst h; exact call_tuple_of
theorem op_in_seq_K (h : X.K = K) : OpR X (compareOp .In) (rIn K false) := by subst h; exact op_in_seq
theorem op_notIn_seq_K (h : X.K = K) : OpR X (compareOp .NotIn) (rIn K true) := by subst h; exact op_notIn_seq
theorem op_eqD_K (h : X.K = K) (hu : X.A.units + 64 < cLine) : OpR X (compareOp .Eq) (rEqD K) := by subst h; exact op_eqD hu
theorem op_neD_K (h : X.K = K) (hu : X.A.units + 64 < cLine) : OpR X (compareOp .NotEq) (rNeD K) := by subst h; exact op_neD hu
theorem call_isi_K (h : X.K = K) : CallR X (.builtin "isinstance") (rIsi K) := by subst h; exact call_isi
end
/-! ### great products -/
theorem big_mul {i j : Int} (hi : i.natAbs < 2 ^ 4000) (hj : j.natAbs < 2 ^ 4000) : CMulX i j := mulx_ok hi hj (by decide)
/-! ### sums of multiples of rows -/
def combN (rs : List (List Int)) (fs : List Int) (w : Nat) : Nat → List Int
  | 0 => List.replicate w 0
  | n + 1 => List.zipWith (fun a b => a + fs.getD n 0 * b) (combN rs fs w n) (rs.getD n [])
theorem combN_len {rs : List (List Int)} {fs : List Int} {w : Nat} (h : ∀ r ∈ rs, r.length = w) : ∀ n, n ≤ rs.length → (combN rs fs w n).length = w
  | 0, _ => List.length_replicate
  | n + 1, hn => by
    rw [combN, List.length_zipWith, combN_len h n (by omega), List.getD_eq_getElem?_getD, List.getElem?_eq_getElem (by omega), Option.getD_some, h _ (List.getElem_mem _)]
    omega
theorem combN_at {rs : List (List Int)} {fs : List Int} {w i c : Nat} (hi : i < rs.length) (hf : i < fs.length) (c1 : c < (combN rs fs w i).length) (c2 : c < rs[i].length) : (combN rs fs w (i + 1))[c]? = some ((combN rs fs w i)[c] + fs[i] * rs[i][c]) := by
  have g1 : fs.getD i 0 = fs[i] := by rw [List.getD_eq_getElem?_getD, List.getElem?_eq_getElem hf]; rfl
  have g2 : rs.getD i [] = rs[i] := by rw [List.getD_eq_getElem?_getD, List.getElem?_eq_getElem hi]; rfl
  rw [combN, List.getElem?_zipWith, g1, g2, List.getElem?_eq_getElem c1, List.getElem?_eq_getElem c2]
end Z
set_option Elab.async false
set_option linter.all false
set_option maxRecDepth 100000
set_option maxHeartbeats 4000000
namespace Z
open PySem PySem.Spec PyProof.Rows L2
open C8 (pss_cut tCut)
local macro_rules | `(tactic| walk_at "num") => `(tactic| first | omega | decide | exact ⟨by omega, by omega⟩ | exact ⟨by omega, by omega, by omega⟩ | exact ⟨by decide, by decide, by decide⟩ | exact Or.inl ⟨by omega, by omega⟩ | exact Or.inr ⟨by omega, by omega⟩)
local macro_rules | `(tactic| walk_at "go") => `(tactic| repeat (first | refine ⟨_, rfl, ?_⟩ | refine ⟨_, _, rfl, rfl, ?_⟩ | refine ⟨_, _, rfl, rfl, (by walk_at "num"), ?_⟩ | refine Or.inl ⟨_, rfl, ?_⟩ | refine ⟨rfl, ?_⟩ | refine And.intro (by walk_at "num") ?_))
def topS (i : Nat) : Stmt := PySem.Challenge.pw_signedpacts_k69_owed_and_net.main.body.getD i (.Pass ⟨0, 0, 0, 0⟩)
abbrev s_cell : Stmt := topS 17
abbrev N_cell : List Str := ["_law_script", "_law_k"]
abbrev P_cell : List Str := ["_law_script", "_law_k"]
theorem sc_cell : FnScope N_cell P_cell (defScope s_cell) := ⟨rfl, rfl, rfl, by decide +kernel, rfl, by decide +kernel, by decide +kernel⟩
abbrev s_draws : Stmt := topS 18
abbrev N_draws : List Str := ["_law_cell_here", "_law_many", "_law_rest", "_law_large", "_law_seed", "_law_found", "_law_k"]
abbrev P_draws : List Str := ["_law_cell_here", "_law_many"]
theorem sc_draws : FnScope N_draws P_draws (defScope s_draws) := ⟨rfl, rfl, rfl, by decide +kernel, rfl, by decide +kernel, by decide +kernel⟩
abbrev s_take : Stmt := topS 19
abbrev N_take : List Str := ["_law_draws_here", "_law_place"]
abbrev P_take : List Str := ["_law_draws_here", "_law_place"]
theorem sc_take : FnScope N_take P_take (defScope s_take) := ⟨rfl, rfl, rfl, by decide +kernel, rfl, by decide +kernel, by decide +kernel⟩
abbrev FnP (K : PySem.W.Frag) (x : Str) (st : Stmt) (f : Addr) (fd : FuncData) : Prop := FunD K x x (defArgs st) (defBody st) (defScope st) [] [] f fd
section
variable {P : Program} {w : World} {K : PySem.W.Frag} {mg : Str → Option Value} {base : Heap} {f : Addr} {fd : FuncData}
theorem cal_of {k : Nat} {x : Str} {st : Stmt} {ps : List Str} {sp : Sp} (F : FnP K x st f fd) (g : mg x = some (.ref f)) (b : Binds K fd ps []) (h : FnOk P w K mg base CX0 k f fd ps sp) : Cal P w K mg base k x sp := ⟨f, fd, ps, h, g, F.kp, b⟩
/-! ### _law_cell -/
def spCell (K : PySem.W.Frag) : Sp := fun vs H Q _ => ∃ (a : Addr) (ns : List Int) (k : Nat), vs = [.ref a, .int (k : Int)] ∧ SqL K H a (ns.map V.int) ∧ Q (.int (ns.getD k 0)) H
theorem ok_cell (F : FnP K "_law_cell" s_cell f fd) (m_len : mg "len" = none) (m_int : mg "int" = none) : FnOk P w K mg base CX0 1 f fd P_cell (spCell K) := by
  refine F.ok sc_cell (fun vs H Q E h => ?_) (fun cdv A outer s H vs Q E hr h => ?_)
  · obtain ⟨a, ns, k, rfl, _⟩ := h
    rfl
  · obtain ⟨a, ns, k, rfl, hS, q⟩ := h
    refine ⟨_, PSs.nox (pss_cons (ps_if (pt_cmpR op_lt (pv 1) (pe_callB call_len_seq (by rfl) m_len PySem.boot_len (pa_cons (pv 0) pa_nil)) (nomark _)) (pss_one (ps_ret (pe_callTy call_int1 (by rfl) m_int (by decide +kernel) (pa_cons (pe_ix ix_list (pv 0) (pv 1) (fun _ _ => rfl)) pa_nil)))) pss_nil)
      (pss_one (ps_ret pe_int))), ?_⟩
    walk_at "go"
    refine ⟨a, _, rfl, .inl hS, ?_⟩
    walk_at "go"
    rw [List.length_map]
    refine ite2 (fun e => ?_) (fun e => ?_)
    · have hk : k < ns.length := by have := of_decide_eq_true e; omega
      walk_at "go"
      refine ⟨a, _, _, _, rfl, rfl, hS, at_map (List.getElem?_eq_getElem hk), ?_⟩
      walk_at "go"
      rw [List.getD_eq_getElem?_getD, List.getElem?_eq_getElem hk] at q
      exact q
    · have hk : ¬ k < ns.length := fun z => e (decide_eq_true (by omega))
      rw [List.getD_eq_getElem?_getD, List.getElem?_eq_none (by omega)] at q
      exact q
/-! ### _law_draws -/
def Dr (n : Nat) (ds : List Int) : Prop := ds.length = n ∧ ∀ d ∈ ds, 0 ≤ d ∧ d < 1000000
def spDraws : Sp := fun vs H Q _ => ∃ (c : Int) (n : Nat), vs = [.int c, .int (n : Int)] ∧ n ≤ 100000 ∧ ∀ p ds, H p = none → Dr n ds → Q (.ref p) (upd H p (.lst (ds.map V.int)))
theorem ok_draws (F : FnP K "_law_draws" s_draws f fd) (m_int : mg "int" = none) (m_abs : mg "abs" = none) (m_range : mg "range" = none) : FnOk P w K mg base CX0 1 f fd P_draws spDraws := by
  refine F.ok sc_draws (fun vs H Q E h => ?_) (fun cdv A outer s H vs Q E hr h => ?_)
  · obtain ⟨c, n, rfl, _⟩ := h
    rfl
  · obtain ⟨c, n, rfl, hn, q⟩ := h
    refine ⟨_, PSs.nox (pss_cons (ps_set (i := 2) sc_draws.nd rfl (by first | exact .inl rfl | exact .inr rfl) (pe_callB call_abs (by rfl) m_abs (by decide +kernel) (pa_cons (pe_callTy call_int1 (by rfl) m_int (by decide +kernel) (pa_cons (pv 0) pa_nil)) pa_nil)))
      (pss_cons (ps_set (i := 3) sc_draws.nd rfl (by first | exact .inl rfl | exact .inr rfl) (pe_cmpR op_ge (pv 2) (pe_op op_pow pe_int pe_int) (nomark _)))
      (pss_cons (ps_set (i := 4) sc_draws.nd rfl (by first | exact .inl rfl | exact .inr rfl) (pe_op op_mod (pe_callTy call_int1 (by rfl) m_int (by decide +kernel) (pa_cons (pv 2) pa_nil)) pe_int))
      (pss_cons (ps_set (i := 5) sc_draws.nd rfl (by first | exact .inl rfl | exact .inr rfl) (pe_lst pa_nil))
      (pss_cons (ps_for PassesOwn.never rfl (pi_range1 (by rfl) m_range (pa_cons (pv 1) pa_nil)) (pg_name (i := 6) sc_draws.nd rfl (by first | exact .inl rfl | exact .inr rfl))
        (pss_cons (ps_set (i := 4) sc_draws.nd rfl (by first | exact .inl rfl | exact .inr rfl) (pe_op op_mod (pe_callTy call_int1 (by rfl) m_int (by decide +kernel) (pa_cons (pe_op op_add (pe_op op_add (pe_op op_mul (pv 4) pe_int) (pe_op op_mul pe_int (pv 6))) pe_int) pa_nil)) pe_int))
      (pss_one (ps_if (PW.pt (pw_and (pt_val (pv 3)) (pw_and1 (pt_cmpR op_gt (pv 2) pe_int (nomark _))))) (pss_cons (ps_expr (pe_bm PySem.F.plainAttrs_list PySem.F.slot_list_append PySem.F.type_list_append mt_append (pv 5) (pa_cons (pe_op op_mod (pe_callTy call_int1 (by rfl) m_int (by decide +kernel) (pa_cons (pv 2) pa_nil)) pe_int) pa_nil)))
      (pss_one (ps_set (i := 2) sc_draws.nd rfl (by first | exact .inl rfl | exact .inr rfl) (pe_op op_fdiv (pv 2) pe_int)))) (pss_one (ps_expr (pe_bm PySem.F.plainAttrs_list PySem.F.slot_list_append PySem.F.type_list_append mt_append (pv 5) (pa_cons (pe_op op_mod (pe_callTy call_int1 (by rfl) m_int (by decide +kernel) (pa_cons (pe_op op_fdiv (pe_op op_mod (pe_callTy call_int1 (by rfl) m_int (by decide +kernel) (pa_cons (pe_op op_add (pe_op op_mul (pv 4) pe_int) (pe_op op_mul pe_int (pv 6))) pa_nil)) pe_int) pe_int) pa_nil)) pe_int) pa_nil))))))))
      (pss_one (ps_ret (pv 5)))))))), ?_⟩
    walk_at "go"
    intro p np
    walk_at "go"
    refine for_gen (n := n) (fun i σ H1 => ∃ (r : Int) (z : Int) (ds : List Int) (v : Option V), 0 ≤ r ∧ 0 ≤ z ∧ z < 2147483647 ∧ Dr i ds ∧ H1 = upd H p (.lst (ds.map V.int)) ∧
      σ = [some (.int c), some (.int (n : Int)), some (.int r), some (.bl (decide ((10 : Int) ^ 18 ≤ (if c < 0 then -c else c)))), some (.int z), some (.ref p), v]) ?_ ?_ ?_ ?_ ?_
    · refine ⟨_, _, [], none, ?_, ?_, ?_, ⟨rfl, fun d hd => nomatch hd⟩, rfl, rfl⟩
      · split <;> omega
      · omega
      · omega
    · intro i σ H1 hi _
      show i < (n : Int).toNat
      omega
    · intro σ H1 _
      show (n : Int).toNat ≤ n
      omega
    · rintro i σ H1 x H' hi ⟨r, z, ds, v, hr0, hz0, hz1, hd, rfl, rfl⟩ ⟨rfl, rfl⟩
      have hlen : (ds.map V.int).length < sizeLine := by
        rw [List.length_map, hd.1]
        exact Nat.lt_of_lt_of_le hi (Nat.le_trans hn (by decide))
      have fin : ∀ (r' z' d : Int) (u : Option V), 0 ≤ r' → 0 ≤ z' → z' < 2147483647 → 0 ≤ d → d < 1000000 → ∃ (r : Int) (z : Int) (es : List Int) (v : Option V), 0 ≤ r ∧ 0 ≤ z ∧ z < 2147483647 ∧ Dr (i + 1) es ∧ upd (upd H p (.lst (ds.map V.int))) p (.lst (ds.map V.int ++ [.int d])) = upd H p (.lst (es.map V.int)) ∧
          [some (.int c), some (.int (n : Int)), some (.int r'), some (.bl (decide ((10 : Int) ^ 18 ≤ (if c < 0 then -c else c)))), some (.int z'), some (.ref p), u] = [some (.int c), some (.int (n : Int)), some (.int r), some (.bl (decide ((10 : Int) ^ 18 ≤ (if c < 0 then -c else c)))), some (.int z), some (.ref p), v] := by
        intro r' z' d u a1 a2 a3 a4 a5
        refine ⟨r', z', ds ++ [d], u, a1, a2, a3, ⟨by rw [List.length_append, hd.1]; rfl, fun x hx => ?_⟩, ?_, rfl⟩
        · rcases List.mem_append.mp hx with h | h
          · exact hd.2 x h
          · rw [List.mem_singleton.mp h]
            exact ⟨a4, a5⟩
        · rw [upd_upd, List.map_append]
          rfl
      walk_at "go"
      refine ite2 (fun e => ?_) (fun e => ?_)
      · walk_at "go"
        refine ite2 (fun e2 => ?_) (fun e2 => ?_)
        · walk_at "go"
          refine ⟨.inl ⟨rfl, _, .inl (.inl upd_same)⟩, ?_⟩
          walk_at "go"
          refine ⟨_, _, _, rfl, rfl, upd_same, hlen, ?_⟩
          walk_at "go"
          exact fin _ _ _ _ (by omega) (by omega) (by omega) (by omega) (by omega)
        · walk_at "go"
          refine ⟨.inl ⟨rfl, _, .inl (.inl upd_same)⟩, ?_⟩
          walk_at "go"
          refine ⟨_, _, _, rfl, rfl, upd_same, hlen, ?_⟩
          walk_at "go"
          exact fin _ _ _ _ (by omega) (by omega) (by omega) (by omega) (by omega)
      · walk_at "go"
        refine ⟨.inl ⟨rfl, _, .inl (.inl upd_same)⟩, ?_⟩
        walk_at "go"
        refine ⟨_, _, _, rfl, rfl, upd_same, hlen, ?_⟩
        walk_at "go"
        exact fin _ _ _ _ (by omega) (by omega) (by omega) (by omega) (by omega)
    · rintro σ H1 ⟨r, z, ds, v, hr0, hz0, hz1, hd, rfl, rfl⟩
      walk_at "go"
      exact q p ds np hd
/-! ### _law_take -/
def spTake (K : PySem.W.Frag) : Sp := fun vs H Q _ => ∃ (a p : Addr) (n m : Nat) (ds : List Int), vs = [.ref a, .ref p] ∧ SqL K H a (ds.map V.int) ∧ Dr n ds ∧ H p = some (.lst [.int (m : Int)]) ∧ a ≠ p ∧ ∀ r : Int, 0 ≤ r → r < 1000000 → Q (.int r) (upd H p (.lst [.int ((m + 1 : Nat) : Int)]))
theorem ok_take (F : FnP K "_law_take" s_take f fd) (m_len : mg "len" = none) : FnOk P w K mg base CX0 1 f fd P_take (spTake K) := by
  refine F.ok sc_take (fun vs H Q E h => ?_) (fun cdv A outer s H vs Q E hr h => ?_)
  · obtain ⟨a, p, n, m, ds, rfl, _⟩ := h
    rfl
  · obtain ⟨a, p, n, m, ds, rfl, hS, hd, hp, ne, q⟩ := h
    refine ⟨_, PSs.nox (pss_cons (ps_asg (pe_op op_add (pe_ix ix_list (pv 1) pe_int (fun _ _ => rfl)) pe_int) (pg_sub (pv 1) pe_int set_list))
      (pss_cons (ps_if (pt_cmpR op_gt (pe_ix ix_list (pv 1) pe_int (fun _ _ => rfl)) (pe_callB call_len_seq (by rfl) m_len PySem.boot_len (pa_cons (pv 0) pa_nil)) (nomark _)) (pss_one (ps_ret pe_int)) pss_nil)
      (pss_one (ps_ret (pe_ix ix_list (pv 0) (pe_op op_sub (pe_ix ix_list (pv 1) pe_int (fun _ _ => rfl)) pe_int) (fun _ _ => rfl)))))), ?_⟩
    have sb : SB p H (upd H p (.lst [.int ((m + 1 : Nat) : Int)])) := SB.upd (Z.Same.sb (Same.refl H))
    have hS' := sb.sq ne hS
    walk_at "go"
    refine ⟨p, _, 0, _, rfl, rfl, SqL.of hp, rfl, ?_⟩
    walk_at "go"
    refine ⟨p, _, 0, 0, rfl, rfl, hp, rfl, ?_⟩
    show tSeq _ _ _ _ (upd H p (.lst [.int ((m : Int) + 1)]))
    rw [show ((m : Int) + 1) = ((m + 1 : Nat) : Int) by omega]
    walk_at "go"
    refine ⟨p, _, 0, _, rfl, rfl, SqL.of upd_same, rfl, ?_⟩
    walk_at "go"
    refine ⟨a, _, rfl, .inl hS', ?_⟩
    walk_at "go"
    rw [List.length_map]
    refine ite2 (fun e => ?_) (fun e => ?_)
    · exact q 0 (by omega) (by omega)
    · have hk : m < ds.length := by
        apply Decidable.byContradiction
        intro z
        exact e (decide_eq_true (by omega))
      walk_at "go"
      refine ⟨p, _, 0, _, rfl, rfl, SqL.of upd_same, rfl, ?_⟩
      walk_at "go"
      refine ⟨a, _, _, _, rfl, rfl, hS', at_of (by omega) (show (ds.map V.int)[m]? = some (.int ds[m]) by rw [List.getElem?_map, List.getElem?_eq_getElem hk]; rfl), ?_⟩
      have h1 := hd.2 ds[m] (List.getElem_mem hk)
      exact q _ h1.1 h1.2
end
end Z
set_option Elab.async false
set_option linter.all false
set_option maxRecDepth 100000
set_option maxHeartbeats 4000000
namespace Z
open PySem PySem.Spec PyProof.Rows L2
/-! ### own classes: making, methods, calls of instances, == -/
structure Mak (P : Program) (w : World) (K : PySem.W.Frag) (mg : Str → Option Value) (base : Heap) (k : Nat) (x : Str) (sp : Sp) : Prop where
  ex : ∃ (C f : Addr) (fd : FuncData) (ps : List Str) (si : Sp), Mk K C f ∧ FnOk P w K mg base CX0 k f fd ps si ∧ mg x = some (.ref C) ∧ Binds K fd ps [] ∧
    ∀ vs H Q E, sp vs H Q E → ∀ n dx, H n = none → H dx = none → dx ≠ n → si (.ref n :: vs) (upd (upd H dx (.own n)) n (.ins C dx [])) (fun v H2 => v = .non ∧ Q (.ref n) H2) E
structure Met (P : Program) (w : World) (K : PySem.W.Frag) (mg : Str → Option Value) (base : Heap) (k : Nat) (C : Addr) (m : Str) (sp : Sp) : Prop where
  ex : ∃ (f : Addr) (fd : FuncData) (ps : List Str), Cls K C ∧ Meth K C m f ∧ FnOk P w K mg base CX0 k f fd ps sp ∧ Binds K fd ps []
section
variable {X : Cx} {k j : Nat} {x m : Str} {sp : Sp} {C : Addr} {p pos apos : Pos} {e o : Expr} {es : List Expr} {t : TA} {ta : TE}
theorem pe_mk (c : Mak X.prog X.w X.K X.mg X.base k x sp) (hr : Room j X.A) (hk : k + 1 ≤ j) (hg : Gl X x) (ha : PA X (e :: es) t)
    (hdb : (x == ("__debug__" : Str)) = false := by decide) (he : starEach (e :: es) X.env = (false, eval e X.env) :: starEach es X.env := by rfl) (hpl : (backTo pos (starEach es X.env)).any (·.1) = false := by rfl) : PE X (.Call (.Name x p) (e :: es) [] pos) (tCall sp [] E0 t) := by
  obtain ⟨C, f, fd, ps, si, M, F, hm, b, imp⟩ := c.ex
  constructor
  intro pins s σ H Q I h
  refine wpAny_Call_Name_kw (ld_glob I hg hm ?_ hdb)
  refine PySem.W.callWith_K (h₀ := X.base) I.ok.mod.kin M.kp (thn (ha.run pos pins s σ H _ I h) fun us s1 ⟨vs, H1, I1, r, q⟩ => ⟨I1.kIn, ?_⟩) he hpl
  have q2 : sp vs H1 Q E0 := by
    have z : sp (vs ++ []) H1 Q E0 := q
    rw [List.append_nil] at z
    exact z
  refine run_make (dvs := []) M F (hr.mono hk) b .nil pass0 I1 r (fun n dx n1 n2 n3 => ?_)
  rw [List.append_nil]
  exact imp _ _ _ _ q2 n dx n1 n2 n3
theorem pe_me {pl : Sem Bool} (c : Met X.prog X.w X.K X.mg X.base k C m sp) (he : PE X o ta) (hr : Room j X.A) (hk : k ≤ j) (ha : PA X (e :: es) t)
    (hst : starEach (e :: es) X.env = (false, eval e X.env) :: starEach es X.env := by rfl) (hpl : (backTo pos (starEach es X.env)).any (·.1) = false := by rfl)
    (ht : eval (.Call (.Attribute o m apos) (e :: es) [] pos) X.env = (do
      let ov ← eval o X.env
      standAt apos.atName
      let (f, first) ← holding [ov] (getMethod ov m pl)
      callWith pos f first (backTo pos (starEach (e :: es) X.env)) (backToKw pos (keywordEach [] X.env))) := by rfl) : PE X (.Call (.Attribute o m apos) (e :: es) [] pos) (tMeth C m sp [] E0 ta t) := by
  obtain ⟨f, fd, ps, cl, me, F, b⟩ := c.ex
  exact pe_meth he cl me F (hr.mono hk) b .nil pass0 ha hst hpl ht
theorem pe_me0 {pl : Sem Bool} (c : Met X.prog X.w X.K X.mg X.base k C m sp) (he : PE X o ta) (hr : Room j X.A) (hk : k ≤ j)
    (ht : eval (.Call (.Attribute o m apos) [] [] pos) X.env = (do
      let ov ← eval o X.env
      standAt apos.atName
      let (f, first) ← holding [ov] (getMethod ov m pl)
      callWith pos f first (backTo pos (starEach [] X.env)) (backToKw pos (keywordEach [] X.env))) := by rfl) : PE X (.Call (.Attribute o m apos) [] [] pos) (tMeth C m sp [] E0 ta tNil) := by
  obtain ⟨f, fd, ps, cl, me, F, b⟩ := c.ex
  exact pe_meth0 he cl me F (hr.mono hk) b .nil pass0 ht
end
/-! ### f(e, ..), f an instance of C -/
structure Cob (P : Program) (w : World) (K : PySem.W.Frag) (mg : Str → Option Value) (base : Heap) (k : Nat) (C : Addr) (sp : Sp) : Prop where
  ex : ∃ g : Addr, StX.CallO K C g ∧ FnR P w K mg base CX0 k g sp
def tCo (C : Addr) (sp : Sp) (tf : TE) (t : TA) : TE := fun σ H Q => tf σ H fun y H1 => ∃ a, y = V.ref a ∧ t σ H1 fun vs H2 => (∃ dx fs, H2 a = some (.ins C dx fs)) ∧ sp (V.ref a :: vs) H2 Q E0
section
variable {X : Cx} {k j : Nat} {sp : Sp} {C : Addr} {pos : Pos} {e fe : Expr} {es : List Expr} {t : TA} {tf : TE}
theorem pe_co (c : Cob X.prog X.w X.K X.mg X.base k C sp) (hf : PE X fe tf) (hr : Room j X.A) (hk : k ≤ j) (ha : PA X (e :: es) t)
    (ht : eval (.Call fe (e :: es) [] pos) X.env = (do callWith pos (← eval fe X.env) [] (backTo pos (starEach (e :: es) X.env)) (backToKw pos (keywordEach [] X.env))) := by rfl)
    (he : starEach (e :: es) X.env = (false, eval e X.env) :: starEach es X.env := by rfl) (hpl : (backTo pos (starEach es X.env)).any (·.1) = false := by rfl) : PE X (.Call fe (e :: es) [] pos) (tCo C sp tf t) := by
  obtain ⟨g, co, F⟩ := c.ex
  constructor
  intro pins s σ H Q I h
  refine Call_ (thn (hf.run pins s σ H _ I h) fun u s1 ⟨y, H1, I1, ry, a, ey, q⟩ => ?_) ht
  subst ey
  obtain rfl : u = Value.ref a := ry
  refine StX.callO_with (thn (ha.run pos pins s1 σ H1 _ I1 q) fun us s2 ⟨vs, H2, I2, r, hi, q2⟩ => ?_) he hpl
  have hi2 : StX.InsC X H2 a C := .inr hi
  obtain ⟨ox, od, J, hd⟩ := StX.insC_at I2 hi2
  exact ⟨⟨C, ox, od, J, hd⟩, StX.run_callO co F (hr.mono hk) pass0 I2 hi2 r q2⟩
end
/-! ### a == b by the class's own __eq__ -/
structure Eqo (P : Program) (w : World) (K : PySem.W.Frag) (mg : Str → Option Value) (base : Heap) (k : Nat) (C : Addr) (sp : Sp) : Prop where
  ex : ∃ (f : Addr) (fd : FuncData) (ps : List Str), FnOk P w K mg base CX0 k f fd ps sp ∧ PySem.W.findIn K (.ref C) "__eq__" = some (some (.ref f)) ∧ PySem.W.isFn K (.ref f) = true ∧ Binds K fd ps []
def rOwn (C : Addr) (sp : Sp) : R2 := fun x y H Q => ∃ a b dx dy fs gs, x = .ref a ∧ y = .ref b ∧ H a = some (.ins C dx fs) ∧ H b = some (.ins C dy gs) ∧ sp [.ref a, .ref b] H (fun v H' => ∃ r, v = .bl r ∧ Q v H') E0
theorem op_own {X : Cx} {k j : Nat} {C : Addr} {sp : Sp} (c : Eqo X.prog X.w X.K X.mg X.base k C sp) (hr : Room j X.A) (hk : k ≤ j) : OpR X (compareOp .Eq) (rOwn C sp) := by
  intro pins s σ H x y v u Q I rx ry hq
  obtain ⟨f, fd, ps, F, hs, hf, hb⟩ := c.ex
  obtain ⟨a, b, dx, dy, fs, gs, rfl, rfl, ha, hb', q⟩ := hq
  cases rx
  cases ry
  obtain ⟨mA, J, _⟩ := ins_get I.hok ha
  obtain ⟨mB, J', _⟩ := ins_get I.hok hb'
  obtain ⟨od, J, _⟩ := J.look
  obtain ⟨od', J', _⟩ := J'.look
  obtain ⟨m, hF⟩ := I.fr
  show wpAny (model X.prog X.w) X.A (richCompare .Eq (Value.ref a) (Value.ref b)) (EP X pins σ Q) X.xe s
  refine PySem.W.cmp_K (op := .Eq) (tb := .ref C) (hr.mono hk).units0 hF I.ok.mod.kin J J'.type (by simp [PySem.W.notFirst]) hs hf ?_
  have r2 : Vals [V.ref a, V.ref b] [Value.ref a, Value.ref b] := .cons rfl (.cons rfl .nil)
  refine thn (run_fn (dvs := []) F (hr.mono hk) hb .nil pass0 I r2 q) fun r s' z => ?_
  obtain ⟨v, H', I', rv, b', rfl, q'⟩ := z
  cases rv
  exact ⟨.bl b', H', I', rfl, q'⟩
end Z
set_option Elab.async false
set_option linter.all false
set_option maxRecDepth 100000
set_option maxHeartbeats 4000000
namespace Z
open PySem PySem.Spec PyProof.Rows L2
/-! ### comprehensions that give ints, over a list of ints and over a range -/
theorem lc_ofs {K : PySem.W.Frag} {J : It} {D : Addr} {n : Nat} {H0 : Hp} {i : Nat} {te : TE} {vs : List Nat} {σ : L2.St} {Qd : Hp → Prop} (g : Nat → Int) (xv : Nat → V) (hn : n ≤ 1000000) (nD : H0 D = none)
    (hgo : ∀ k H1, k < n → Same H0 H1 → J.go k H1) (hst : ∀ H1, Same H0 H1 → J.stop n H1) (hy : ∀ k H1 x H2, k < n → Same H0 H1 → J.yld k H1 x H2 → H2 = H1 ∧ x = xv k)
    (hw : ∀ k, wipe ((wipe σ vs).set i (some (xv k))) vs = wipe σ vs)
    (ht : ∀ k H1 (Q : VK), k < n → Same H0 H1 → (∀ H2, Same H1 H2 → Q (.int (g k)) H2) → te ((wipe σ vs).set i (some (xv k))) H1 Q)
    (hd : ∀ H1, Same H0 H1 → H1 D = some (.lst (((List.range n).map g).map V.int)) → Qd H1) : lcW J (gName i) tYes te vs σ D Qd H0 := by
  refine lc_gen (n := n) (fun k H1 => Same H0 H1 ∧ H1 D = some (.lst (((List.range k).map g).map V.int))) ⟨same_new nD, upd_same⟩ (fun k H1 hk p => hgo k H1 hk p.1) (fun H1 p => hst H1 p.1) ?_ (fun H1 p => hd H1 p.1 p.2)
  rintro k H1 x H2 hk ⟨s, e⟩ y
  obtain ⟨rfl, rfl⟩ := hy k H1 x H2 hk s y
  refine ⟨hw k, ?_⟩
  refine ht k _ _ hk s (fun H3 s3 => ⟨_, s3 _ _ e, ?_, Z.Same.mut (s.trans s3) nD, ?_⟩)
  · rw [List.length_map, List.length_map, List.length_range]
    exact Nat.lt_of_lt_of_le hk (Nat.le_trans hn (by decide))
  · rw [upd_same, List.range_succ, List.map_append, List.map_append]
    rfl
theorem lc_rng {K : PySem.W.Frag} {lo : Int} {D : Addr} {n : Nat} {H0 : Hp} {i : Nat} {te : TE} {vs : List Nat} {σ : L2.St} {Qd : Hp → Prop} (g : Nat → Int) (hn : n ≤ 1000000) (nD : H0 D = none) (hw : ∀ k : Nat, wipe ((wipe σ vs).set i (some (.int (lo + k)))) vs = wipe σ vs)
    (ht : ∀ (k : Nat) H1 (Q : VK), k < n → Same H0 H1 → (∀ H2, Same H1 H2 → Q (.int (g k)) H2) → te ((wipe σ vs).set i (some (.int (lo + k)))) H1 Q)
    (hd : ∀ H1, Same H0 H1 → H1 D = some (.lst (((List.range n).map g).map V.int)) → Qd H1) : lcW (Itr lo n) (gName i) tYes te vs σ D Qd H0 :=
  lc_ofs (K := K) g (fun k => .int (lo + k)) hn nD (fun k H1 hk _ => hk) (fun H1 _ => Nat.le_refl _) (fun k H1 x H2 _ _ y => y) hw ht hd
theorem lc_lst {K : PySem.W.Frag} {a D : Addr} {xs : List Int} {H0 : Hp} {i : Nat} {te : TE} {vs : List Nat} {σ : L2.St} {Qd : Hp → Prop} (hS : SqL K H0 a (xs.map V.int)) (g : Int → Int) (hn : xs.length ≤ 1000000) (nD : H0 D = none) (hw : ∀ x : Int, wipe ((wipe σ vs).set i (some (.int x))) vs = wipe σ vs)
    (ht : ∀ x H1 (Q : VK), x ∈ xs → Same H0 H1 → (∀ H2, Same H1 H2 → Q (.int (g x)) H2) → te ((wipe σ vs).set i (some (.int x))) H1 Q)
    (hd : ∀ H1, Same H0 H1 → H1 D = some (.lst ((xs.map g).map V.int)) → Qd H1) : lcW (Itl K a) (gName i) tYes te vs σ D Qd H0 := by
  have ex : ∀ k, k < xs.length → (xs.map V.int)[k]? = some (.int (xs.getD k 0)) := fun k hk => by
    rw [List.getElem?_map, List.getD_eq_getElem?_getD, List.getElem?_eq_getElem hk]
    rfl
  refine lc_ofs (K := K) (n := xs.length) (fun k => g (xs.getD k 0)) (fun k => .int (xs.getD k 0)) hn nD (fun k H1 hk s => ⟨_, _, s.seq hS, ex k hk⟩) (fun H1 s => ⟨_, s.seq hS, by rw [List.length_map]; exact Nat.le_refl _⟩) (fun k H1 x H2 hk s y => ⟨y.1, Option.some.inj ((y.2 _ (s.seq hS)).symm.trans (ex k hk))⟩) (fun k => hw _) (fun k H1 Q hk s q => ht _ H1 Q ?_ s q) (fun H1 s e => hd H1 s ?_)
  · rw [List.getD_eq_getElem?_getD, List.getElem?_eq_getElem hk]
    exact List.getElem_mem hk
  · rw [e]
    congr 2
    congr 1
    apply List.ext_getElem
    · rw [List.length_map, List.length_map, List.length_range]
    · intro k h1 h2
      rw [List.length_map] at h2
      rw [List.getElem_map, List.getElem_map, List.getElem_range, List.getD_eq_getElem?_getD, List.getElem?_eq_getElem h2]
      rfl
/-- for x in xs, ints -/
theorem for_lst {K : PySem.W.Frag} {a : Addr} {xs : List Int} {H0 H : Hp} {i : Nat} {tb : TS} {D : Ends} {σ : L2.St} (hS : SqL K H0 a (xs.map V.int)) (Pv : Nat → L2.St → Hp → Prop) (h0 : Pv 0 σ H) (hq : ∀ k σ H1, Pv k σ H1 → Same H0 H1)
    (hs : ∀ (k : Nat) (x : Int) (σ : L2.St) (H1 : Hp), xs[k]? = some x → Pv k σ H1 → tb { D with nx := Pv (k + 1), ct := Pv (k + 1), bk := D.nx } (σ.set i (some (.int x))) H1)
    (hd : ∀ σ H1, Pv xs.length σ H1 → D.nx σ H1) : forW (Itl K a) (gName i) tb D σ H := by
  have ex : ∀ k, k < xs.length → (xs.map V.int)[k]? = some (.int (xs.getD k 0)) := fun k hk => by
    rw [List.getElem?_map, List.getD_eq_getElem?_getD, List.getElem?_eq_getElem hk]
    rfl
  refine for_gen (n := xs.length) Pv h0 (fun k σ H1 hk p => ⟨_, _, (hq k σ H1 p).seq hS, ex k hk⟩) (fun σ H1 p => ⟨_, (hq _ σ H1 p).seq hS, by rw [List.length_map]; exact Nat.le_refl _⟩) ?_ hd
  intro k σ H1 x H2 hk p y
  obtain ⟨rfl, e⟩ := y
  have e2 := Option.some.inj ((e _ ((hq k σ _ p).seq hS)).symm.trans (ex k hk))
  subst e2
  refine hs k _ σ _ ?_ p
  rw [List.getD_eq_getElem?_getD, List.getElem?_eq_getElem hk]
  rfl
/-- for x in xs, any values -/
theorem for_vs {K : PySem.W.Frag} {a : Addr} {xs : List V} {H0 H : Hp} {i : Nat} {tb : TS} {D : Ends} {σ : L2.St} (hS : SqL K H0 a xs) (Pv : Nat → L2.St → Hp → Prop) (h0 : Pv 0 σ H) (hq : ∀ k σ H1, Pv k σ H1 → Same H0 H1)
    (hs : ∀ (k : Nat) (x : V) (σ : L2.St) (H1 : Hp), xs[k]? = some x → Pv k σ H1 → tb { D with nx := Pv (k + 1), ct := Pv (k + 1), bk := D.nx } (σ.set i (some x)) H1)
    (hd : ∀ σ H1, Pv xs.length σ H1 → D.nx σ H1) : forW (Itl K a) (gName i) tb D σ H := by
  refine for_gen (n := xs.length) Pv h0 (fun k σ H1 hk p => ⟨_, _, (hq k σ H1 p).seq hS, List.getElem?_eq_getElem hk⟩) (fun σ H1 p => ⟨_, (hq _ σ H1 p).seq hS, Nat.le_refl _⟩) ?_ hd
  intro k σ H1 x H2 hk p y
  obtain ⟨rfl, e⟩ := y
  exact hs k x σ _ (e _ ((hq k σ _ p).seq hS)) p
theorem pe_fld_K {X : Cx} {K : PySem.W.Frag} {e : Expr} {f : Str} {pos : Pos} {ta : TE} (h : X.K = K) (he : PE X e ta) (hb : attributeBase e f X.env (eval e X.env) = eval e X.env) : PE X (.Attribute e f pos) (tFld K ta f) := by
  subst h
  exact pe_fld he hb
/-! ### reads -/
theorem at_nat {xs : List Int} {i : Int} (h0 : 0 ≤ i) (h1 : i < xs.length) : atI (xs.map V.int) i = some (.int (xs.getD i.toNat 0)) := by
  have hk : i.toNat < xs.length := by omega
  rw [show i = ((i.toNat : Nat) : Int) by omega, List.getD_eq_getElem?_getD, Int.toNat_natCast, List.getElem?_eq_getElem hk]
  exact at_map (List.getElem?_eq_getElem hk)
theorem rd_at {K : PySem.W.Frag} {H : Hp} {a : Addr} {xs : List Int} {i : Int} {R : V → Prop} (h : SqL K H a (xs.map V.int)) (h0 : 0 ≤ i) (h1 : i < xs.length) (q : R (.int (xs.getD i.toNat 0))) : ∃ a' ys j v, V.ref a = .ref a' ∧ V.int i = .int j ∧ SqL K H a' ys ∧ atI ys j = some v ∧ R v := ⟨a, _, i, _, rfl, rfl, h, at_nat h0 h1, q⟩
theorem rd_atT {K : PySem.W.Frag} {H : Hp} {a : Addr} {xs : List Int} {i : Int} {R : V → Prop} (h : SqT K H a (xs.map V.int)) (h0 : 0 ≤ i) (h1 : i < xs.length) (q : R (.int (xs.getD i.toNat 0))) : ∃ a' ys j v, V.ref a = .ref a' ∧ V.int i = .int j ∧ SqT K H a' ys ∧ atI ys j = some v ∧ R v := ⟨a, _, i, _, rfl, rfl, h, at_nat h0 h1, q⟩
end Z
set_option Elab.async false
set_option linter.all false
set_option maxRecDepth 100000
set_option maxHeartbeats 4000000
namespace Z
open PySem PySem.Spec PyProof.Rows L2
/-! ### enumerate(x) of one argument: x a list, a tuple or a text -/
theorem enum_new1 {v : Value} {o : Obj} {G : Heap → Prop} (B : Begins v o G) :
    Meets (Builtin.«enumerate.__new__» ⟨[.type "enumerate", v], []⟩) (fun _ R s => G s.heap ∧
      R (.ok (.ret (.ref (s.heap.push o).objs.size))) { s with heap := (s.heap.push o).push { cls := .type "enumerate", data := .fields #[.none, .bool false, .ref s.heap.objs.size, rawInt 0, .none, .none] } }) :=
  .of_wp fun prog w A R s h => by
    obtain ⟨hp, gl, dd, tok, oo⟩ := s
    obtain ⟨g1, h⟩ := h
    have hsub := sub_enumerate
    have step : ∀ {A' : Around} {E : Value → Shared → Prop} {Q : Value → Shared → Prop}, Q (.ref hp.objs.size) ⟨hp.push o, gl, dd, tok, oo⟩ → wpAny (model prog w) A' (pyIter v) Q E ⟨hp, gl, dd, tok, oo⟩ := fun z => B.iter prog w _ _ ⟨hp, gl, dd, tok, oo⟩ _ g1 z
    wp_walk using step
    refine wpAny_stack_any fun _ => wpAny_pure ?_
    split
    · rename_i cc _ _ _ _ _
      cases (cc == Value.type "enumerate") <;>
        (wp_walk using step
         exact ⟨_, rfl, h⟩)
    · wp_walk using step
      exact ⟨_, rfl, h⟩
section
variable {prog : Program} {w : World} {A : Around} {E : Value → Shared → Prop} {s : Shared}
theorem enum_begins1 {v : Value} {o : Obj} {G : Heap → Prop} {Q : Value → Shared → Prop} (B : Begins v o G) (g : G s.heap)
    (h : ∀ h', IsEnum h' (s.heap.objs.size + 1) s.heap.objs.size 0 .none → h'.get? s.heap.objs.size = some o → (∀ b ob, s.heap.get? b = some ob → h'.get? b = some ob) → Q (.ref (s.heap.objs.size + 1)) { s with heap := h' }) :
    wpAny (model prog w) A (call (.type "enumerate") [v]) Q E s := by
  refine callType_new F.called_enumerate (by decide) (F.typeCall_enumerate_1 v) (F.newCall_enumerate_1 v) (fun ob => F.args_object_init_2 ob _) F.entry_enumerate_new (enum_new1 B) ⟨g, ?_⟩
  have sz : (s.heap.push o).objs.size = s.heap.objs.size + 1 := Heap.size_push ..
  show _ ∧ _
  rw [sz]
  have ie : IsEnum ((s.heap.push o).push { cls := .type "enumerate", data := .fields #[.none, .bool false, .ref s.heap.objs.size, rawInt 0, .none, .none] }) (s.heap.objs.size + 1) s.heap.objs.size 0 .none := by
    have z := Heap.get?_push_size (s.heap.push o) (o := { cls := .type "enumerate", data := .fields #[.none, .bool false, .ref s.heap.objs.size, rawInt 0, .none, .none] }) rfl
    rw [sz] at z
    exact z
  exact ⟨⟨_, ie, rfl⟩, h _ ie (Heap.get?_push_of_some _ (Heap.get?_push_size _ B.free)) fun b ob z => Heap.get?_push_of_some _ (Heap.get?_push_of_some _ z)⟩
end
/-- pairs of a turn's number and its item -/
def ItEM (p : Bool) (K : PySem.W.Frag) (a : Addr) : It :=
  ⟨fun i H => ∃ (xs : List V) (x : V), SqK p K H a xs ∧ xs[i]? = some x,
   fun i H v H' => ∃ T x, v = .ref T ∧ H T = none ∧ H' = upd H T (.tup [.int (i : Nat), x]) ∧ (∀ xs, SqK p K H a xs → xs[i]? = some x),
   fun i H => ∃ xs : List V, SqK p K H a xs ∧ xs.length = i⟩
def ItES (z : Str) : It :=
  ⟨fun i _ => i < z.cps.size,
   fun i H v H' => ∃ T c, v = .ref T ∧ H T = none ∧ H' = upd H T (.tup [.int (i : Nat), .str ⟨#[c]⟩]) ∧ z.cps[i]? = some c,
   fun i _ => z.cps.size = i⟩
theorem enum_item {X : Cx} {pins : List (Addr × Obj)} {σ : L2.St} {H : Hp} {s : Shared} {e it : Addr} {fp : List Addr} {n i : Nat} {Pi : Nat → Value → Prop} {Si : Nat → Heap → Prop} {old : Value} {elts : List Expr} {kk : Nat} {tpos : Pos} {E : Value → Shared → Prop}
    (I : Inv X pins σ H s) (hf : ∀ b ∈ [e, it], FpOk X pins H b) (D : Draws X.prog X.w X.A.in1 it fp n Pi Si) (he : IsEnum s.heap e it ((i : Nat) : Int) old) (st : Si i s.heap) (lt : i < n) (ne : e ≠ it) (ef : e ∉ fp)
    (x : V) (ru : ∀ v, Pi i v → L2.RelV x v) :
    wpAny (model X.prog X.w) X.A (pyNext (.ref e)) (fun r s1 => ∃ u, r = some u ∧ wpAny (model X.prog X.w) X.A (letOwnedTupleGo (.Tuple elts kk tpos) (.ref e) u) (fun _ s2 => ∃ T, u = .ref T ∧ H T = none ∧ Inv X pins σ (upd H T (.tup [.int (i : Nat), x])) s2 ∧ (∃ o, IsEnum s2.heap e it ((i + 1 : Nat) : Int) o) ∧ Si (i + 1) s2.heap ∧ ∀ b ∈ [e, it], upd H T (.tup [.int (i : Nat), x]) b = none) E s1) E s := by
  have el : e < s.heap.objs.size := Heap.lt_size he
  have il : it < s.heap.objs.size := by
    obtain ⟨_, z⟩ := D.live _ _ st
    exact Heap.lt_size z
  refine wpAny_pyNext_enum_itemC D he st lt ne ef fun v g tk pv go st' gT gs gk => ?_
  refine ⟨_, rfl, wpAny_letOwnedTupleGo_enum (s := { s with heap := g, toks := tk + 1 }) go fun g2 ge sb => ?_⟩
  have gT2 : g2.get? s.heap.objs.size = some { cls := .type "tuple", data := .seq #[.int i tk, v] } := (sb.2 _ (Nat.ne_of_gt el)).trans gT
  have nw : ObjOk X.prog X.w (upd H s.heap.objs.size (.tup [.int (i : Nat), x])) g2 s.heap.objs.size (.tup [.int (i : Nat), x]) := ⟨by show 2 ≤ sizeLine; decide, [.int i tk, v], .cons ⟨tk, rfl⟩ (.cons (ru v pv) .nil), ⟨_, gT2, rfl, _, rfl⟩⟩
  have I1 : Inv X pins σ (upd H s.heap.objs.size (.tup [.int (i : Nat), x])) { s with heap := g2, toks := tk + 1 } :=
    I.turnedNew (t' := tk + 1) (ch := [e, it]) (fun b ob nb z => (sb.2 b (fun w => nb (by simp [w]))).trans (gk b ob (fun w => nb (by simp [w])) (fun w => nb (by simp [w])) z)) hf (Nat.le_refl _) nw
  refine ⟨_, rfl, I.hok.fresh (Nat.le_refl _), I1, ⟨v, ?_⟩, D.frame _ _ _ st' fun b hb o z => (sb.2 b fun w => ef (w ▸ hb)).trans z, fun b hb => ?_⟩
  · rw [show ((i + 1 : Nat) : Int) = (i : Int) + 1 by omega]
    exact ge
  · have lb : b < s.heap.objs.size := by
      rcases (show b = e ∨ b = it by simpa using hb) with z | z
      · rw [z]
        exact el
      · rw [z]
        exact il
    rw [upd_ne (Nat.ne_of_lt lb)]
    exact (hf b hb).1
theorem enum_done {X : Cx} {pins : List (Addr × Obj)} {σ : L2.St} {H : Hp} {s : Shared} {e it : Addr} {fp : List Addr} {n : Nat} {Pi : Nat → Value → Prop} {Si : Nat → Heap → Prop} {old : Value} {c : Int} {E : Value → Shared → Prop}
    (I : Inv X pins σ H s) (hf : ∀ b ∈ [e, it], FpOk X pins H b) (D : Draws X.prog X.w X.A.in1 it fp n Pi Si) (he : IsEnum s.heap e it c old) (st : Si n s.heap) :
    wpAny (model X.prog X.w) X.A (pyNext (.ref e)) (fun r s1 => r = none ∧ Inv X pins σ H s1) E s := by
  obtain ⟨f0, f1, f2, f3, f4, f5⟩ := hf it (by simp)
  exact wpAny_pyNext_enum_endD D he st fun g gk => ⟨rfl, I.turned (t' := s.toks) (fun b o hb z => gk b o hb z) f0 f1 f3 f4 f5⟩
theorem turn_enumM {p : Bool} {P : Program} {w : World} {K : PySem.W.Frag} {elts : List Expr} {kk : Nat} {tpos : Pos} (a e it : Addr) (ea : e ≠ a) (ia : a ≠ it) :
    Turn P w K (.Tuple elts kk tpos) (ItEM p K a) [e, it] e (fun i h => (∃ old, IsEnum h e it ((i : Nat) : Int) old) ∧ ItK p h it a i ∧ e ≠ it) where
  mem := by simp
  obj := fun i h st b hb => by
    obtain ⟨⟨old, he⟩, hi, _⟩ := st
    rcases (show b = e ∨ b = it by simpa using hb) with z | z
    · rw [z]
      exact ⟨_, he, fun v q => nomatch q⟩
    · rw [z]
      exact hi.obj
  keep := fun i h h' st k => by
    obtain ⟨⟨old, he⟩, hi, ne⟩ := st
    exact ⟨⟨old, k e (by simp) _ he⟩, hi.at' (fun o z => k it (by simp) o z), ne⟩
  item := by
    intro X hP hw hK hc i pins s σ H E I hf st hg
    subst hP hw hK
    obtain ⟨⟨old, he⟩, hi, ne⟩ := st
    obtain ⟨xs, x, qx, ex⟩ := hg
    obtain ⟨us, rx, kx, _⟩ := sqk_is I qx
    obtain ⟨u, eu, ru⟩ := rx.get ex
    have lu : i < us.toArray.size := by simpa using (List.getElem?_eq_some_iff.mp eu).1
    have hh : X.A.in1.handled = none := I.ok.hd hc
    have key : ∀ v, us.toArray[i]? = some v → L2.RelV x v := fun v pv => by
      have t1 : us.toArray[i]? = some u := by simpa using eu
      have t2 : u = v := Option.some.inj (t1.symm.trans pv)
      exact t2 ▸ ru
    refine thn (enum_item (elts := elts) (kk := kk) (tpos := tpos) (E := E) I hf (drawsK p hh it a ia us.toArray) he ⟨hi, kx⟩ lu ne (by simp [ne, ea]) x key) fun r s1 hr => ?_
    obtain ⟨v, er, hv⟩ := hr
    refine ⟨v, er, thn hv fun _ s2 z => ?_⟩
    obtain ⟨T, eT, nT, I2, ie, si, fr⟩ := z
    subst eT
    exact ⟨.ref T, _, I2, rfl, ⟨T, x, rfl, nT, rfl, fun l hl => by rw [sqk_inj I hl qx]; exact ex⟩, ⟨ie, si.1, ne⟩, fr⟩
  done := by
    intro X hP hw hK hc i pins s σ H E I hf st hg
    subst hP hw hK
    obtain ⟨⟨old, he⟩, hi, ne⟩ := st
    obtain ⟨xs, qx, el⟩ := hg
    obtain ⟨us, rx, kx, _⟩ := sqk_is I qx
    have lx := rx.length
    have hh : X.A.in1.handled = none := I.ok.hd hc
    have hn : us.toArray.size = i := by
      rw [List.size_toArray]
      omega
    exact enum_done I hf (drawsK p hh it a ia us.toArray) he (by rw [hn]; exact ⟨hi, kx⟩)
  self := fun A i s Q E st h => by
    obtain ⟨⟨_, he⟩, _⟩ := st
    exact wpAny_pyIter_enum he h
def iEnumM (K : PySem.W.Frag) (ta : TA) : TI := fun σ H R => ta σ H fun vs H1 => ∃ p a xs, vs = [.ref a] ∧ SqK p K H1 a xs ∧ R (ItEM p K a) H1
theorem pi_enumM {X : Cx} {e : Expr} {ta : TA} {p pos tpos : Pos} {elts : List Expr} {kk : Nat} (hg : Gl X "enumerate") (hm : X.mg "enumerate" = none) (ha : PA X [e] ta) (hs : starEach [e] X.env = [(false, eval e X.env)] := by rfl) :
    PI X (.Tuple elts kk tpos) (.Call (.Name "enumerate" p) [e] [] pos) (iEnumM X.K ta) := by
  constructor
  intro pins s σ H R I h
  refine Call_ (ld_blt I hg hm PyProof.Rows.boot_enumerate (PyProof.Rows.callWith_type1 (thn (ha.run pos pins s σ H _ I h) fun us s1 ⟨vs, H1, I1, r1, q1⟩ => ?_) hs rfl))
  obtain ⟨k1, a, xs, ex, qx, q⟩ := q1
  subst ex
  cases r1 with
  | cons r rr =>
    cases rr
    cases r
    obtain ⟨i1, _, p1, lt1⟩ := sqk_is I1 qx
    obtain ⟨o1, G1, B1, g1, w1⟩ := begK p1
    refine enum_begins1 B1 g1 fun h' he e1 hk => wpAny_pyIter_enum he ?_
    have I2 : Inv X pins σ H1 { s1 with heap := h' } := I1.kept (t' := s1.toks) hk
    refine ⟨s1.heap.objs.size + 1, [s1.heap.objs.size + 1, s1.heap.objs.size], _, _, H1, rfl, I2, turn_enumM a (s1.heap.objs.size + 1) s1.heap.objs.size (Nat.ne_of_gt (Nat.lt_succ_of_lt lt1)) (Nat.ne_of_lt lt1), ⟨⟨.none, he⟩, w1 _ _ e1, Nat.succ_ne_self _⟩, fun b hb => ?_, q⟩
    have lb : s1.heap.objs.size ≤ b := by
      rcases (show b = s1.heap.objs.size + 1 ∨ b = s1.heap.objs.size by simpa using hb) with z | z
      · rw [z]
        exact Nat.le_add_right _ _
      · rw [z]
        exact Nat.le_refl _
    exact I1.fpOk lb (I1.hok.fresh lb)
/-! over a text -/
theorem drawsS {prog : Program} {w : World} {A : Around} (hh : A.handled = none) (it : Addr) (z : Str) (t : Tok) :
    Draws prog w A it [it] z.cps.size (fun i v => ∃ c u, z.cps[i]? = some c ∧ v = .str ⟨#[c]⟩ u) (fun i h => h.IsStrIter it (strIterType z) z t i) := by
  unfold strIterType
  cases z.cps.all (· < 128)
  · exact Draws.strWide hh it z t
  · exact Draws.strAscii hh it z t
theorem turn_enumS {P : Program} {w : World} {K : PySem.W.Frag} {elts : List Expr} {kk : Nat} {tpos : Pos} (z : Str) (t : Tok) (e it : Addr) :
    Turn P w K (.Tuple elts kk tpos) (ItES z) [e, it] e (fun i h => (∃ old, IsEnum h e it ((i : Nat) : Int) old) ∧ h.IsStrIter it (strIterType z) z t i ∧ e ≠ it) where
  mem := by simp
  obj := fun i h st b hb => by
    obtain ⟨⟨old, he⟩, ⟨o, eo, _, d⟩, _⟩ := st
    rcases (show b = e ∨ b = it by simpa using hb) with y | y
    · rw [y]
      exact ⟨_, he, fun v q => nomatch q⟩
    · rw [y]
      exact ⟨o, eo, fun v q => by rw [d] at q; cases q⟩
  keep := fun i h h' st k => by
    obtain ⟨⟨old, he⟩, ⟨o, eo, r⟩, ne⟩ := st
    exact ⟨⟨old, k e (by simp) _ he⟩, ⟨o, k it (by simp) o eo, r⟩, ne⟩
  item := by
    intro X hP hw hK hc i pins s σ H E I hf st hg
    subst hP hw hK
    obtain ⟨⟨old, he⟩, hi, ne⟩ := st
    have lt : i < z.cps.size := hg
    have hh : X.A.in1.handled = none := I.ok.hd hc
    have ec : z.cps[i]? = some z.cps[i] := Array.getElem?_eq_getElem lt
    refine thn (enum_item (elts := elts) (kk := kk) (tpos := tpos) (E := E) I hf (drawsS hh it z t) he hi lt ne (by simp [ne]) (.str ⟨#[z.cps[i]]⟩) (fun v pv => ?_)) fun r s1 hr => ?_
    · obtain ⟨c, u, e1, e2⟩ := pv
      rw [ec] at e1
      cases e1
      subst e2
      exact ⟨u, rfl⟩
    obtain ⟨v, er, hv⟩ := hr
    refine ⟨v, er, thn hv fun _ s2 y => ?_⟩
    obtain ⟨T, eT, nT, I2, ie, si, fr⟩ := y
    subst eT
    exact ⟨.ref T, _, I2, rfl, ⟨T, _, rfl, nT, rfl, ec⟩, ⟨ie, si, ne⟩, fr⟩
  done := by
    intro X hP hw hK hc i pins s σ H E I hf st hg
    subst hP hw hK
    obtain ⟨⟨old, he⟩, hi, ne⟩ := st
    have el : z.cps.size = i := hg
    have hh : X.A.in1.handled = none := I.ok.hd hc
    exact enum_done I hf (drawsS hh it z t) he (by rw [el]; exact hi)
  self := fun A i s Q E st h => by
    obtain ⟨⟨_, he⟩, _⟩ := st
    exact wpAny_pyIter_enum he h
def iEnumS (ta : TA) : TI := fun σ H R => ta σ H fun vs H1 => ∃ z, vs = [.str z] ∧ R (ItES z) H1
theorem pi_enumS {X : Cx} {e : Expr} {ta : TA} {p pos tpos : Pos} {elts : List Expr} {kk : Nat} (hg : Gl X "enumerate") (hm : X.mg "enumerate" = none) (ha : PA X [e] ta) (hs : starEach [e] X.env = [(false, eval e X.env)] := by rfl) :
    PI X (.Tuple elts kk tpos) (.Call (.Name "enumerate" p) [e] [] pos) (iEnumS ta) := by
  constructor
  intro pins s σ H R I h
  refine Call_ (ld_blt I hg hm PyProof.Rows.boot_enumerate (PyProof.Rows.callWith_type1 (thn (ha.run pos pins s σ H _ I h) fun us s1 ⟨vs, H1, I1, r1, q1⟩ => ?_) hs rfl))
  obtain ⟨z, ex, q⟩ := q1
  subst ex
  cases r1 with
  | cons r rr =>
    cases rr
    obtain ⟨t, rfl⟩ := r
    refine enum_begins1 (begins_text z t) trivial fun h' he e1 hk => wpAny_pyIter_enum he ?_
    have I2 : Inv X pins σ H1 { s1 with heap := h' } := I1.kept (t' := s1.toks) hk
    refine ⟨s1.heap.objs.size + 1, [s1.heap.objs.size + 1, s1.heap.objs.size], _, _, H1, rfl, I2, turn_enumS z t (s1.heap.objs.size + 1) s1.heap.objs.size, ⟨⟨.none, he⟩, ⟨_, e1, rfl, rfl⟩, Nat.succ_ne_self _⟩, fun b hb => ?_, q⟩
    have lb : s1.heap.objs.size ≤ b := by
      rcases (show b = s1.heap.objs.size + 1 ∨ b = s1.heap.objs.size by simpa using hb) with y | y
      · rw [y]
        exact Nat.le_add_right _ _
      · rw [y]
        exact Nat.le_refl _
    exact I1.fpOk lb (I1.hok.fresh lb)
end Z
set_option Elab.async false
set_option linter.all false
set_option maxRecDepth 100000
set_option maxHeartbeats 4000000
namespace Z
open PySem PySem.Spec PyProof.Rows L2
/-! ### walks over a list (true) or a tuple (false) -/
inductive SeqOr (A B : Prop) : Prop
  | l : A → SeqOr A B
  | r : B → SeqOr A B
def iSeq (K : PySem.W.Frag) (tl : TE) : TI := fun σ H R => SeqOr (iList K tl σ H R) (iTup K tl σ H R)
theorem pi_sq {X : Cx} {tg l : Expr} {tl : TE} (he : PE X l tl) : PI X tg l (iSeq X.K tl) := by
  constructor
  intro pins s σ H R I h
  rcases h with h | h
  · exact (pi_list he).run pins s σ H R I h
  · exact (pi_tup he).run pins s σ H R I h
theorem pi_sq_K {X : Cx} {K : PySem.W.Frag} {tg l : Expr} {tl : TE} (h : X.K = K) (he : PE X l tl) : PI X tg l (iSeq K tl) := by
  subst h
  exact pi_sq he
theorem pi_list_K {X : Cx} {K : PySem.W.Frag} {tg l : Expr} {tl : TE} (h : X.K = K) (he : PE X l tl) : PI X tg l (iList K tl) := by
  subst h
  exact pi_list he
theorem pi_tup_K {X : Cx} {K : PySem.W.Frag} {tg l : Expr} {tl : TE} (h : X.K = K) (he : PE X l tl) : PI X tg l (iTup K tl) := by
  subst h
  exact pi_tup he
def ItQ (b : Bool) (K : PySem.W.Frag) (a : Addr) : It := match b with
  | true => Itl K a
  | false => Itt K a
theorem itq_go {b : Bool} {K : PySem.W.Frag} {H : Hp} {a : Addr} {xs : List V} {i : Nat} {x : V} (h : SqK b K H a xs) (e : xs[i]? = some x) : (ItQ b K a).go i H := by
  cases b <;> exact ⟨_, _, h, e⟩
theorem itq_stop {b : Bool} {K : PySem.W.Frag} {H : Hp} {a : Addr} {xs : List V} {i : Nat} (h : SqK b K H a xs) (e : xs.length ≤ i) : (ItQ b K a).stop i H := by
  cases b <;> exact ⟨_, h, e⟩
theorem itq_yld {b : Bool} {K : PySem.W.Frag} {H H' : Hp} {a : Addr} {xs : List V} {i : Nat} {x : V} (h : SqK b K H a xs) (y : (ItQ b K a).yld i H x H') : H' = H ∧ xs[i]? = some x := by
  cases b <;> exact ⟨y.1, y.2 _ h⟩
theorem rd_sq {b : Bool} {K : PySem.W.Frag} {σ : L2.St} {H : Hp} {i : Nat} {a : Addr} {xs : List V} {R : It → Hp → Prop} (e : σ[i]? = some (some (.ref a))) (h : SqK b K H a xs) (r : R (ItQ b K a) H) : iSeq K (tVar i) σ H R := by
  cases b
  · exact .r ⟨_, e, a, rfl, ⟨xs, h⟩, r⟩
  · exact .l ⟨_, e, a, rfl, ⟨xs, h⟩, r⟩
theorem lc_sq {b : Bool} {K : PySem.W.Frag} {a D : Addr} {xs : List Int} {H0 : Hp} {i : Nat} {te : TE} {vs : List Nat} {σ : L2.St} {Qd : Hp → Prop} (hS : SqK b K H0 a (xs.map V.int)) (g : Int → Int) (hn : xs.length ≤ 1000000) (nD : H0 D = none) (hw : ∀ x : Int, wipe ((wipe σ vs).set i (some (.int x))) vs = wipe σ vs)
    (ht : ∀ x H1 (Q : VK), x ∈ xs → Same H0 H1 → (∀ H2, Same H1 H2 → Q (.int (g x)) H2) → te ((wipe σ vs).set i (some (.int x))) H1 Q)
    (hd : ∀ H1, Same H0 H1 → H1 D = some (.lst ((xs.map g).map V.int)) → Qd H1) : lcW (ItQ b K a) (gName i) tYes te vs σ D Qd H0 := by
  have ex : ∀ k, k < xs.length → (xs.map V.int)[k]? = some (.int (xs.getD k 0)) := fun k hk => by
    rw [List.getElem?_map, List.getD_eq_getElem?_getD, List.getElem?_eq_getElem hk]
    rfl
  refine lc_ofs (K := K) (n := xs.length) (fun k => g (xs.getD k 0)) (fun k => .int (xs.getD k 0)) hn nD (fun k H1 hk s => itq_go (Z.Same.sqK s hS) (ex k hk)) (fun H1 s => itq_stop (Z.Same.sqK s hS) (by rw [List.length_map]; exact Nat.le_refl _)) (fun k H1 x H2 hk s y => ?_) (fun k => hw _) (fun k H1 Q hk s q => ht _ H1 Q ?_ s q) (fun H1 s e => hd H1 s ?_)
  · obtain ⟨e1, e2⟩ := itq_yld (Z.Same.sqK s hS) y
    exact ⟨e1, Option.some.inj (e2.symm.trans (ex k hk))⟩
  · rw [List.getD_eq_getElem?_getD, List.getElem?_eq_getElem hk]
    exact List.getElem_mem hk
  · rw [e]
    congr 2
    congr 1
    apply List.ext_getElem
    · rw [List.length_map, List.length_map, List.length_range]
    · intro k h1 h2
      rw [List.length_map] at h2
      rw [List.getElem_map, List.getElem_map, List.getElem_range, List.getD_eq_getElem?_getD, List.getElem?_eq_getElem h2]
      rfl
/-- for x in xs, any values -/
theorem for_sq {b : Bool} {K : PySem.W.Frag} {a : Addr} {xs : List V} {H0 H : Hp} {i : Nat} {tb : TS} {D : Ends} {σ : L2.St} (hS : SqK b K H0 a xs) (Pv : Nat → L2.St → Hp → Prop) (h0 : Pv 0 σ H) (hq : ∀ k σ H1, Pv k σ H1 → Same H0 H1)
    (hs : ∀ (k : Nat) (x : V) (σ : L2.St) (H1 : Hp), xs[k]? = some x → Pv k σ H1 → tb { D with nx := Pv (k + 1), ct := Pv (k + 1), bk := D.nx } (σ.set i (some x)) H1)
    (hd : ∀ σ H1, Pv xs.length σ H1 → D.nx σ H1) : forW (ItQ b K a) (gName i) tb D σ H := by
  refine for_gen (n := xs.length) Pv h0 (fun k σ H1 hk p => itq_go (Z.Same.sqK (hq k σ H1 p) hS) (List.getElem?_eq_getElem hk)) (fun σ H1 p => itq_stop (Z.Same.sqK (hq _ σ H1 p) hS) (Nat.le_refl _)) ?_ hd
  intro k σ H1 x H2 hk p y
  obtain ⟨rfl, e⟩ := itq_yld (Z.Same.sqK (hq k σ H1 p) hS) y
  exact hs k x σ _ e p
/-- for i, x in enumerate(xs) -/
theorem for_enum {b : Bool} {K : PySem.W.Frag} {a : Addr} {xs : List V} {H0 H : Hp} {i j : Nat} {tb : TS} {D : Ends} {σ : L2.St} (hS : SqK b K H0 a xs) (Pv : Nat → L2.St → Hp → Prop) (h0 : Pv 0 σ H) (hq : ∀ k σ H1, Pv k σ H1 → Same H0 H1)
    (hs : ∀ (k : Nat) (x : V) (σ : L2.St) (H1 H2 : Hp), xs[k]? = some x → Pv k σ H1 → Same H1 H2 → tb { D with nx := Pv (k + 1), ct := Pv (k + 1), bk := D.nx } ((σ.set i (some (.int (k : Nat)))).set j (some x)) H2)
    (hd : ∀ σ H1, Pv xs.length σ H1 → D.nx σ H1) : forW (ItEM b K a) (gTup K 2 (gCons (gName i) (gCons (gName j) gNil))) tb D σ H := by
  refine for_gen (n := xs.length) Pv h0 (fun k σ H1 hk p => ⟨xs, _, Z.Same.sqK (hq k σ H1 p) hS, List.getElem?_eq_getElem hk⟩) (fun σ H1 p => ⟨xs, Z.Same.sqK (hq _ σ H1 p) hS, rfl⟩) ?_ hd
  intro k σ H1 x H2 hk p y
  obtain ⟨T, z, rfl, nT, rfl, e⟩ := y
  exact ⟨T, _, rfl, SqT.of upd_same, rfl, _, _, rfl, _, _, rfl, rfl, hs k z σ H1 _ (e _ (Z.Same.sqK (hq k σ H1 p) hS)) p (same_new nT)⟩
/-- for i, c in enumerate(text) -/
theorem for_enumS {K : PySem.W.Frag} {z : Str} {H : Hp} {i j : Nat} {tb : TS} {D : Ends} {σ : L2.St} (Pv : Nat → L2.St → Hp → Prop) (h0 : Pv 0 σ H)
    (hs : ∀ (k : Nat) (c : Nat) (σ : L2.St) (H1 H2 : Hp), z.cps[k]? = some c → Pv k σ H1 → Same H1 H2 → tb { D with nx := Pv (k + 1), ct := Pv (k + 1), bk := D.nx } ((σ.set i (some (.int (k : Nat)))).set j (some (.str ⟨#[c]⟩))) H2)
    (hd : ∀ σ H1, Pv z.cps.size σ H1 → D.nx σ H1) : forW (ItES z) (gTup K 2 (gCons (gName i) (gCons (gName j) gNil))) tb D σ H := by
  refine for_gen (n := z.cps.size) Pv h0 (fun k σ H1 hk p => hk) (fun σ H1 p => rfl) ?_ hd
  intro k σ H1 x H2 hk p y
  obtain ⟨T, c, rfl, nT, rfl, e⟩ := y
  exact ⟨T, _, rfl, SqT.of upd_same, rfl, _, _, rfl, _, _, rfl, rfl, hs k c σ H1 _ e p (same_new nT)⟩
/-! ### built-ins within a comprehension's block -/
theorem cr_min_K {X : Cx} {K : PySem.W.Frag} (h : X.K = K) (hc : X.calm = true) : CallR X (.builtin "min") (rMin K) := by
  subst h
  exact cr_min hc
theorem cr_max_K {X : Cx} {K : PySem.W.Frag} (h : X.K = K) (hc : X.calm = true) : CallR X (.builtin "max") (rMax K) := by
  subst h
  exact cr_max hc
theorem cr_sum_K {X : Cx} {K : PySem.W.Frag} (h : X.K = K) (hc : X.calm = true) : CallR X (.builtin "sum") (rSum K) := by
  subst h
  exact cr_sum hc
theorem cr_all_K {X : Cx} {K : PySem.W.Frag} (h : X.K = K) (hc : X.calm = true) : CallR X (.builtin "all") (rAll K) := by
  subst h
  exact cr_all hc
theorem cr_any_K {X : Cx} {K : PySem.W.Frag} (h : X.K = K) (hc : X.calm = true) : CallR X (.builtin "any") (rAny K) := by
  subst h
  exact cr_any hc
/-! ### comprehensions with a test, any values -/
def fltL (kb : Nat → Bool) (g : Nat → V) (n : Nat) : List V := ((List.range n).filter kb).map g
theorem flt_succ (kb : Nat → Bool) (g : Nat → V) (n : Nat) : fltL kb g (n + 1) = fltL kb g n ++ (if kb n then [g n] else []) := by
  unfold fltL
  rw [List.range_succ, List.filter_append, List.map_append]
  cases e : kb n <;> simp [e]
theorem flt_len (kb : Nat → Bool) (g : Nat → V) (n : Nat) : (fltL kb g n).length ≤ n := by
  unfold fltL
  rw [List.length_map]
  exact Nat.le_trans (List.length_filter_le ..) (by rw [List.length_range]; exact Nat.le_refl _)
theorem lc_flt {J : It} {D : Addr} {n : Nat} {H0 : Hp} {i : Nat} {tt : TT} {te : TE} {vs : List Nat} {σ : L2.St} {Qd : Hp → Prop} (xv : Nat → V) (kb : Nat → Bool) (g : Nat → V) (hn : n ≤ 1000000) (nD : H0 D = none)
    (hgo : ∀ k H1, k < n → Same H0 H1 → J.go k H1) (hst : ∀ H1, Same H0 H1 → J.stop n H1) (hy : ∀ k H1 x H2, k < n → Same H0 H1 → J.yld k H1 x H2 → Same H1 H2 ∧ x = xv k)
    (hw : ∀ k, wipe ((wipe σ vs).set i (some (xv k))) vs = wipe σ vs)
    (hb : ∀ k H1 (Q : Bool → Hp → Prop), k < n → Same H0 H1 → (∀ H2, Same H1 H2 → Q (kb k) H2) → tt ((wipe σ vs).set i (some (xv k))) H1 Q)
    (ht : ∀ k H1 (Q : VK), k < n → kb k = true → Same H0 H1 → (∀ H2, Same H1 H2 → Q (g k) H2) → te ((wipe σ vs).set i (some (xv k))) H1 Q)
    (hd : ∀ H1, Same H0 H1 → H1 D = some (.lst (fltL kb g n)) → Qd H1) : lcW J (gName i) tt te vs σ D Qd H0 := by
  refine lc_gen (n := n) (fun k H1 => Same H0 H1 ∧ H1 D = some (.lst (fltL kb g k))) ⟨same_new nD, upd_same⟩ (fun k H1 hk p => hgo k H1 hk p.1) (fun H1 p => hst H1 p.1) ?_ (fun H1 p => hd H1 p.1 p.2)
  rintro k H1 x H2 hk ⟨s, e⟩ y
  obtain ⟨s2, rfl⟩ := hy k H1 x H2 hk s y
  refine ⟨hw k, ?_⟩
  refine hb k _ _ hk (s.trans s2) (fun H3 s3 => ?_)
  cases eb : kb k
  · rw [if_neg (by decide)]
    refine ⟨s.trans (s2.trans s3), ?_⟩
    rw [flt_succ, eb]
    simpa using s3 _ _ (s2 _ _ e)
  · rw [if_pos rfl]
    refine ht k _ _ hk eb (s.trans (s2.trans s3)) (fun H4 s4 => ⟨_, s4 _ _ (s3 _ _ (s2 _ _ e)), ?_, Z.Same.mut (s.trans (s2.trans (s3.trans s4))) nD, ?_⟩)
    · exact Nat.lt_of_le_of_lt (flt_len kb g k) (Nat.lt_of_lt_of_le hk (Nat.le_trans hn (by decide)))
    · rw [upd_same, flt_succ, eb]
      rfl
end Z
set_option Elab.async false
set_option linter.all false
set_option maxRecDepth 100000
set_option maxHeartbeats 4000000
namespace Z
open PySem PySem.Spec PyProof.Rows L2
open SX (S S_inj S_len S_cat)
theorem none_of {H J : Hp} {p : Addr} (s : Same H J) (n : J p = none) : H p = none := by
  cases e : H p with
  | none => rfl
  | some o =>
    have := s p o e
    rw [n] at this
    cases this
/-! ### pairs of parties as texts, k = 6 * debtor + creditor -/
def kyL (k : Nat) : List Nat := [97 + k / 6, 97 + k % 6]
def ky (k : Nat) : Str := S (kyL k)
def lt1 (i : Nat) : Str := S [97 + i]
theorem ky_inj {j k : Nat} (h : ky j = ky k) : j = k := by
  have e := S_inj h
  unfold kyL at e
  injection e with e1 e2
  injection e2 with e2 _
  omega
theorem lt1_inj {j k : Nat} (h : lt1 j = lt1 k) : j = k := by
  have e := S_inj h
  injection e with e1 _
  omega
def tab (key : Nat → Str) (ks : List Nat) (g : Nat → Int) : List (Key × V) := ks.map fun k => (Sum.inr (key k), V.int (g k))
theorem tab_len (key : Nat → Str) (ks : List Nat) (g : Nat → Int) : (tab key ks g).length = ks.length := List.length_map ..
theorem tab_at {key : Nat → Str} {ks : List Nat} {g : Nat → Int} {i : Nat} (h : i < ks.length) : (tab key ks g)[i]? = some (Sum.inr (key ks[i]), V.int (g ks[i])) := by
  unfold tab
  rw [List.getElem?_map, List.getElem?_eq_getElem h]
  rfl
theorem tab_val {key : Nat → Str} (inj : ∀ a b, key a = key b → a = b) (g : Nat → Int) (k : Nat) : ∀ ks : List Nat, valV (tab key ks g) (Sum.inr (key k)) = if k ∈ ks then some (.int (g k)) else none := by
  intro ks
  induction ks with
  | nil => rfl
  | cons j r ih =>
    by_cases e : j = k
    · subst e
      rw [if_pos List.mem_cons_self]
      exact valV_pos rfl
    · have ne : ¬ (Sum.inr (key j) : Key) = Sum.inr (key k) := fun z => e (inj _ _ (Sum.inr.inj z))
      show valV ((Sum.inr (key j), V.int (g j)) :: tab key r g) _ = _
      rw [valV_neg ne, ih]
      by_cases m : k ∈ r
      · rw [if_pos m, if_pos (List.mem_cons_of_mem _ m)]
      · rw [if_neg m, if_neg (fun z => (List.mem_cons.mp z).elim (fun z => e z.symm) m)]
theorem tab_congr {key : Nat → Str} {ks : List Nat} {g h : Nat → Int} (e : ∀ k ∈ ks, g k = h k) : tab key ks g = tab key ks h :=
  List.map_congr_left fun k hk => by rw [e k hk]
theorem tab_put {key : Nat → Str} (inj : ∀ a b, key a = key b → a = b) (ks : List Nat) (g : Nat → Int) (k : Nat) (v : Int) : putK (tab key ks g) (Sum.inr (key k)) (.int v) = tab key (if k ∈ ks then ks else ks ++ [k]) (fun j => if j = k then v else g j) := by
  unfold putK
  rw [valV_any, tab_val inj]
  by_cases m : k ∈ ks
  · rw [if_pos m, if_pos m]
    rw [if_pos (by rfl)]
    unfold tab
    rw [List.map_map]
    refine List.map_congr_left fun j hj => ?_
    show (if (Sum.inr (key j) : Key) = Sum.inr (key k) then ((Sum.inr (key j) : Key), V.int v) else (Sum.inr (key j), V.int (g j))) = _
    by_cases e : j = k
    · subst e
      rw [if_pos rfl]
      dsimp only
      rw [if_pos rfl]
    · rw [if_neg (fun z => e (inj _ _ (Sum.inr.inj z)))]
      dsimp only
      rw [if_neg e]
  · rw [if_neg m, if_neg m]
    rw [if_neg (by simp)]
    show tab key ks g ++ [(Sum.inr (key k), V.int v)] = _
    rw [tab_congr (h := fun j => if j = k then v else g j) (fun j hj => by rw [if_neg (fun z : j = k => m (z ▸ hj))])]
    unfold tab
    rw [List.map_append, List.map_singleton]
    dsimp only
    rw [if_pos rfl]
theorem tab_filter {key : Nat → Str} (ks : List Nat) (g : Nat → Int) : (tab key ks g).map (fun kv => kV kv.1) = ks.map fun k => V.str (key k) := by
  unfold tab
  rw [List.map_map]
  rfl
/-! ### the order of the texts is the order of the numbers -/
theorem lt_ky {j k : Nat} : ltCps (ky j).cps.toList (ky k).cps.toList = decide (j < k) := by
  show ltCps [97 + j / 6, 97 + j % 6] [97 + k / 6, 97 + k % 6] = _
  unfold ltCps ltCps ltCps
  rw [Bool.eq_iff_iff]
  simp
  omega
theorem rising_ky : ∀ (ks : List Nat) (j : Nat), risingS (ky j) (ks.map ky) = true → (j :: ks).Pairwise (· ≤ ·)
  | [], j, _ => List.pairwise_singleton ..
  | k :: r, j, h => by
    have h' : (!ltCps (ky k).cps.toList (ky j).cps.toList && risingS (ky k) (r.map ky)) = true := h
    rw [lt_ky, Bool.and_eq_true] at h'
    have a : j ≤ k := by
      have := h'.1
      simp at this
      exact this
    have z := rising_ky r k h'.2
    refine List.pairwise_cons.mpr ⟨fun x hx => ?_, z⟩
    rcases List.mem_cons.mp hx with rfl | hx
    · exact a
    · exact Nat.le_trans a ((List.pairwise_cons.mp z).1 x hx)
theorem sorted_ky {ks : List Nat} (h : sortedS (ks.map ky) = true) : ks.Pairwise (· ≤ ·) := by
  cases ks with
  | nil => exact .nil
  | cons k r => exact rising_ky r k h
theorem asc_of_nodup {ks : List Nat} (h : ks.Pairwise (· ≤ ·)) (nd : ks.Nodup) : ks.Pairwise (· < ·) :=
  (h.and nd).imp fun {a b} z => Nat.lt_of_le_of_ne z.1 z.2
theorem asc_extN : ∀ {l m : List Nat}, l.Pairwise (· < ·) → m.Pairwise (· < ·) → (∀ x, x ∈ l ↔ x ∈ m) → l = m
  | [], [], _, _, _ => rfl
  | [], y :: m, _, _, h => absurd ((h y).mpr List.mem_cons_self) (by simp)
  | x :: l, [], _, _, h => absurd ((h x).mp List.mem_cons_self) (by simp)
  | x :: l, y :: m, p, q, h => by
    have p2 := List.pairwise_cons.mp p
    have q2 := List.pairwise_cons.mp q
    have e : x = y := by
      rcases List.mem_cons.mp ((h x).mp List.mem_cons_self) with a | a
      · exact a
      · rcases List.mem_cons.mp ((h y).mpr List.mem_cons_self) with b | b
        · exact b.symm
        · have := q2.1 x a
          have := p2.1 y b
          omega
    subst e
    refine congrArg _ (asc_extN p2.2 q2.2 fun z => ⟨fun hz => ?_, fun hz => ?_⟩)
    · rcases List.mem_cons.mp ((h z).mp (List.mem_cons_of_mem _ hz)) with a | a
      · have := p2.1 z hz
        omega
      · exact a
    · rcases List.mem_cons.mp ((h z).mpr (List.mem_cons_of_mem _ hz)) with a | a
      · have := q2.1 z hz
        omega
      · exact a
theorem perm_ky {ys : List Str} {ks : List Nat} (h : ys.Perm (ks.map ky)) : ∃ js : List Nat, ys = js.map ky ∧ js.Perm ks := by
  obtain ⟨js, p, e⟩ : ∃ js : List Nat, js.Perm ks ∧ ys = js.map ky := by
    generalize e : ks.map ky = zs at h
    induction h generalizing ks with
    | nil =>
      have : ks = [] := by simpa using e
      exact ⟨[], this ▸ .nil, rfl⟩
    | cons x p ih =>
      cases ks with
      | nil => cases e
      | cons k r =>
        injection e with e1 e2
        obtain ⟨js, p', e'⟩ := ih e2
        exact ⟨k :: js, .cons k p', by rw [e', ← e1]; rfl⟩
    | swap x y l =>
      match ks, e with
      | a :: b :: r, e =>
        injection e with e1 e2
        injection e2 with e2 e3
        exact ⟨b :: a :: r, .swap .., by rw [← e1, ← e2, ← e3]; rfl⟩
    | trans p1 p2 ih1 ih2 =>
      obtain ⟨js, q, e'⟩ := ih2 e
      obtain ⟨is, q', e2⟩ := ih1 e'.symm
      exact ⟨is, q'.trans q, e2⟩
  exact ⟨js, e, p⟩
/-! ### sums over rows: a row is a pair (or none) and coins -/
abbrev Rows : Type := List (Option Nat × Int)
def tot (P : Nat → Bool) : Rows → Int
  | [] => 0
  | r :: t => (match r.1 with
    | some k => if P k then r.2 else 0
    | none => 0) + tot P t
def sm (rs : Rows) (k : Nat) : Int := tot (fun j => decide (j = k)) rs
def rcv (rs : Rows) (p : Nat) : Int := tot (fun j => decide (j % 6 = p)) rs
def gvn (rs : Rows) (p : Nat) : Int := tot (fun j => decide (j / 6 = p)) rs
def nt (rs : Rows) (p : Nat) : Int := rcv rs p - gvn rs p
def fP (P : Nat → Bool) (r : Option Nat × Int) : Bool := match r.1 with
  | some k => P k
  | none => false
theorem tot_filter (P : Nat → Bool) : ∀ rs : Rows, ((rs.filter (fP P)).map (·.2)).sum = tot P rs
  | [] => rfl
  | r :: t => by
    have ih := tot_filter P t
    obtain ⟨k, c⟩ := r
    cases k with
    | none =>
      show (((t.filter (fP P)).map (·.2)).sum) = 0 + tot P t
      rw [ih, Int.zero_add]
    | some k =>
      show _ = (if P k then c else 0) + tot P t
      cases e : P k
      · rw [List.filter_cons_of_neg (by show ¬ P k = true; rw [e]; decide), ih, if_neg (by decide), Int.zero_add]
      · rw [List.filter_cons_of_pos (by show P k = true; exact e), if_pos rfl, List.map_cons, List.sum_cons, ih]
theorem tot_append (P : Nat → Bool) : ∀ a b : Rows, tot P (a ++ b) = tot P a + tot P b
  | [], b => by rw [List.nil_append]; show _ = 0 + _; rw [Int.zero_add]
  | r :: t, b => by
    show _ + tot P (t ++ b) = _ + tot P t + tot P b
    rw [tot_append P t b, Int.add_assoc]
theorem tot_nonneg {P : Nat → Bool} : ∀ {rs : Rows}, (∀ r ∈ rs, 0 ≤ r.2) → 0 ≤ tot P rs
  | [], _ => Int.le_refl _
  | r :: t, h => by
    have ih := tot_nonneg (P := P) (rs := t) fun x hx => h x (List.mem_cons_of_mem _ hx)
    have h0 := h r List.mem_cons_self
    obtain ⟨k, c⟩ := r
    cases k with
    | none => show 0 ≤ 0 + tot P t; omega
    | some k =>
      show 0 ≤ (if P k then c else 0) + tot P t
      dsimp only at h0
      split <;> omega
theorem tot_le {P : Nat → Bool} {B : Int} (b0 : 0 ≤ B) : ∀ {rs : Rows}, (∀ r ∈ rs, 0 ≤ r.2 ∧ r.2 ≤ B) → tot P rs ≤ rs.length * B
  | [], _ => by show (0 : Int) ≤ ((0 : Nat) : Int) * B; simp
  | r :: t, h => by
    have ih := tot_le (P := P) b0 (rs := t) fun x hx => h x (List.mem_cons_of_mem _ hx)
    have h0 := h r List.mem_cons_self
    have e : (((r :: t).length : Nat) : Int) * B = (t.length : Int) * B + B := by
      rw [List.length_cons]
      have : ((t.length + 1 : Nat) : Int) = (t.length : Int) + 1 := by omega
      rw [this, Int.add_mul, Int.one_mul]
    rw [e]
    obtain ⟨k, c⟩ := r
    cases k with
    | none => show 0 + tot P t ≤ _; omega
    | some k =>
      show (if P k then c else 0) + tot P t ≤ _
      dsimp only at h0
      split <;> omega
def ent (ks : List Nat) (g : Nat → Int) : Rows := ks.map fun k => (some k, g k)
theorem tot_ent_add (P : Nat → Bool) (g h : Nat → Int) : ∀ ks : List Nat, tot P (ent ks fun k => g k + h k) = tot P (ent ks g) + tot P (ent ks h)
  | [] => rfl
  | k :: r => by
    have ih := tot_ent_add P g h r
    show (if P k then g k + h k else 0) + tot P (ent r fun k => g k + h k) = ((if P k then g k else 0) + tot P (ent r g)) + ((if P k then h k else 0) + tot P (ent r h))
    rw [ih]
    split <;> omega
theorem tot_ent_one (P : Nat → Bool) (j : Nat) (c : Int) : ∀ ks : List Nat, ks.Nodup → tot P (ent ks fun k => if j = k then c else 0) = if j ∈ ks then (if P j then c else 0) else 0
  | [], _ => rfl
  | k :: r, nd => by
    have nd2 := List.nodup_cons.mp nd
    have ih := tot_ent_one P j c r nd2.2
    show (if P k then (if j = k then c else 0) else 0) + tot P (ent r fun k => if j = k then c else 0) = _
    rw [ih]
    by_cases e : j = k
    · subst e
      rw [if_neg nd2.1, if_pos List.mem_cons_self, if_pos rfl, Int.add_zero]
    · rw [if_neg e]
      have z : (if P k = true then (0 : Int) else 0) = 0 := by split <;> rfl
      rw [z, Int.zero_add]
      by_cases m : j ∈ r
      · rw [if_pos m, if_pos (List.mem_cons_of_mem _ m)]
      · rw [if_neg m, if_neg fun z => (List.mem_cons.mp z).elim e m]
theorem tot_ent_zero (P : Nat → Bool) : ∀ ks : List Nat, tot P (ent ks fun _ => 0) = 0
  | [] => rfl
  | k :: r => by
    show (if P k then (0 : Int) else 0) + tot P (ent r fun _ => 0) = 0
    rw [tot_ent_zero P r]
    split <;> rfl
/-- rows summed by pair have the totals of the rows -/
theorem tot_ent (P : Nat → Bool) {ks : List Nat} (nd : ks.Nodup) : ∀ {rs : Rows}, (∀ r ∈ rs, ∀ k, r.1 = some k → k ∈ ks ∨ r.2 = 0) → tot P (ent ks (sm rs)) = tot P rs
  | [], _ => tot_ent_zero P ks
  | r :: t, h => by
    have ih := tot_ent P nd (rs := t) fun x hx => h x (List.mem_cons_of_mem _ hx)
    have h0 := h r List.mem_cons_self
    obtain ⟨k, c⟩ := r
    cases k with
    | none =>
      have e : sm ((none, c) :: t) = sm t := funext fun k => by
        show 0 + tot _ t = tot _ t
        rw [Int.zero_add]
      rw [e, ih]
      show _ = 0 + tot P t
      rw [Int.zero_add]
    | some j =>
      have e : sm ((some j, c) :: t) = fun k => (if j = k then c else 0) + sm t k := funext fun k => by
        show (if decide (j = k) = true then c else 0) + tot _ t = _
        by_cases z : j = k
        · rw [if_pos (decide_eq_true z), if_pos z]
          rfl
        · rw [if_neg (by simpa using z), if_neg z]
          rfl
      rw [e, tot_ent_add, ih, tot_ent_one P j c ks nd]
      show _ = (if P j then c else 0) + tot P t
      rcases h0 j rfl with m | z
      · rw [if_pos m]
      · have z : c = 0 := z
        subst z
        have q : (if P j = true then (0 : Int) else 0) = 0 := by split <;> rfl
        rw [q]
        split <;> rfl
theorem tot_congr (P : Nat → Bool) {g h : Nat → Int} : ∀ {ks : List Nat}, (∀ k ∈ ks, g k = h k) → tot P (ent ks g) = tot P (ent ks h)
  | [], _ => rfl
  | k :: r, e => by
    show (if P k then g k else 0) + tot P (ent r g) = (if P k then h k else 0) + tot P (ent r h)
    rw [e k List.mem_cons_self, tot_congr P fun x hx => e x (List.mem_cons_of_mem _ hx)]
end Z
set_option Elab.async false
set_option linter.all false
set_option maxRecDepth 100000
set_option maxHeartbeats 4000000
namespace Z
open PySem PySem.Spec PyProof.Rows L2
theorem relv_str {x : Str} {t : Tok} : L2.RelV (.str x) (.str x t) := ⟨t, rfl⟩
theorem szl {n : Nat} (h : n ≤ 2000) : n ≤ sizeLine := Nat.le_trans h (by decide)
theorem szlt {n : Nat} (h : n ≤ 2000) : n < sizeLine := Nat.lt_of_le_of_lt h (by decide)
/-! ### list(d.values()) -/
def tListVals (te : TE) : TE := fun σ H Q => te σ H fun x H1 => ∃ (d : Addr) (kvs : List (Key × V)), x = .ref d ∧ H1 d = some (.dK kvs) ∧ ∀ p, H1 p = none → Q (.ref p) (upd H1 p (.lst (kvs.map (·.2))))
theorem kv_vals {κ : Type} : ∀ {kvs : List (κ × V)} {vs : List (κ × Value)} {acc : List Value}, KV kvs vs → acc.length = vs.length → (∀ (j : Nat) v, acc[j]? = some v → ∃ k, vs[j]? = some (k, v)) → Vals (kvs.map (·.2)) acc := by
  intro kvs vs acc h
  unfold KV at h
  induction h generalizing acc with
  | nil =>
    intro hl _
    cases acc with
    | nil => exact .nil
    | cons _ _ => cases hl
  | cons r t ih =>
    intro hl hx
    cases acc with
    | nil => cases hl
    | cons a acc =>
      obtain ⟨k, e⟩ := hx 0 a rfl
      have e := Option.some.inj e
      refine .cons ?_ (ih (by simpa using hl) fun j v e => by simpa using hx (j + 1) v (by simpa using e))
      have r2 := r.2
      rw [e] at r2
      exact r2
section
variable {X : Cx} {e : Expr} {te : TE} {p apos cpos pos : Pos}
theorem pe_listVals (hc : X.calm = true) (he : PE X e te) (hg : Gl X "list") (hm : X.mg "list" = none) (hv : bootBuiltins "list" = some (.type "list")) (hbase : attributeBase e "values" X.env (eval e X.env) = eval e X.env := by rfl) (hline : (apos.endLine == cpos.line) = true := by rfl)
    (hs : starEach [.Call (.Attribute e "values" apos) [] [] cpos] X.env = (false, eval (.Call (.Attribute e "values" apos) [] [] cpos) X.env) :: starEach [] X.env := by rfl) :
    PE X (.Call (.Name "list" p) [.Call (.Attribute e "values" apos) [] [] cpos] [] pos) (tListVals te) := by
  refine ⟨fun pins s σ H Q I hq => ?_⟩
  refine wpAny_Call_Name_kw (ld_blt I hg hm hv ?_)
  refine PyProof.Rows.callWith_type1 ?_ hs rfl
  rw [hs]
  show wpAny _ _ (spliced ((false, eval (.Call (.Attribute e "values" apos) [] [] cpos) X.env) :: backTo pos (starEach [] X.env))) _ _ s
  refine Calls.spliced_cons ?_
  refine wpAny_Call_method (T := "dict") (id := "dict.values") hbase rfl hline F.plainAttrs_dict F.slot_dict_values F.type_dict_values (thn (he.run pins s σ H _ I hq) fun u s1 ⟨x, H1, I1, rx, d, kvs, ex, hd, q⟩ => ?_)
  subst ex
  obtain rfl : u = Value.ref d := rx
  obtain ⟨hz, hs0, vs, kv, hdo⟩ := I1.hok d _ hd
  obtain ⟨ep, hat⟩ := hdo.dictAt
  have lk : kvs.length = vs.length := Paired.length kv
  have I2 : Inv X pins σ H1 { s1 with heap := s1.heap.push { cls := .type "dict_values", data := .fields #[.ref d] } } := I1.kept (t' := s1.toks) fun b ob q => Heap.get?_push_of_some _ q
  refine ⟨hdo.typeIs, hdo.mapOf.noDict, ?_⟩
  show wpAny _ _ (callWith cpos (.builtin "dict.values") [.ref d] [] []) _ X.xe s1
  refine method_meetsIn F.slot_dict_values F.entry_dict_values rfl (PySem.evalArgs_none ⟨rfl, hdo.typeIs, F.args_dict_values_1 _, _, meets_dict_values (mixKind X.prog X.w) d hs0, ⟨vs, hdo⟩, ?_⟩)
  refine Calls.spliced_nil ?_
  refine PySem.W.kdl_call (PySem.W.kdl_values (knd := mixKind X.prog X.w) (kvs := vs) (ep := ep)) (I1.ok.hd hc) ⟨⟨_, Heap.get?_push_size _ rfl, rfl, rfl⟩, hat.push _⟩ (by omega) fun h' tk acc c hk hS hacc => ?_
  have hl : (kvs.map (·.2)).length ≤ sizeLine := by rw [List.length_map]; exact hz
  refine ⟨.ref _, upd H1 _ (.lst (kvs.map (·.2))), I2.laid (t' := tk) hk (Nat.le_refl _) ⟨hl, acc.toList, c, kv_vals kv (by rw [Array.length_toList]; exact hacc.1) (fun j v e => hacc.2 j v (by rw [← Array.getElem?_toList]; exact e)), ?_⟩, rfl, q _ (I2.hok.fresh (Nat.le_refl _))⟩
  rw [Array.toArray_toList]
  exact hS
end
end Z
set_option pp.maxSteps 700
set_option Elab.async false
set_option linter.all false
set_option maxRecDepth 100000
set_option maxHeartbeats 4000000
open SX (S S_inj S_len S_cat)
namespace Z
open PySem PySem.Spec PyProof.Rows L2
open C8 (pss_cut tCut)
local macro_rules | `(tactic| walk_at "num") => `(tactic| first | rfl | omega | decide | exact Nat.le_of_lt (small1000 (by simp)) | exact ⟨by omega, by omega⟩ | exact ⟨by omega, by omega, by omega⟩ | exact ⟨by decide, by decide, by decide⟩ | exact Or.inl ⟨by omega, by omega⟩ | exact Or.inr ⟨by omega, by omega⟩)
local macro_rules | `(tactic| walk_at "go") => `(tactic| repeat (first | refine ⟨_, rfl, ?_⟩ | refine ⟨_, _, rfl, rfl, ?_⟩ | refine ⟨_, _, rfl, ?_⟩ | (refine ⟨_, _, rfl, rfl, ?_, ?_⟩; focus walk_at "num") | refine Or.inl ⟨_, rfl, ?_⟩ | refine ⟨_, _, _, _, rfl, rfl, (by assumption), (by rfl), ?_⟩ | refine ⟨_, _, _, _, _, rfl, (by assumption), (by assumption), (by assumption), (by rfl), ?_⟩ | refine ⟨rfl, ?_⟩ | (refine And.intro ?_ ?_; focus walk_at "num")))
abbrev s_is_transfer : Stmt := topS 5
abbrev N_is_transfer : List Str := ["happening"]
abbrev P_is_transfer : List Str := ["happening"]
theorem sc_is_transfer : FnScope N_is_transfer P_is_transfer (defScope s_is_transfer) := ⟨rfl, rfl, rfl, by decide +kernel, rfl, by decide +kernel, by decide +kernel⟩
abbrev s_amount_of : Stmt := topS 6
abbrev N_amount_of : List Str := ["happening"]
abbrev P_amount_of : List Str := ["happening"]
theorem sc_amount_of : FnScope N_amount_of P_amount_of (defScope s_amount_of) := ⟨rfl, rfl, rfl, by decide +kernel, rfl, by decide +kernel, by decide +kernel⟩
abbrev s_is_party : Stmt := topS 9
abbrev N_is_party : List Str := ["text"]
abbrev P_is_party : List Str := ["text"]
theorem sc_is_party : FnScope N_is_party P_is_party (defScope s_is_party) := ⟨rfl, rfl, rfl, by decide +kernel, rfl, by decide +kernel, by decide +kernel⟩
abbrev s_is_pair : Stmt := topS 10
abbrev N_is_pair : List Str := ["text"]
abbrev P_is_pair : List Str := ["text"]
theorem sc_is_pair : FnScope N_is_pair P_is_pair (defScope s_is_pair) := ⟨rfl, rfl, rfl, by decide +kernel, rfl, by decide +kernel, by decide +kernel⟩
theorem in_abc {i : Nat} (h : i < 6) : decide (97 + i ∈ (Str.ofString "abcdef").cps.toList) = true := (by decide +kernel : ∀ i, i < 6 → decide (97 + i ∈ (Str.ofString "abcdef").cps.toList) = true) i h
section
variable {P : Program} {w : World} {K : PySem.W.Frag} {mg : Str → Option Value} {base : Heap} {f : Addr} {fd : FuncData}
def spIsTr : Sp := fun vs H Q _ => ∃ l : List Nat, vs = [.str (S l)] ∧ l.length ≤ 1000 ∧ Q (.bl (decide (1 < l.length))) H
theorem ok_is_transfer (F : FnP K "is_transfer" s_is_transfer f fd) (m_len : mg "len" = none) : FnOk P w K mg base CX0 1 f fd P_is_transfer spIsTr := by
  refine F.ok sc_is_transfer (fun vs H Q E h => ?_) (fun cdv A outer s H vs Q E hr h => ?_)
  · obtain ⟨l, rfl, _⟩ := h
    rfl
  · obtain ⟨l, rfl, ll, q⟩ := h
    refine ⟨_, PSs.nox (pss_one (ps_ret (pe_cmpR op_gt (pe_callB call_len_str (by rfl) m_len PySem.boot_len (pa_cons (pv 0) pa_nil)) pe_int (nomark _)))), ?_⟩
    walk_at "go"
    rw [S_len]
    refine ⟨szl (by omega), ?_⟩
    walk_at "go"
    have e : decide ((1 : Int) < (l.length : Int)) = decide (1 < l.length) := decide_eq_decide.mpr (by omega)
    show Q (V.bl (decide ((1 : Int) < (l.length : Int)))) H
    rw [e]
    exact q
def spAmt : Sp := fun vs H Q _ => ∃ (p : List Nat) (n : Nat), vs = [.str (S (p ++ TL.numL n))] ∧ p.length = 2 ∧ n < 10 ^ 100 ∧ Q (.int (n : Int)) H
theorem ok_amount_of (F : FnP K "amount_of" s_amount_of f fd) (m_int : mg "int" = none) : FnOk P w K mg base CX0 1 f fd P_amount_of spAmt := by
  refine F.ok sc_amount_of (fun vs H Q E h => ?_) (fun cdv A outer s H vs Q E hr h => ?_)
  · obtain ⟨p, n, rfl, _⟩ := h
    rfl
  · obtain ⟨p, n, rfl, lp, ln, q⟩ := h
    refine ⟨_, PSs.nox (pss_one (ps_ret (pe_callTy call_int_str (by rfl) m_int (by decide +kernel) (pa_cons (pe_slice C8.sl_txt (pv 0) (po_some pe_int) po_none) pa_nil)))), ?_⟩
    walk_at "go"
    have l2 := TL.numL_len (n := n) (k := 100) (by decide) ln
    refine ⟨by rw [S_len, List.length_append]; exact szl (by omega), ?_⟩
    rw [SX.from_app p (TL.numL n) (by omega)]
    walk_at "go"
    refine ⟨_, n, rfl, by rw [← SX.num_S]; exact TL.int_num (by omega), by rw [S_len]; omega, ?_⟩
    exact q
def spParty : Sp := fun vs H Q _ => ∃ i : Nat, vs = [.str (lt1 i)] ∧ i < 6 ∧ Q (.bl true) H
theorem ok_is_party (F : FnP K "is_party" s_is_party f fd) (m_len : mg "len" = none) (tok_PARTIES : Tok) (g_PARTIES : mg "PARTIES" = some (.str "abcdef" tok_PARTIES)) : FnOk P w K mg base CX0 1 f fd P_is_party spParty := by
  refine F.ok sc_is_party (fun vs H Q E h => ?_) (fun cdv A outer s H vs Q E hr h => ?_)
  · obtain ⟨i, rfl, _⟩ := h
    rfl
  · obtain ⟨i, rfl, li, q⟩ := h
    refine ⟨_, PSs.nox (pss_one (ps_ret (pe_and (pe_cmpR op_eq (pe_callB call_len_str (by rfl) m_len PySem.boot_len (pa_cons (pv 0) pa_nil)) pe_int (nomark _)) (pe_one (pe_cmpR op_in_sign (pv 0) (pe_glob (by rfl) g_PARTIES (relv_str (x := "abcdef"))) (by rfl)))))), ?_⟩
    walk_at "go"
    have e1 : (lt1 i).length = 1 := by unfold lt1; rw [S_len]; rfl
    rw [e1]
    refine ⟨szl (by decide), ?_⟩
    walk_at "go"
    rw [in_abc li]
    exact q
def spPair : Sp := fun vs H Q _ => ∃ k : Nat, vs = [.str (ky k)] ∧ k < 36 ∧ k / 6 ≠ k % 6 ∧ Q (.bl true) H
theorem ok_is_pair (F : FnP K "is_pair" s_is_pair f fd) (m_len : mg "len" = none) (c_is_party : Cal P w K mg base 1 "is_party" spParty) : FnOk P w K mg base CX0 2 f fd P_is_pair spPair := by
  refine F.ok sc_is_pair (fun vs H Q E h => ?_) (fun cdv A outer s H vs Q E hr h => ?_)
  · obtain ⟨k, rfl, _⟩ := h
    rfl
  · obtain ⟨k, rfl, lk, nk, q⟩ := h
    refine ⟨_, PSs.nox (pss_one (ps_ret (pe_and (pe_cmpR op_eq (pe_callB call_len_str (by rfl) m_len PySem.boot_len (pa_cons (pv 0) pa_nil)) pe_int (nomark _)) (pe_and (pe_cl c_is_party hr (by decide) (by rfl) (pa_cons (pe_ix ix_str (pv 0) pe_int (fun _ _ => rfl)) pa_nil)) (pe_and (pe_cl c_is_party hr (by decide) (by rfl) (pa_cons (pe_ix ix_str (pv 0) pe_int (fun _ _ => rfl)) pa_nil)) (pe_one (pe_cmpR op_ne (pe_ix ix_str (pv 0) pe_int (fun _ _ => rfl)) (pe_ix ix_str (pv 0) pe_int (fun _ _ => rfl)) (nomark _)))))))), ?_⟩
    walk_at "go"
    have e1 : (ky k).length = 2 := by unfold ky; rw [S_len]; rfl
    rw [e1]
    refine ⟨szl (by decide), ?_⟩
    walk_at "go"
    refine ⟨ky k, _, 97 + k / 6, rfl, rfl, by rw [e1]; exact szl (by decide), rfl, ?_⟩
    walk_at "go"
    refine ⟨ky k, _, 97 + k % 6, rfl, rfl, by rw [e1]; exact szl (by decide), rfl, ?_⟩
    walk_at "go"
    refine ⟨ky k, _, 97 + k / 6, rfl, rfl, by rw [e1]; exact szl (by decide), rfl, ?_⟩
    walk_at "go"
    refine ⟨ky k, _, 97 + k % 6, rfl, rfl, by rw [e1]; exact szl (by decide), rfl, ?_⟩
    walk_at "go"
    have e2 : (V.str (lt1 (k / 6)) = V.str (lt1 (k % 6))) ↔ False := ⟨fun z => nk (lt1_inj (V.str.inj z)), False.elim⟩
    show Q (V.bl (!decide (V.str (lt1 (k / 6)) = V.str (lt1 (k % 6))))) H
    rw [decide_eq_false (fun z => e2.mp z)]
    exact q
end
end Z
set_option pp.maxSteps 700
set_option Elab.async false
set_option linter.all false
set_option maxRecDepth 100000
set_option maxHeartbeats 4000000
open SX (S S_inj S_len S_cat)
namespace Z
open PySem PySem.Spec PyProof.Rows L2
open C8 (pss_cut tCut)
local macro_rules | `(tactic| walk_at "num") => `(tactic| first | rfl | omega | decide | exact Nat.le_of_lt (small1000 (by simp)) | exact ⟨by omega, by omega⟩ | exact ⟨by omega, by omega, by omega⟩ | exact ⟨by decide, by decide, by decide⟩ | exact Or.inl ⟨by omega, by omega⟩ | exact Or.inr ⟨by omega, by omega⟩)
local macro_rules | `(tactic| walk_at "go") => `(tactic| repeat (first | refine ⟨_, rfl, ?_⟩ | refine ⟨_, _, rfl, rfl, ?_⟩ | refine ⟨_, _, rfl, ?_⟩ | (refine ⟨_, _, rfl, rfl, ?_, ?_⟩; focus walk_at "num") | refine Or.inl ⟨_, rfl, ?_⟩ | refine ⟨_, _, _, _, rfl, rfl, (by assumption), (by rfl), ?_⟩ | refine ⟨_, _, _, _, _, rfl, (by assumption), (by assumption), (by assumption), (by rfl), ?_⟩ | refine ⟨rfl, ?_⟩ | (refine And.intro ?_ ?_; focus walk_at "num")))
abbrev s_check_debts : Stmt := topS 12
abbrev N_check_debts : List Str := ["debts", "pair", "coins"]
abbrev P_check_debts : List Str := ["debts"]
theorem sc_check_debts : FnScope N_check_debts P_check_debts (defScope s_check_debts) := ⟨rfl, rfl, rfl, by decide +kernel, rfl, by decide +kernel, by decide +kernel⟩
abbrev s_tidy : Stmt := topS 13
abbrev N_tidy : List Str := ["debts", "pair"]
abbrev P_tidy : List Str := ["debts"]
theorem sc_tidy : FnScope N_tidy P_tidy (defScope s_tidy) := ⟨rfl, rfl, rfl, by decide +kernel, rfl, by decide +kernel, by decide +kernel⟩
section
variable {P : Program} {w : World} {K : PySem.W.Frag} {mg : Str → Option Value} {base : Heap} {f : Addr} {fd : FuncData}
theorem dc_gen {J : It} {n : Nat} {g : TG} {tt : TT} {tk tv : TE} {vs : List Nat} {σ : L2.St} {H1 : Hp} {D : Addr} {Qd : Hp → Prop} (Pv : Nat → Hp → Prop) (h0 : Pv 0 (upd H1 D (.dK []))) (hgo : ∀ i H, i < n → Pv i H → J.go i H) (hst : ∀ H, Pv n H → J.stop n H)
    (hs : ∀ i H x H', i < n → Pv i H → J.yld i H x H' → g x (wipe σ vs) H' fun σ2 H2 => wipe σ2 vs = wipe σ vs ∧ tt σ2 H2 fun b H3 =>
      if b = true then tk σ2 H3 fun y H4 => tv σ2 H4 fun z H5 => ∃ kvs k, y = kV k ∧ H5 D = some (.dK kvs) ∧ kvs.length < sizeLine ∧ Pv (i + 1) (upd H5 D (.dK (putK kvs k z))) else Pv (i + 1) H3) (hd : ∀ H, Pv n H → Qd H) :
    ∃ W : Nat → Nat → Hp → Prop, (∃ m, W 0 m (upd H1 D (.dK []))) ∧ ∀ i m H, W i m H →
      (J.stop i H ∧ Qd H) ∨ (J.go i H ∧ ∃ Nx : Hp → Prop, (∀ H', Nx H' → ∃ m', m' < m ∧ W (i + 1) m' H') ∧ ∀ x H', J.yld i H x H' → g x (wipe σ vs) H' fun σ2 H2 => wipe σ2 vs = wipe σ vs ∧ tt σ2 H2 fun b H3 =>
        if b = true then tk σ2 H3 fun y H4 => tv σ2 H4 fun z H5 => ∃ kvs k, y = kV k ∧ H5 D = some (.dK kvs) ∧ kvs.length < sizeLine ∧ Nx (upd H5 D (.dK (putK kvs k z))) else Nx H3) := by
  refine ⟨fun i m H => m = n - i ∧ i ≤ n ∧ Pv i H, ⟨n, by omega, Nat.zero_le _, h0⟩, fun i m H w => ?_⟩
  obtain ⟨rfl, hi, p⟩ := w
  by_cases hlt : i < n
  · exact .inr ⟨hgo i H hlt p, Pv (i + 1), fun H' z => ⟨n - (i + 1), by omega, rfl, hlt, z⟩, fun x H' y => hs i H x H' hlt p y⟩
  · have e : i = n := by omega
    subst e
    exact .inl ⟨hst H p, hd H p⟩
/-- a key: two different parties -/
def KOk (k : Nat) : Prop := k < 36 ∧ k / 6 ≠ k % 6
def spCheck : Sp := fun vs H Q _ => ∃ (d : Addr) (ks : List Nat) (g : Nat → Int), vs = [.ref d] ∧ H d = some (.dK (tab ky ks g)) ∧ (∀ k ∈ ks, KOk k ∧ 0 ≤ g k) ∧ ks.length ≤ 1000 ∧ ∀ H', Same H H' → Q .non H'
theorem ok_check_debts (F : FnP K "check_debts" s_check_debts f fd) (m_list : mg "list" = none) (c_is_pair : Cal P w K mg base 2 "is_pair" spPair) : FnOk P w K mg base CX0 3 f fd P_check_debts spCheck := by
  refine F.ok sc_check_debts (fun vs H Q E h => ?_) (fun cdv A outer s H vs Q E hr h => ?_)
  · obtain ⟨d, ks, g, rfl, _⟩ := h
    rfl
  · obtain ⟨d, ks, g, rfl, hd, hk, lk, q⟩ := h
    refine ⟨_, PSs.nox (pss_cons (ps_lock (ps_for PassesOwn.never rfl (pi_keys (pv 0)) (pg_name (i := 1) sc_check_debts.nd rfl (by first | exact .inl rfl | exact .inr rfl))
        (pss_one (ps_if (pt_not (pt_val (pe_cl c_is_pair hr (by decide) (by rfl) (pa_cons (pv 1) pa_nil)))) (pss_one ps_never) pss_nil))))
      (pss_one (ps_for PassesOwn.never rfl (pi_list (pe_listVals rfl (pv 0) (by rfl) m_list (by decide +kernel))) (pg_name (i := 2) sc_check_debts.nd rfl (by first | exact .inl rfl | exact .inr rfl))
        (pss_one (ps_if (pt_cmpR op_lt (pv 2) pe_int (nomark _)) (pss_one ps_never) pss_nil))))), ?_⟩
    walk_at "go"
    refine ⟨d, _, hd, trivial, fun od => ?_⟩
    have fz : (upd H d (.frz od (.dK (tab ky ks g)))) d = some (.frz od (.dK (tab ky ks g))) := upd_same
    have sb : SB d H (upd H d (.frz od (.dK (tab ky ks g)))) := fun b o n e => by rw [upd_ne n]; exact e
    generalize upd H d (.frz od (.dK (tab ky ks g))) = J at fz sb
    walk_at "go"
    refine ⟨d, od, rfl, .inl ⟨_, fz, ?_⟩⟩
    refine for_gen (n := ks.length) (fun i σ J1 => J1 = J ∧ ∃ v1 v2, σ = [some (.ref d), v1, v2]) ⟨rfl, _, _, rfl⟩ ?_ ?_ ?_ ?_
    · rintro i σ J1 hi ⟨rfl, _⟩
      exact ⟨fz, by rw [tab_len]; exact hi⟩
    · rintro σ J1 ⟨rfl, _⟩
      exact ⟨fz, by rw [tab_len]; exact Nat.le_refl _⟩
    · rintro i σ J1 x J2 hi ⟨rfl, v1, v2, rfl⟩ ⟨rfl, k, v, e, rfl⟩
      rw [tab_at hi] at e
      cases e
      have hk1 := hk _ (List.getElem_mem hi)
      generalize ks[i] = k at hk1
      walk_at "go"
      refine ⟨hk1.1.1, hk1.1.2, ?_⟩
      walk_at "go"
      exact ⟨_, _, rfl⟩
    rintro σ J1 ⟨rfl, v1, v2, rfl⟩
    walk_at "go"
    have s1 : Same H (upd J1 d (.dK (tab ky ks g))) := fun a o e => by
      by_cases c : a = d
      · subst c
        rw [upd_same, ← hd, e]
      · rw [upd_ne c]
        exact sb a o c e
    have hd1 : (upd J1 d (.dK (tab ky ks g))) d = some (.dK (tab ky ks g)) := upd_same
    generalize upd J1 d (.dK (tab ky ks g)) = J3 at s1 hd1
    walk_at "go"
    refine ⟨d, _, rfl, hd1, fun l nl => ?_⟩
    have s2 := s1.trans (same_new (o := .lst ((tab ky ks g).map (·.2))) nl)
    have el : (upd J3 l (.lst ((tab ky ks g).map (·.2)))) l = some (.lst (ks.map fun k => V.int (g k))) := by
      rw [upd_same]
      unfold tab
      rw [List.map_map]
      rfl
    generalize upd J3 l (.lst ((tab ky ks g).map (·.2))) = J4 at s2 el
    walk_at "go"
    refine ⟨⟨_, SqL.of el⟩, ?_⟩
    refine for_gen (n := ks.length) (fun i σ J1 => J1 = J4 ∧ ∃ v1 v2, σ = [some (.ref d), v1, v2]) ⟨rfl, _, _, rfl⟩ ?_ ?_ ?_ ?_
    · rintro i σ J1 hi ⟨rfl, _⟩
      exact ⟨_, .int (g ks[i]), SqL.of el, by rw [List.getElem?_map, List.getElem?_eq_getElem hi]; rfl⟩
    · rintro σ J1 ⟨rfl, _⟩
      exact ⟨_, SqL.of el, by rw [List.length_map]; exact Nat.le_refl _⟩
    · rintro i σ J1 x J2 hi ⟨rfl, v1, v2, rfl⟩ ⟨rfl, hx⟩
      have hx := hx _ (SqL.of el)
      rw [List.getElem?_map, List.getElem?_eq_getElem hi] at hx
      cases hx
      have g0 := (hk _ (List.getElem_mem hi)).2
      walk_at "go"
      refine ite2 (fun e => ?_) (fun e => ?_)
      · have e : g ks[i] < 0 := of_decide_eq_true e
        exact absurd e (by omega)
      · walk_at "go"
        exact ⟨_, _, rfl⟩
    · rintro σ J1 ⟨rfl, v1, v2, rfl⟩
      exact q _ s2
def spTidy : Sp := fun vs H Q _ => ∃ (d : Addr) (ks : List Nat) (g : Nat → Int), vs = [.ref d] ∧ H d = some (.dK (tab ky ks g)) ∧ ks.Nodup ∧ ks.length < 64 ∧ ∀ (p : Addr) (js : List Nat) H', Same H H' → js.Pairwise (· < ·) → (∀ k, k ∈ js ↔ k ∈ ks ∧ 0 < g k) → H p = none → H' p = some (.dK (tab ky js g)) → Q (.ref p) H'
theorem ok_tidy (F : FnP K "tidy" s_tidy f fd) (m_list : mg "list" = none) (m_sorted : mg "sorted" = none) : FnOk P w K mg base CX0 1 f fd P_tidy spTidy := by
  refine F.ok sc_tidy (fun vs H Q E h => ?_) (fun cdv A outer s H vs Q E hr h => ?_)
  · obtain ⟨d, ks, g, rfl, _⟩ := h
    rfl
  · obtain ⟨d, ks, g, rfl, hd, nd, lk, q⟩ := h
    refine ⟨_, PSs.nox (pss_one (ps_ret (pe_dc (own := [("pair", 1)]) (g := (gName 1)) (by rfl) sc_tidy.nd (pi_list (pe_callB cr_sortedS (by rfl) m_sorted (by decide +kernel) (pa_cons (pe_callTy (call_list_dK rfl) (by rfl) m_list (by decide +kernel) (pa_cons (pv 0) pa_nil)) pa_nil))) (blkOk_by (own := [("pair", 1)]) (N := N_tidy) (sc := defScope s_tidy) (by decide +kernel)) (fun _ _ _ _ _ => (pg_name (i := 1) sc_tidy.nd rfl (by first | exact .inl rfl | exact .inr rfl))) (fun _ _ _ _ _ => (pts_one (pt_cmpR op_gt (pe_dget (hu_of hr) (pv 0) (pv 1) (fun _ _ => rfl)) pe_int (nomark _)))) (fun _ _ _ _ _ => (pv 1)) (fun _ _ _ _ _ => (pe_dget (hu_of hr) (pv 0) (pv 1) (fun _ _ => rfl)))))), ?_⟩
    walk_at "go"
    refine ⟨d, _, rfl, hd, fun q1 nq1 => ?_⟩
    rw [tab_filter]
    have s1 := same_new (o := .lst (ks.map fun k => V.str (ky k))) nq1
    have e1 : (upd H q1 (.lst (ks.map fun k => V.str (ky k)))) q1 = some (.lst ((ks.map ky).map V.str)) := by
      rw [upd_same, List.map_map]
      rfl
    generalize upd H q1 (.lst (ks.map fun k => V.str (ky k))) = H1 at s1 e1
    walk_at "go"
    refine ⟨q1, ks.map ky, rfl, SqL.of e1, by rw [List.length_map]; exact lk, fun ys p pm srt np => ?_⟩
    obtain ⟨js, rfl, pj⟩ := perm_ky pm
    have ndj : js.Nodup := pj.nodup_iff.mpr nd
    have asc := asc_of_nodup (sorted_ky srt) ndj
    have s2 := s1.trans (same_new (o := .lst ((js.map ky).map V.str)) np)
    have e2 : (upd H1 p (.lst ((js.map ky).map V.str))) p = some (.lst ((js.map ky).map V.str)) := upd_same
    generalize upd H1 p (.lst ((js.map ky).map V.str)) = H2 at s2 e2
    have lj : js.length < 64 := by rw [pj.length_eq]; exact lk
    walk_at "go"
    refine ⟨⟨_, SqL.of e2⟩, fun D nD => ?_⟩
    have nDH : H D = none := none_of s2 nD
    refine dc_gen (n := js.length) (fun i J => Same H2 J ∧ J D = some (.dK (tab ky ((js.take i).filter fun k => decide (0 < g k)) g))) ⟨same_new nD, upd_same⟩ ?_ ?_ ?_ ?_
    · rintro i J hi ⟨s3, _⟩
      exact ⟨_, .str (ky js[i]), s3.seq (SqL.of e2), by rw [List.getElem?_map, List.getElem?_map, List.getElem?_eq_getElem hi]; rfl⟩
    · rintro J ⟨s3, _⟩
      exact ⟨_, s3.seq (SqL.of e2), by rw [List.length_map, List.length_map]; exact Nat.le_refl _⟩
    · rintro i J x J' hi ⟨s3, eD⟩ ⟨rfl, hx⟩
      have hx := hx _ (s3.seq (SqL.of e2))
      rw [List.getElem?_map, List.getElem?_map, List.getElem?_eq_getElem hi] at hx
      cases hx
      have km : js[i] ∈ ks := pj.mem_iff.mp (List.getElem_mem hi)
      have tk : (js.take (i + 1)).filter (fun k => decide (0 < g k)) = (js.take i).filter (fun k => decide (0 < g k)) ++ (if 0 < g js[i] then [js[i]] else []) := by
        rw [List.take_succ, List.getElem?_eq_getElem hi, List.filter_append]
        congr 1
        by_cases c : 0 < g js[i]
        · rw [if_pos c]
          simp [c]
        · rw [if_neg c]
          simp [c]
      have nin : js[i] ∉ (js.take i).filter (fun k => decide (0 < g k)) := fun z => by
        have z := (List.mem_filter.mp z).1
        obtain ⟨j, hj, ej⟩ := List.getElem_of_mem z
        rw [List.length_take] at hj
        rw [List.getElem_take] at ej
        have := (List.getElem_inj ndj).mp ej
        omega
      generalize js[i] = k at km tk nin
      have hd3 := s3 _ _ (s2 _ _ hd)
      have dg : DGet J' d (.str (ky k)) (some (.int (g k))) := by
        have z := DGet.k (k := Sum.inr (ky k)) hd3
        rw [tab_val (fun _ _ => ky_inj), if_pos km] at z
        exact z
      refine ⟨rfl, ?_⟩
      walk_at "go"
      refine ⟨d, _, rfl, dg, ?_⟩
      walk_at "go"
      refine ite2 (fun e => ?_) (fun e => ?_)
      · have e : 0 < g k := of_decide_eq_true e
        rw [if_pos e] at tk
        walk_at "go"
        refine ⟨d, _, rfl, dg, ?_⟩
        refine ⟨_, Sum.inr (ky k), rfl, eD, by rw [tab_len]; exact szlt (Nat.le_trans (List.length_filter_le ..) (by rw [List.length_take]; omega)), Z.Same.mut s3 nD, ?_⟩
        rw [upd_same, tab_put (fun _ _ => ky_inj), if_neg nin, tk]
        refine congrArg _ (congrArg _ (tab_congr fun j hj => ?_))
        by_cases c : j = k
        · rw [if_pos c, c]
        · rw [if_neg c]
      · have e : ¬ 0 < g k := fun z => e (decide_eq_true z)
        rw [if_neg e, List.append_nil] at tk
        exact ⟨s3, by rw [tk]; exact eD⟩
    · rintro J ⟨s3, eD⟩
      rw [List.take_length] at eD
      refine q D _ J (s2.trans s3) (asc.filter _) (fun k => ?_) nDH eD
      rw [List.mem_filter, pj.mem_iff, decide_eq_true_iff]
end
end Z
set_option pp.maxSteps 700
set_option Elab.async false
set_option linter.all false
set_option maxRecDepth 100000
set_option maxHeartbeats 4000000
open SX (S S_inj S_len S_cat)
namespace Z
open PySem PySem.Spec PyProof.Rows L2
open C8 (pss_cut tCut)
local macro_rules | `(tactic| walk_at "num") => `(tactic| first | rfl | omega | decide | exact Nat.le_of_lt (small1000 (by simp)) | exact ⟨by omega, by omega⟩ | exact ⟨by omega, by omega, by omega⟩ | exact ⟨by decide, by decide, by decide⟩ | exact Or.inl ⟨by omega, by omega⟩ | exact Or.inr ⟨by omega, by omega⟩)
local macro_rules | `(tactic| walk_at "go") => `(tactic| repeat (first | refine ⟨_, rfl, ?_⟩ | refine ⟨_, _, rfl, rfl, ?_⟩ | refine ⟨_, _, rfl, ?_⟩ | (refine ⟨_, _, rfl, rfl, ?_, ?_⟩; focus walk_at "num") | refine Or.inl ⟨_, rfl, ?_⟩ | refine ⟨_, _, _, _, rfl, rfl, (by assumption), (by rfl), ?_⟩ | refine ⟨_, _, _, _, _, rfl, (by assumption), (by assumption), (by assumption), (by rfl), ?_⟩ | refine ⟨rfl, ?_⟩ | (refine And.intro ?_ ?_; focus walk_at "num")))
abbrev s_owed : Stmt := topS 14
abbrev N_owed : List Str := ["happenings", "found", "happening", "pair"]
abbrev P_owed : List Str := ["happenings"]
theorem sc_owed : FnScope N_owed P_owed (defScope s_owed) := ⟨rfl, rfl, rfl, by decide +kernel, rfl, by decide +kernel, by decide +kernel⟩
abbrev s_net : Stmt := topS 15
abbrev N_net : List Str := ["debts", "party", "found", "pair", "coins"]
abbrev P_net : List Str := ["debts"]
theorem sc_net : FnScope N_net P_net (defScope s_net) := ⟨rfl, rfl, rfl, by decide +kernel, rfl, by decide +kernel, by decide +kernel⟩
theorem nodup_lenN : ∀ {n : Nat} {l : List Nat}, l.Nodup → (∀ x ∈ l, x < n) → l.length ≤ n := by
  intro n
  induction n with
  | zero =>
    intro l _ h
    cases l with
    | nil => exact Nat.le_refl _
    | cons x r => exact absurd (h x List.mem_cons_self) (by omega)
  | succ n ih =>
    intro l nd h
    have z := ih (l := l.erase n) (nd.erase _) (fun x hx => by
      have h1 := h x (List.mem_of_mem_erase hx)
      have h2 : x ≠ n := fun e => nd.not_mem_erase (e ▸ hx)
      omega)
    by_cases c : n ∈ l
    · rw [List.length_erase_of_mem c] at z
      omega
    · rw [List.erase_of_not_mem c] at z
      omega
theorem sm_snoc_some (rs : Rows) (k : Nat) (c : Int) (j : Nat) : sm (rs ++ [(some k, c)]) j = sm rs j + (if j = k then c else 0) := by
  unfold sm
  rw [tot_append]
  show _ + ((if decide (k = j) = true then c else 0) + 0) = _
  by_cases e : j = k
  · subst e
    rw [if_pos (decide_eq_true rfl), if_pos rfl, Int.add_zero]
  · rw [if_neg (by simpa using fun z : k = j => e z.symm), if_neg e, Int.add_zero]
theorem sm_snoc_none (rs : Rows) (c : Int) : sm (rs ++ [(none, c)]) = sm rs := funext fun j => by
  unfold sm
  rw [tot_append]
  show _ + (0 + 0) = _
  omega
/-- a row of the law: pair and coins, and the text -/
def RowT (w : (Option Nat × Int) × List Nat) : Prop := (w.1.1 = none ∧ w.1.2 = 0 ∧ ∃ z, z < 128 ∧ w.2 = [z]) ∨ ∃ k, w.1.1 = some k ∧ KOk k ∧ 0 ≤ w.1.2 ∧ w.1.2 < 10 ^ 62 ∧ w.2 = kyL k ++ TL.numL w.1.2.toNat
section
variable {P : Program} {w : World} {K : PySem.W.Frag} {mg : Str → Option Value} {base : Heap} {f : Addr} {fd : FuncData}
def spOwed (K : PySem.W.Frag) : Sp := fun vs H Q _ => ∃ (b : Bool) (a : Addr) (ws : List ((Option Nat × Int) × List Nat)), vs = [.ref a] ∧ SqK b K H a (ws.map fun w => V.str (S w.2)) ∧ (∀ w ∈ ws, RowT w) ∧ ws.length ≤ 1000 ∧
  ∀ (p : Addr) (js : List Nat) H', Same H H' → js.Pairwise (· < ·) → (∀ k, k ∈ js ↔ 0 < sm (ws.map (·.1)) k) → H p = none → H' p = some (.dK (tab ky js (sm (ws.map (·.1))))) → Q (.ref p) H'
theorem ok_owed (F : FnP K "owed" s_owed f fd) (c_is_transfer : Cal P w K mg base 1 "is_transfer" spIsTr) (c_amount_of : Cal P w K mg base 1 "amount_of" spAmt) (c_tidy : Cal P w K mg base 1 "tidy" spTidy) : FnOk P w K mg base CX0 2 f fd P_owed (spOwed K) := by
  refine F.ok sc_owed (fun vs H Q E h => ?_) (fun cdv A outer s H vs Q E hr h => ?_)
  · obtain ⟨b, a, ws, rfl, _⟩ := h
    rfl
  · obtain ⟨b, a, ws, rfl, hS, hw, lw, q⟩ := h
    refine ⟨_, PSs.nox (pss_cons (ps_set (i := 1) sc_owed.nd rfl (by first | exact .inl rfl | exact .inr rfl) pe_dnewK)
      (pss_cons (ps_for PassesOwn.never rfl (pi_sq (pv 0)) (pg_name (i := 2) sc_owed.nd rfl (by first | exact .inl rfl | exact .inr rfl))
        (pss_one (ps_if (pt_val (pe_cl c_is_transfer hr (by decide) (by rfl) (pa_cons (pv 2) pa_nil))) (pss_cons (ps_set (i := 3) sc_owed.nd rfl (by first | exact .inl rfl | exact .inr rfl) (pe_slice C8.sl_txt (pv 2) po_none (po_some pe_int)))
      (pss_one (ps_dput (hu_of hr) (pv 1) (pv 3) (pe_op op_add (pe_dget2 (hu_of hr) (pv 1) (pv 3) pe_int ⟨rfl, rfl, rfl, rfl⟩) (pe_cl c_amount_of hr (by decide) (by rfl) (pa_cons (pv 2) pa_nil))) rfl))) pss_nil)))
      (pss_one (ps_ret (pe_cl c_tidy hr (by decide) (by rfl) (pa_cons (pv 1) pa_nil)))))), ?_⟩
    walk_at "go"
    intro D nD
    have s1 := same_new (o := .dK []) nD
    have e1 : (upd H D (.dK [])) D = some (.dK (tab ky [] (sm []))) := upd_same
    generalize upd H D (.dK []) = H1 at s1 e1
    have hS1 := Z.Same.sqK s1 hS
    obtain ⟨rs, ers⟩ : ∃ rs, rs = ws.map (·.1) := ⟨_, rfl⟩
    rw [← ers] at q
    walk_at "go"
    refine rd_sq (b := b) (a := a) rfl hS1 ?_
    refine for_gen (n := ws.length) (fun i σ J => Same H J ∧ (∃ ks, J D = some (.dK (tab ky ks (sm (rs.take i)))) ∧ ks.Nodup ∧ (∀ k ∈ ks, k < 36) ∧ ∀ k, k ∉ ks → sm (rs.take i) k = 0) ∧ ∃ v2 v3, σ = [some (.ref a), some (.ref D), v2, v3]) ⟨s1, ⟨[], e1, List.nodup_nil, fun k h => absurd h (by simp), fun k _ => rfl⟩, _, _, rfl⟩ ?_ ?_ ?_ ?_
    · rintro i σ J hi ⟨s2, _⟩
      exact itq_go (Z.Same.sqK s2 hS) (by rw [List.getElem?_map, List.getElem?_eq_getElem hi]; rfl)
    · rintro σ J ⟨s2, _⟩
      exact itq_stop (Z.Same.sqK s2 hS) (by rw [List.length_map]; exact Nat.le_refl _)
    · rintro i σ J x J' hi ⟨s2, ⟨ks, eD, nd, k36, out⟩, v2, v3, rfl⟩ y
      obtain ⟨rfl, hx⟩ := itq_yld (Z.Same.sqK s2 hS) y
      rw [List.getElem?_map, List.getElem?_eq_getElem hi] at hx
      cases hx
      have hwi := hw _ (List.getElem_mem hi)
      have tk : rs.take (i + 1) = rs.take i ++ [ws[i].1] := by
        rw [ers, List.take_succ, List.getElem?_map, List.getElem?_eq_getElem hi]
        rfl
      generalize ws[i] = u at hwi tk
      obtain ⟨⟨ko, c⟩, t⟩ := u
      rcases hwi with ⟨h1, h2, z, _, h3⟩ | ⟨k, h1, hk, h0, h6, h3⟩
      · dsimp only at h1 h2 h3
        subst h1 h2 h3
        walk_at "go"
        refine ⟨show 1 ≤ 1000 by decide, ?_⟩
        walk_at "go"
        refine ⟨⟨ks, by rw [tk, sm_snoc_none]; exact eD, nd, k36, by rw [tk, sm_snoc_none]; exact out⟩, _, _, rfl⟩
      · dsimp only at h1 h0 h6 h3
        subst h1 h3
        have lnum := TL.numL_len (n := c.toNat) (k := 62) (by decide) (by omega)
        have nne : 0 < (TL.numL c.toNat).length := List.length_pos_iff.mpr (TL.numL_ne _)
        have ll : (kyL k ++ TL.numL c.toNat).length = 2 + (TL.numL c.toNat).length := by
          rw [List.length_append]
          rfl
        have hz : (S (kyL k ++ TL.numL c.toNat)).length ≤ sizeLine := by rw [S_len]; exact szl (by omega)
        generalize et : kyL k ++ TL.numL c.toNat = t at hz ll
        walk_at "go"
        refine ⟨by show t.length ≤ 1000; omega, ?_⟩
        walk_at "go"
        refine ite2 (fun _ => ?_) (fun e => absurd (decide_eq_true (by show 1 < t.length; omega)) e)
        walk_at "go"
        have es : Txt.slice (S t) none (some 2) = ky k := by rw [← et]; exact SX.to_app (kyL k) (TL.numL c.toNat) rfl
        dsimp only
        rw [es]
        refine ⟨.inl ⟨_, .inl eD⟩, ?_⟩
        walk_at "go"
        have dg := DGet.k (k := Sum.inr (ky k)) eD
        rw [tab_val (fun _ _ => ky_inj)] at dg
        refine ⟨_, dg, ?_⟩
        have eg : (if k ∈ ks then some (V.int (sm (rs.take i) k)) else none).getD (.int 0) = .int (sm (rs.take i) k) := by
          by_cases m : k ∈ ks
          · rw [if_pos m]
            rfl
          · rw [if_neg m, out k m]
            rfl
        rw [eg]
        walk_at "go"
        refine ⟨kyL k, c.toNat, by rw [et]; rfl, rfl, ?_, ?_⟩
        · have : c.toNat < 10 ^ 62 := by omega
          exact Nat.lt_of_lt_of_le this (by decide)
        walk_at "go"
        have lks : ks.length ≤ 36 := nodup_lenN nd k36
        have sn := sm_snoc_some (rs.take i) k c
        refine ⟨D, _, rfl, DPut.k (k := Sum.inr (ky k)) eD (by rw [tab_len]; exact szlt (by omega)), Z.Same.mut s2 nD, ⟨if k ∈ ks then ks else ks ++ [k], ?_, ?_, fun j hj => ?_, fun j hj => ?_⟩, _, _, rfl⟩
        · rw [upd_same]
          show some (HO.dK (putK (tab ky ks (sm (rs.take i))) (Sum.inr (ky k)) (.int (sm (rs.take i) k + (c.toNat : Int))))) = _
          rw [tab_put (fun _ _ => ky_inj), tk]
          refine congrArg _ (congrArg _ (tab_congr fun j _ => ?_))
          show _ = sm (rs.take i ++ [(some k, c)]) j
          rw [sn]
          by_cases e : j = k
          · rw [if_pos e, if_pos e, e]
            omega
          · rw [if_neg e, if_neg e, Int.add_zero]
        · by_cases m : k ∈ ks
          · rw [if_pos m]
            exact nd
          · rw [if_neg m]
            exact List.nodup_append.mpr ⟨nd, by simp, fun x hx y hy e => m (by rw [List.mem_singleton.mp hy] at e; exact e ▸ hx)⟩
        · by_cases m : k ∈ ks
          · rw [if_pos m] at hj
            exact k36 j hj
          · rw [if_neg m] at hj
            rcases List.mem_append.mp hj with hj | hj
            · exact k36 j hj
            · rw [List.mem_singleton.mp hj]
              exact hk.1
        · rw [tk]
          show sm (rs.take i ++ [(some k, c)]) j = 0
          rw [sn]
          by_cases m : k ∈ ks
          · rw [if_pos m] at hj
            rw [out j hj, if_neg (fun e : j = k => hj (e ▸ m))]
            rfl
          · rw [if_neg m] at hj
            rw [out j (fun z => hj (List.mem_append_left _ z)), if_neg (fun e => hj (List.mem_append_right _ (by rw [e]; exact List.mem_singleton.mpr rfl)))]
            rfl
    · rintro σ J ⟨s2, ⟨ks, eD, nd, k36, out⟩, v2, v3, rfl⟩
      have er : rs.take ws.length = rs := List.take_of_length_le (by rw [ers, List.length_map]; exact Nat.le_refl _)
      rw [er] at eD out
      walk_at "go"
      refine ⟨D, ks, _, rfl, eD, nd, Nat.lt_of_le_of_lt (nodup_lenN nd k36) (by decide), fun p js H' s3 asc mem np ep => ?_⟩
      refine q p js H' (s2.trans s3) asc (fun k => (mem k).trans ⟨fun z => z.2, fun z => ⟨?_, z⟩⟩) (none_of s2 np) ep
      refine Decidable.byContradiction fun c => ?_
      rw [out k c] at z
      exact absurd z (by decide)
def spNet : Sp := fun vs H Q _ => ∃ (d : Addr) (ks : List Nat) (g : Nat → Int), vs = [.ref d] ∧ H d = some (.dK (tab ky ks g)) ∧ (∀ k ∈ ks, KOk k ∧ 0 ≤ g k) ∧ ks.length ≤ 1000 ∧ ∀ (t : Addr) H', Same H H' → H' t = some (.tup ((List.range 6).map fun p => V.int (nt (ent ks g) p))) → Q (.ref t) H'
theorem ok_net (F : FnP K "net" s_net f fd) (m_tuple : mg "tuple" = none) (tok_PARTIES : Tok) (g_PARTIES : mg "PARTIES" = some (.str "abcdef" tok_PARTIES)) (c_check_debts : Cal P w K mg base 3 "check_debts" spCheck) : FnOk P w K mg base CX0 4 f fd P_net spNet := by
  refine F.ok sc_net (fun vs H Q E h => ?_) (fun cdv A outer s H vs Q E hr h => ?_)
  · obtain ⟨d, ks, g, rfl, _⟩ := h
    rfl
  · obtain ⟨d, ks, g, rfl, hd, hk, lk, q⟩ := h
    refine ⟨_, PSs.nox (pss_cons (ps_expr (pe_cl c_check_debts hr (by decide) (by rfl) (pa_cons (pv 0) pa_nil)))
      (pss_cons (ps_set (i := 2) sc_net.nd rfl (by first | exact .inl rfl | exact .inr rfl) (pe_dc (own := [("party", 1)]) (g := (gName 1)) (tt := tYes) (by rfl) sc_net.nd (pi_str (pe_glob (by rfl) g_PARTIES (relv_str (x := "abcdef")))) (blkOk_by (own := [("party", 1)]) (N := N_net) (sc := defScope s_net) (by decide +kernel)) (fun _ _ _ _ _ => (pg_name (i := 1) sc_net.nd rfl (by first | exact .inl rfl | exact .inr rfl))) (fun _ _ _ _ _ => pts_nil) (fun _ _ _ _ _ => (pv 1)) (fun _ _ _ _ _ => pe_int)))
      (pss_cons (ps_lock (ps_for PassesOwn.never rfl (pi_items (pv 0)) (pg_tup rfl (pgs_cons (pg_name (i := 3) sc_net.nd rfl (by first | exact .inl rfl | exact .inr rfl)) (pgs_cons (pg_name (i := 4) sc_net.nd rfl (by first | exact .inl rfl | exact .inr rfl)) pgs_nil)))
        (pss_cons (ps_dput (hu_of hr) (pv 2) (pe_ix ix_str (pv 3) pe_int (fun _ _ => rfl)) (pe_op op_sub (pe_dget (hu_of hr) (pv 2) (pe_ix ix_str (pv 3) pe_int (fun _ _ => rfl)) (fun _ _ => rfl)) (pv 4)) rfl)
      (pss_one (ps_dput (hu_of hr) (pv 2) (pe_ix ix_str (pv 3) pe_int (fun _ _ => rfl)) (pe_op op_add (pe_dget (hu_of hr) (pv 2) (pe_ix ix_str (pv 3) pe_int (fun _ _ => rfl)) (fun _ _ => rfl)) (pv 4)) rfl)))))
      (pss_one (ps_ret (pe_callTy call_tuple_of (by rfl) m_tuple (by decide +kernel) (pa_cons (pe_lc (own := [("party", 1)]) (g := (gName 1)) (tt := tYes) (by rfl) sc_net.nd (pi_str (pe_glob (by rfl) g_PARTIES (relv_str (x := "abcdef")))) (blkOk_by (own := [("party", 1)]) (N := N_net) (sc := defScope s_net) (by decide +kernel)) (fun _ _ _ _ _ => (pg_name (i := 1) sc_net.nd rfl (by first | exact .inl rfl | exact .inr rfl))) (fun _ _ _ _ _ => pts_nil) (fun _ _ _ _ _ => (pe_dget (hu_of hr) (pv 2) (pv 1) (fun _ _ => rfl)))) pa_nil))))))), ?_⟩
    walk_at "go"
    refine ⟨d, ks, g, rfl, hd, hk, lk, fun H1 s1 => ?_⟩
    have hd1 := s1 _ _ hd
    walk_at "go"
    intro D nD
    have dD : D ≠ d := fun e => by rw [e, hd1] at nD; cases nD
    have abc : ∀ i, i < 6 → (Str.ofString "abcdef").cps[i]? = some (97 + i) := by decide +kernel
    have sz : (Str.ofString "abcdef").cps.size = 6 := by decide +kernel
    refine dc_gen (n := 6) (fun i J => Same H1 J ∧ J D = some (.dK (tab lt1 (List.range i) fun _ => 0))) ⟨same_new nD, upd_same⟩ ?_ ?_ ?_ ?_
    · rintro i J hi _
      show i < (Str.ofString "abcdef").cps.size
      omega
    · rintro J _
      show (Str.ofString "abcdef").cps.size ≤ 6
      omega
    · rintro i J x J' hi ⟨s2, eD⟩ ⟨rfl, c, ec, rfl⟩
      rw [abc i hi] at ec
      cases ec
      walk_at "go"
      refine ⟨_, Sum.inr (lt1 i), rfl, eD, by rw [tab_len, List.length_range]; exact szlt (by omega), Z.Same.mut s2 nD, ?_⟩
      rw [upd_same, tab_put (fun _ _ => lt1_inj), if_neg (by simp), List.range_succ]
      refine congrArg _ (congrArg _ (tab_congr fun j _ => ?_))
      split <;> rfl
    rintro J ⟨s2, eD⟩
    have hd2 := s2 _ _ hd1
    have s02 := s1.trans s2
    have nDH := none_of s1 nD
    walk_at "go"
    refine ⟨d, _, hd2, trivial, fun od => ?_⟩
    have fz : (upd J d (.frz od (.dK (tab ky ks g)))) d = some (.frz od (.dK (tab ky ks g))) := upd_same
    have sb : SB d H (upd J d (.frz od (.dK (tab ky ks g)))) := fun b o n e => by rw [upd_ne n]; exact s02 b o e
    have eD2 : (upd J d (.frz od (.dK (tab ky ks g)))) D = some (.dK (tab lt1 (List.range 6) fun _ => 0)) := by rw [upd_ne dD]; exact eD
    generalize upd J d (.frz od (.dK (tab ky ks g))) = J1 at fz sb eD2
    walk_at "go"
    refine ⟨d, od, _, rfl, fz, ?_⟩
    refine for_gen (n := ks.length) (fun i σ J2 => J2 d = some (.frz od (.dK (tab ky ks g))) ∧ SB d H J2 ∧ J2 D = some (.dK (tab lt1 (List.range 6) (nt (ent (ks.take i) g)))) ∧ ∃ v1 v3 v4, σ = [some (.ref d), v1, some (.ref D), v3, v4]) ⟨fz, sb, eD2, _, _, _, rfl⟩ ?_ ?_ ?_ ?_
    · rintro i σ J2 hi ⟨f1, _⟩
      exact ⟨f1, by rw [tab_len]; exact hi⟩
    · rintro σ J2 ⟨f1, _⟩
      exact ⟨f1, by rw [tab_len]; exact Nat.le_refl _⟩
    · rintro i σ J2 x J3 hi ⟨f1, sb1, eD3, v1, v3, v4, rfl⟩ ⟨T, kk, v, e, rfl, nT, rfl⟩
      rw [tab_at hi] at e
      cases e
      have hk1 := (hk _ (List.getElem_mem hi)).1
      have tk : ks.take (i + 1) = ks.take i ++ [ks[i]] := by
        rw [List.take_succ, List.getElem?_eq_getElem hi]
        rfl
      generalize ks[i] = k at hk1 tk
      have eT : (upd J2 T (.tup [kV (Sum.inr (ky k)), V.int (g k)])) T = some (.tup [.str (ky k), .int (g k)]) := upd_same
      have dT : d ≠ T := fun e => by rw [← e, f1] at nT; cases nT
      have DT : D ≠ T := fun e => by rw [← e, eD3] at nT; cases nT
      have nTH : ∀ o, H T ≠ some o := fun o e => by
        have := sb1 T o dT.symm e
        rw [nT] at this
        cases this
      have f2 : (upd J2 T (.tup [kV (Sum.inr (ky k)), V.int (g k)])) d = some (.frz od (.dK (tab ky ks g))) := by rw [upd_ne dT]; exact f1
      have sb2 : SB d H (upd J2 T (.tup [kV (Sum.inr (ky k)), V.int (g k)])) := fun b o n e => by
        have bT : b ≠ T := fun z => nTH o (by rw [← z]; exact e)
        rw [upd_ne bT]
        exact sb1 b o n e
      have eD4 : (upd J2 T (.tup [kV (Sum.inr (ky k)), V.int (g k)])) D = some (.dK (tab lt1 (List.range 6) (nt (ent (ks.take i) g)))) := by rw [upd_ne DT]; exact eD3
      generalize upd J2 T (.tup [kV (Sum.inr (ky k)), V.int (g k)]) = J4 at eT f2 sb2 eD4
      have hn : ∀ j, nt (ent (ks.take (i + 1)) g) j = nt (ent (ks.take i) g) j + (if k % 6 = j then g k else 0) - (if k / 6 = j then g k else 0) := fun j => by
        rw [tk]
        unfold nt rcv gvn ent
        rw [List.map_append, tot_append, tot_append]
        show (tot _ _ + ((if decide (k % 6 = j) = true then g k else 0) + 0)) - (tot _ _ + ((if decide (k / 6 = j) = true then g k else 0) + 0)) = _
        simp only [decide_eq_true_eq]
        omega
      generalize nt (ent (ks.take (i + 1)) g) = h2 at hn
      generalize nt (ent (ks.take i) g) = h at eD4 hn
      have e1 : (ky k).length = 2 := by unfold ky; rw [S_len]; rfl
      refine ⟨T, _, rfl, SqT.of eT, rfl, _, _, rfl, ?_⟩
      walk_at "go"
      have m1 : k / 6 ∈ List.range 6 := List.mem_range.mpr (by have := hk1.1; omega)
      have m2 : k % 6 ∈ List.range 6 := List.mem_range.mpr (by omega)
      have gt : ∀ (J : Hp) (h : Nat → Int) (i : Nat), J D = some (.dK (tab lt1 (List.range 6) h)) → i ∈ List.range 6 → DGet J D (.str ⟨#[97 + i]⟩) (some (.int (h i))) := fun J h i e m => by
        have z := DGet.k (k := Sum.inr (lt1 i)) e
        rw [tab_val (fun _ _ => lt1_inj), if_pos m] at z
        exact z
      have pt : ∀ (J : Hp) (h : Nat → Int) (i : Nat) (v : Int), J D = some (.dK (tab lt1 (List.range 6) h)) → i ∈ List.range 6 → DPut J D (.str ⟨#[97 + i]⟩) (.int v) (upd J D (.dK (tab lt1 (List.range 6) fun j => if j = i then v else h j))) := fun J h i v e m => by
        have z := DPut.k (k := Sum.inr (lt1 i)) (v := .int v) e (by rw [tab_len, List.length_range]; exact szlt (by omega))
        rw [tab_put (fun _ _ => lt1_inj), if_pos m] at z
        exact z
      refine ⟨ky k, _, 97 + k / 6, rfl, rfl, by rw [e1]; exact szl (by decide), rfl, ?_⟩
      refine ⟨D, _, rfl, gt _ _ _ eD4 m1, ?_⟩
      walk_at "go"
      refine ⟨ky k, _, 97 + k / 6, rfl, rfl, by rw [e1]; exact szl (by decide), rfl, ?_⟩
      refine ⟨D, _, rfl, pt _ _ _ _ eD4 m1, ?_⟩
      have eD5 : (upd J4 D (.dK (tab lt1 (List.range 6) fun j => if j = k / 6 then h (k / 6) - g k else h j))) D = some (.dK (tab lt1 (List.range 6) fun j => if j = k / 6 then h (k / 6) - g k else h j)) := upd_same
      have f5 : (upd J4 D (.dK (tab lt1 (List.range 6) fun j => if j = k / 6 then h (k / 6) - g k else h j))) d = some (.frz od (.dK (tab ky ks g))) := by rw [upd_ne dD.symm]; exact f2
      have sb5 : SB d H (upd J4 D (.dK (tab lt1 (List.range 6) fun j => if j = k / 6 then h (k / 6) - g k else h j))) := fun b o n e => by
        have bD : b ≠ D := fun z => by rw [z, nDH] at e; cases e
        rw [upd_ne bD]
        exact sb2 b o n e
      generalize upd J4 D (.dK (tab lt1 (List.range 6) fun j => if j = k / 6 then h (k / 6) - g k else h j)) = J5 at eD5 f5 sb5
      generalize eh1 : (fun j => if j = k / 6 then h (k / 6) - g k else h j) = h1 at eD5
      walk_at "go"
      refine ⟨ky k, _, 97 + k % 6, rfl, rfl, by rw [e1]; exact szl (by decide), rfl, ?_⟩
      refine ⟨D, _, rfl, gt _ _ _ eD5 m2, ?_⟩
      walk_at "go"
      refine ⟨ky k, _, 97 + k % 6, rfl, rfl, by rw [e1]; exact szl (by decide), rfl, ?_⟩
      refine ⟨D, _, rfl, pt _ _ _ _ eD5 m2, by rw [upd_ne dD.symm]; exact f5, fun b o n e => ?_, ?_, _, _, _, rfl⟩
      · have bD : b ≠ D := fun z => by rw [z, nDH] at e; cases e
        rw [upd_ne bD]
        exact sb5 b o n e
      · rw [upd_same]
        refine congrArg _ (congrArg _ (tab_congr fun j _ => ?_))
        rw [hn j, ← eh1]
        dsimp only
        by_cases c1 : k % 6 = j
        · rw [if_pos c1, if_pos c1.symm]
          by_cases c2 : k / 6 = j
          · rw [if_pos c2, c1, if_pos c2.symm, c2]
            omega
          · rw [if_neg c2, c1, if_neg (fun z => c2 z.symm)]
            omega
        · rw [if_neg c1, if_neg (fun z => c1 z.symm)]
          by_cases c2 : k / 6 = j
          · rw [if_pos c2, if_pos c2.symm, c2]
            omega
          · rw [if_neg c2, if_neg (fun z => c2 z.symm)]
            omega
    · rintro σ J2 ⟨f1, sb1, eD3, v1, v3, v4, rfl⟩
      rw [List.take_length] at eD3
      refine ⟨f1, ?_⟩
      have s3 : Same H (upd J2 d (.dK (tab ky ks g))) := fun a o e => by
        by_cases c : a = d
        · subst c
          rw [upd_same, ← hd, e]
        · rw [upd_ne c]
          exact sb1 a o c e
      have eD4 : (upd J2 d (.dK (tab ky ks g))) D = some (.dK (tab lt1 (List.range 6) (nt (ent ks g)))) := by rw [upd_ne dD]; exact eD3
      generalize upd J2 d (.dK (tab ky ks g)) = J4 at s3 eD4
      walk_at "go"
      intro D1 nD1
      refine lc_gen (n := 6) (fun i J => Same J4 J ∧ J D1 = some (.lst ((List.range i).map fun p => V.int (nt (ent ks g) p)))) ⟨same_new nD1, upd_same⟩ ?_ ?_ ?_ ?_
      · rintro i J hi _
        show i < (Str.ofString "abcdef").cps.size
        omega
      · rintro J _
        show (Str.ofString "abcdef").cps.size ≤ 6
        omega
      · rintro i J x J' hi ⟨s4, eL⟩ ⟨rfl, c, ec, rfl⟩
        rw [abc i hi] at ec
        cases ec
        have z := DGet.k (k := Sum.inr (lt1 i)) (s4 _ _ eD4)
        rw [tab_val (fun _ _ => lt1_inj), if_pos (List.mem_range.mpr hi)] at z
        walk_at "go"
        refine ⟨D, _, rfl, z, ?_⟩
        refine ⟨_, eL, by rw [List.length_map, List.length_range]; exact szlt (by omega), Z.Same.mut s4 nD1, ?_⟩
        rw [upd_same, List.range_succ, List.map_append]
        rfl
      rintro J ⟨s4, eL⟩
      walk_at "go"
      refine ⟨D1, _, rfl, .inl ⟨SqL.of eL, fun t nt' => ?_⟩⟩
      exact q t _ (s3.trans (s4.trans (same_new nt'))) upd_same
end
end Z
set_option pp.maxSteps 700
set_option Elab.async false
set_option linter.all false
set_option maxRecDepth 100000
set_option maxHeartbeats 4000000
open SX (S S_inj S_len S_cat)
namespace Z
open PySem PySem.Spec PyProof.Rows L2
open C8 (pss_cut tCut)
local macro_rules | `(tactic| walk_at "num") => `(tactic| first | rfl | omega | decide | exact Nat.le_of_lt (small1000 (by simp)) | exact ⟨by omega, by omega⟩ | exact ⟨by omega, by omega, by omega⟩ | exact ⟨by decide, by decide, by decide⟩ | exact Or.inl ⟨by omega, by omega⟩ | exact Or.inr ⟨by omega, by omega⟩)
local macro_rules | `(tactic| walk_at "go") => `(tactic| repeat (first | refine ⟨_, rfl, ?_⟩ | refine ⟨_, _, rfl, rfl, ?_⟩ | refine ⟨_, _, rfl, ?_⟩ | (refine ⟨_, _, rfl, rfl, ?_, ?_⟩; focus walk_at "num") | refine Or.inl ⟨_, rfl, ?_⟩ | refine ⟨_, _, _, _, rfl, rfl, (by assumption), (by rfl), ?_⟩ | refine ⟨_, _, _, _, _, rfl, (by assumption), (by assumption), (by assumption), (by rfl), ?_⟩ | refine ⟨rfl, ?_⟩ | (refine And.intro ?_ ?_; focus walk_at "num")))
abbrev s_wide : Stmt := topS 20
abbrev N_wide : List Str := ["_law_draws_here", "_law_place", "_law_value", "_law_k"]
abbrev P_wide : List Str := ["_law_draws_here", "_law_place"]
theorem sc_wide : FnScope N_wide P_wide (defScope s_wide) := ⟨rfl, rfl, rfl, by decide +kernel, rfl, by decide +kernel, by decide +kernel⟩
abbrev s_coins : Stmt := topS 21
abbrev N_coins : List Str := ["_law_draws_here", "_law_place", "_law_scale", "_law_draw"]
abbrev P_coins : List Str := ["_law_draws_here", "_law_place", "_law_scale"]
theorem sc_coins : FnScope N_coins P_coins (defScope s_coins) := ⟨rfl, rfl, rfl, by decide +kernel, rfl, by decide +kernel, by decide +kernel⟩
abbrev s_parties : Stmt := topS 22
abbrev N_parties : List Str := ["_law_draws_here", "_law_place", "_law_left", "_law_found", "_law_k", "_law_at"]
abbrev P_parties : List Str := ["_law_draws_here", "_law_place"]
theorem sc_parties : FnScope N_parties P_parties (defScope s_parties) := ⟨rfl, rfl, rfl, by decide +kernel, rfl, by decide +kernel, by decide +kernel⟩
structure Tk (K : PySem.W.Frag) (a p : Addr) (ds : List Int) (n : Nat) (H0 H1 : Hp) : Prop where
  hA : H1 a = some (.lst (ds.map V.int))
  hd : Dr n ds
  ne : a ≠ p
  sb : SB p H0 H1
  pl : ∃ m : Nat, H1 p = some (.lst [.int (m : Int)])
theorem Tk.more {K : PySem.W.Frag} {a p : Addr} {ds : List Int} {n : Nat} {H0 H1 H2 : Hp} (t : Tk K a p ds n H0 H1) (s : Same H1 H2) : Tk K a p ds n H0 H2 := by
  obtain ⟨m, e⟩ := t.pl
  exact ⟨s _ _ t.hA, t.hd, t.ne, t.sb.trans (Z.Same.sb s), m, s _ _ e⟩
theorem Tk.mut {K : PySem.W.Frag} {a p q : Addr} {ds : List Int} {n : Nat} {H0 H1 : Hp} {o : HO} (t : Tk K a p ds n H0 H1) (h : H0 q = none) (h2 : SB q H1 (upd H1 q o)) (nq : q ≠ p) (na : upd H1 q o a = some (.lst (ds.map V.int))) : Tk K a p ds n H0 (upd H1 q o) := by
  obtain ⟨m, e⟩ := t.pl
  refine ⟨na, t.hd, t.ne, fun b u n1 n2 => ?_, m, h2 _ _ nq.symm e⟩
  exact h2 _ _ (ne_of_none n2 h) (t.sb b u n1 n2)
theorem Tk.next {K : PySem.W.Frag} {a p : Addr} {ds : List Int} {n m : Nat} {H0 H1 : Hp} (t : Tk K a p ds n H0 H1) (e : H1 p = some (.lst [.int (m : Int)])) : Tk K a p ds n H0 (upd H1 p (.lst [.int ((m + 1 : Nat) : Int)])) ∧ SB p H1 (upd H1 p (.lst [.int ((m + 1 : Nat) : Int)])) := by
  have sb : SB p H1 (upd H1 p (.lst [.int ((m + 1 : Nat) : Int)])) := SB.upd (Z.Same.sb (Same.refl H1))
  exact ⟨⟨sb _ _ t.ne t.hA, t.hd, t.ne, t.sb.trans sb, m + 1, upd_same⟩, sb⟩

theorem Tk.slf {K : PySem.W.Frag} {a p : Addr} {ds : List Int} {n : Nat} {H0 H1 : Hp} (t : Tk K a p ds n H0 H1) : Tk K a p ds n H1 H1 := ⟨t.hA, t.hd, t.ne, Z.Same.sb (Same.refl _), t.pl⟩
theorem Tk.tr {K : PySem.W.Frag} {a p : Addr} {ds : List Int} {n : Nat} {H0 H1 H2 : Hp} (t : Tk K a p ds n H0 H1) (u : Tk K a p ds n H1 H2) : Tk K a p ds n H0 H2 := ⟨u.hA, u.hd, u.ne, t.sb.trans u.sb, u.pl⟩
/-- texts of parties -/
def pT (ps : List Nat) : List Nat := ps.map (97 + ·)
section
variable {P : Program} {w : World} {K : PySem.W.Frag} {mg : Str → Option Value} {base : Heap} {f : Addr} {fd : FuncData}
def spWide (K : PySem.W.Frag) : Sp := fun vs H Q _ => ∃ (a p : Addr) (n : Nat) (ds : List Int), vs = [.ref a, .ref p] ∧ Tk K a p ds n H H ∧ ∀ (c : Int) H', Tk K a p ds n H H' → 0 ≤ c → c < (1000000 : Int) ^ 10 → Q (.int c) H'
theorem ok_wide (F : FnP K "_law_wide" s_wide f fd) (m_range : mg "range" = none) (c_take : Cal P w K mg base 1 "_law_take" (spTake K)) : FnOk P w K mg base CX0 2 f fd P_wide (spWide K) := by
  refine F.ok sc_wide (fun vs H Q E h => ?_) (fun cdv A outer s H vs Q E hr h => ?_)
  · obtain ⟨a, p, n, ds, rfl, _⟩ := h
    rfl
  · obtain ⟨a, p, n, ds, rfl, hT, q⟩ := h
    refine ⟨_, PSs.nox (pss_cons (ps_set (i := 2) sc_wide.nd rfl (by first | exact .inl rfl | exact .inr rfl) pe_int)
      (pss_cons (ps_for PassesOwn.never rfl (pi_range1 (by rfl) m_range (pa_cons pe_int pa_nil)) (pg_name (i := 3) sc_wide.nd rfl (by first | exact .inl rfl | exact .inr rfl))
        (pss_one (ps_set (i := 2) sc_wide.nd rfl (by first | exact .inl rfl | exact .inr rfl) (pe_op op_add (pe_op op_mul (pv 2) pe_int) (pe_cl c_take hr (by decide) (by rfl) (pa_cons (pv 0) (pa_cons (pv 1) pa_nil)))))))
      (pss_one (ps_ret (pv 2))))), ?_⟩
    walk_at "go"
    refine for_gen (n := 10) (fun i σ J => Tk K a p ds n H J ∧ ∃ (v : Int) (v3 : Option V), 0 ≤ v ∧ v < (1000000 : Int) ^ i ∧ σ = [some (.ref a), some (.ref p), some (.int v), v3]) ⟨hT, 0, none, by decide, by decide, rfl⟩ ?_ ?_ ?_ ?_
    · intro i σ J hi _
      exact hi
    · intro σ J _
      exact Nat.le_refl _
    · rintro i σ J x J' hi ⟨hT1, v, v3, v0, v1, rfl⟩ ⟨rfl, rfl⟩
      obtain ⟨mm, em⟩ := hT1.pl
      walk_at "go"
      refine ⟨a, p, n, mm, ds, rfl, SqL.of hT1.hA, hT1.hd, em, hT1.ne, fun r r0 r1 => ?_⟩
      obtain ⟨hT2, _⟩ := hT1.next em
      walk_at "go"
      refine ⟨_, _, ?_, ?_, rfl⟩
      · show 0 ≤ v * 1000000 + r
        omega
      · show v * 1000000 + r < (1000000 : Int) ^ (i + 1)
        rw [Int.pow_succ]
        omega
    · rintro σ J ⟨hT1, v, v3, v0, v1, rfl⟩
      walk_at "go"
      exact q v J hT1 v0 v1
def spCoins (K : PySem.W.Frag) : Sp := fun vs H Q _ => ∃ (a p : Addr) (n : Nat) (ds : List Int) (sc : Int), vs = [.ref a, .ref p, .int sc] ∧ Tk K a p ds n H H ∧ ∀ (c : Int) H', Tk K a p ds n H H' → 0 ≤ c → c ≤ 10 ^ 60 → Q (.int c) H'
theorem ok_coins (F : FnP K "_law_coins" s_coins f fd) (m_int : mg "int" = none) (c_take : Cal P w K mg base 1 "_law_take" (spTake K)) (c_wide : Cal P w K mg base 2 "_law_wide" (spWide K)) : FnOk P w K mg base CX0 3 f fd P_coins (spCoins K) := by
  refine F.ok sc_coins (fun vs H Q E h => ?_) (fun cdv A outer s H vs Q E hr h => ?_)
  · obtain ⟨a, p, n, ds, sc, rfl, _⟩ := h
    rfl
  · obtain ⟨a, p, n, ds, sc, rfl, hT, q⟩ := h
    refine ⟨_, PSs.nox (pss_cons (ps_set (i := 3) sc_coins.nd rfl (by first | exact .inl rfl | exact .inr rfl) (pe_cl c_take hr (by decide) (by rfl) (pa_cons (pv 0) (pa_cons (pv 1) pa_nil))))
      (pss_cons (ps_if (pt_cmpR op_eq (pv 2) pe_int (nomark _)) (pss_one (ps_ret (pe_op op_mod (pe_callTy call_int1 (by rfl) m_int (by decide +kernel) (pa_cons (pv 3) pa_nil)) pe_int))) pss_nil)
      (pss_cons (ps_if (pt_cmpR op_eq (pv 2) pe_int (nomark _)) (pss_one (ps_ret (pe_op op_sub (pe_op op_pow pe_int pe_int) (pe_op op_mod (pe_callTy call_int1 (by rfl) m_int (by decide +kernel) (pa_cons (pv 3) pa_nil)) pe_int)))) pss_nil)
      (pss_cons (ps_if (PW.pt (pw_or (pt_cmpR op_eq (pv 2) pe_int (nomark _)) (pw_or1 (PW.pt (pw_and (pt_cmpR op_eq (pv 2) pe_int (nomark _)) (pw_and1 (pt_cmpR op_eq (pe_op op_mod (pe_callTy call_int1 (by rfl) m_int (by decide +kernel) (pa_cons (pv 3) pa_nil)) pe_int) pe_int (nomark _)))))))) (pss_one (ps_ret (pe_op op_fdiv (pe_cl c_wide hr (by decide) (by rfl) (pa_cons (pv 0) (pa_cons (pv 1) pa_nil))) pe_int))) pss_nil)
      (pss_one (ps_ret (pe_op op_mod (pe_callTy call_int1 (by rfl) m_int (by decide +kernel) (pa_cons (pe_op op_fdiv (pv 3) pe_int) pa_nil)) pe_int))))))), ?_⟩
    obtain ⟨mm, em⟩ := hT.pl
    walk_at "go"
    refine ⟨a, p, n, mm, ds, rfl, SqL.of hT.hA, hT.hd, em, hT.ne, fun r r0 r1 => ?_⟩
    obtain ⟨hT2, _⟩ := hT.next em
    generalize upd H p (.lst [.int ((mm + 1 : Nat) : Int)]) = H1 at hT2
    walk_at "go"
    refine ite2 (fun e => ?_) (fun e => ?_)
    · walk_at "go"
      show Q (V.int (r % 1000)) H1
      exact q _ _ hT2 (by omega) (by omega)
    walk_at "go"
    refine ite2 (fun e => ?_) (fun e => ?_)
    · walk_at "go"
      show Q (V.int ((10 : Int) ^ 60 - r % 4)) H1
      exact q _ _ hT2 (by omega) (by omega)
    walk_at "go"
    refine ite2 (fun e => ?_) (fun e => ?_)
    · walk_at "go"
      refine ⟨a, p, n, ds, rfl, hT2.slf, fun c H2 hT3 w0 w1 => ?_⟩
      walk_at "go"
      show Q (V.int (c / 100)) H2
      exact q _ _ (hT2.tr hT3) (by omega) (by omega)
    walk_at "go"
    refine ite2 (fun e => ?_) (fun e => ?_)
    · walk_at "go"
      refine ite2 (fun e => ?_) (fun e => ?_)
      · walk_at "go"
        refine ⟨a, p, n, ds, rfl, hT2.slf, fun c H2 hT3 w0 w1 => ?_⟩
        walk_at "go"
        show Q (V.int (c / 100)) H2
        exact q _ _ (hT2.tr hT3) (by omega) (by omega)
      walk_at "go"
      show Q (V.int (r / 2 % 6)) H1
      exact q _ _ hT2 (by omega) (by omega)
    walk_at "go"
    show Q (V.int (r / 2 % 6)) H1
    exact q _ _ hT2 (by omega) (by omega)
def spParties (K : PySem.W.Frag) : Sp := fun vs H Q _ => ∃ (a p : Addr) (n : Nat) (ds : List Int), vs = [.ref a, .ref p] ∧ Tk K a p ds n H H ∧ ∀ (ps : List Nat) H', Tk K a p ds n H H' → ps.Nodup → (∀ x ∈ ps, x < 6) → 2 ≤ ps.length → ps.length ≤ 6 → Q (.str (S (pT ps))) H'
theorem ok_parties (F : FnP K "_law_parties" s_parties f fd) (m_int : mg "int" = none) (m_len : mg "len" = none) (m_range : mg "range" = none) (c_take : Cal P w K mg base 1 "_law_take" (spTake K)) : FnOk P w K mg base CX0 2 f fd P_parties (spParties K) := by
  refine F.ok sc_parties (fun vs H Q E h => ?_) (fun cdv A outer s H vs Q E hr h => ?_)
  · obtain ⟨a, p, n, ds, rfl, _⟩ := h
    rfl
  · obtain ⟨a, p, n, ds, rfl, hT, q⟩ := h
    refine ⟨_, PSs.nox (pss_cons (ps_set (i := 2) sc_parties.nd rfl (by first | exact .inl rfl | exact .inr rfl) pe_str)
      (pss_cons (ps_set (i := 3) sc_parties.nd rfl (by first | exact .inl rfl | exact .inr rfl) pe_str)
      (pss_cons (ps_for PassesOwn.never rfl (pi_range1 (by rfl) m_range (pa_cons (pe_op op_add pe_int (pe_op op_mod (pe_callTy call_int1 (by rfl) m_int (by decide +kernel) (pa_cons (pe_cl c_take hr (by decide) (by rfl) (pa_cons (pv 0) (pa_cons (pv 1) pa_nil))) pa_nil)) pe_int)) pa_nil)) (pg_name (i := 4) sc_parties.nd rfl (by first | exact .inl rfl | exact .inr rfl))
        (pss_cons (ps_set (i := 5) sc_parties.nd rfl (by first | exact .inl rfl | exact .inr rfl) (pe_op op_mod (pe_callTy call_int1 (by rfl) m_int (by decide +kernel) (pa_cons (pe_cl c_take hr (by decide) (by rfl) (pa_cons (pv 0) (pa_cons (pv 1) pa_nil))) pa_nil)) (pe_callB call_len_str (by rfl) m_len PySem.boot_len (pa_cons (pv 2) pa_nil))))
      (pss_cons (ps_set (i := 3) sc_parties.nd rfl (by first | exact .inl rfl | exact .inr rfl) (pe_op op_add_str (pv 3) (pe_ix ix_str (pv 2) (pv 5) (fun _ _ => rfl))))
      (pss_one (ps_set (i := 2) sc_parties.nd rfl (by first | exact .inl rfl | exact .inr rfl) (pe_op op_add_str (pe_slice C8.sl_txt (pv 2) po_none (po_some (pv 5))) (pe_slice C8.sl_txt (pv 2) (po_some (pe_op op_add (pv 5) pe_int)) po_none)))))))
      (pss_one (ps_ret (pv 3)))))), ?_⟩
    obtain ⟨mm, em⟩ := hT.pl
    walk_at "go"
    refine ⟨a, p, n, mm, ds, rfl, SqL.of hT.hA, hT.hd, em, hT.ne, fun r r0 r1 => ?_⟩
    obtain ⟨hT2, _⟩ := hT.next em
    generalize upd H p (.lst [.int ((mm + 1 : Nat) : Int)]) = H1 at hT2
    have c0 := Int.emod_nonneg r (show (5 : Int) ≠ 0 by decide)
    have c1 := Int.emod_lt_of_pos r (show (0 : Int) < 5 by decide)
    walk_at "go"
    have pl : ∀ l : List Nat, (pT l).length = l.length := fun l => List.length_map ..
    refine for_gen (n := (2 + r % 5).toNat) (fun i σ J => Tk K a p ds n H J ∧ ∃ (ls fs : List Nat) (v4 v5 : Option V), (fs ++ ls).Nodup ∧ (∀ x ∈ fs ++ ls, x < 6) ∧ fs.length = i ∧ i + ls.length = 6 ∧ σ = [some (.ref a), some (.ref p), some (.str (S (pT ls))), some (.str (S (pT fs))), v4, v5]) ⟨hT2, [0, 1, 2, 3, 4, 5], [], none, none, by decide, by decide, rfl, rfl, rfl⟩ ?_ ?_ ?_ ?_
    · intro i σ J hi _
      exact hi
    · intro σ J _
      exact Nat.le_refl _
    · rintro i σ J x J' hi ⟨hT3, ls, fs, v4, v5, nd, x6, lf, ll, rfl⟩ ⟨rfl, rfl⟩
      obtain ⟨m2, em2⟩ := hT3.pl
      have l0 : 0 < ls.length := by omega
      walk_at "go"
      refine ⟨a, p, n, m2, ds, rfl, SqL.of hT3.hA, hT3.hd, em2, hT3.ne, fun r2 r0' r1' => ?_⟩
      obtain ⟨hT4, _⟩ := hT3.next em2
      generalize upd J' p (.lst [.int ((m2 + 1 : Nat) : Int)]) = H3 at hT4
      have hlen : (S (pT ls)).length ≤ sizeLine := by rw [S_len, pl]; exact szl (by omega)
      walk_at "go"
      have e1 : (S (pT ls)).length = ls.length := by rw [S_len, pl]
      rw [e1]
      refine ⟨by show (0 : Int) < (ls.length : Int); omega, ?_⟩
      have m0 := Int.emod_nonneg r2 (show (ls.length : Int) ≠ 0 by omega)
      have m1 := Int.emod_lt_of_pos r2 (show 0 < (ls.length : Int) by omega)
      obtain ⟨j, ej, hj⟩ : ∃ j : Nat, r2 % (ls.length : Int) = (j : Int) ∧ j < ls.length := ⟨(r2 % (ls.length : Int)).toNat, by omega, by omega⟩
      have ea : atI (S (pT ls)).cps.toList (j : Int) = some (97 + ls[j]) := atI_nat (by show (pT ls)[j]? = _; unfold pT; rw [List.getElem?_map, List.getElem?_eq_getElem hj]; rfl)
      dsimp only [List.set]
      rw [ej]
      walk_at "go"
      refine ⟨S (pT ls), _, 97 + ls[j], rfl, rfl, hlen, ea, ?_⟩
      refine ⟨_, _, rfl, rfl, by rw [S_len, pl]; show fs.length + 1 ≤ sizeLine; exact szl (by omega), ?_⟩
      have ef : S (pT fs) ++ (⟨#[97 + ls[j]]⟩ : Str) = S (pT (fs ++ [ls[j]])) := by
        rw [show (⟨#[97 + ls[j]]⟩ : Str) = S [97 + ls[j]] from rfl, S_cat]
        unfold pT
        rw [List.map_append]
        rfl
      rw [ef]
      walk_at "go"
      have f1 : Txt.slice (S (pT ls)) none (some (j : Int)) = S (pT (ls.take j)) := by
        rw [SX.slice_to (by omega)]
        unfold pT
        rw [← List.map_take]
        rfl
      have f2 : Txt.slice (S (pT ls)) (some ((j : Int) + 1)) none = S (pT (ls.drop (j + 1))) := by
        rw [SX.slice_from (by omega)]
        unfold pT
        rw [← List.map_drop]
        rfl
      rw [f1, f2]
      have lt : (ls.take j).length + (ls.drop (j + 1)).length + 1 = ls.length := by rw [List.length_take, List.length_drop]; omega
      refine ⟨by rw [S_len, S_len, pl, pl]; exact szl (by omega), ?_⟩
      have eg : S (pT (ls.take j)) ++ S (pT (ls.drop (j + 1))) = S (pT (ls.take j ++ ls.drop (j + 1))) := by
        rw [S_cat]
        unfold pT
        rw [List.map_append]
      rw [eg]
      have els : ls = ls.take j ++ ls[j] :: ls.drop (j + 1) := by
        rw [← List.drop_eq_getElem_cons hj, List.take_append_drop]
      have pm : ((fs ++ [ls[j]]) ++ (ls.take j ++ ls.drop (j + 1))).Perm (fs ++ ls) := by
        conv => rhs; rw [els]
        rw [List.append_assoc]
        refine List.Perm.append_left fs ?_
        show (ls[j] :: (ls.take j ++ ls.drop (j + 1))).Perm _
        exact List.perm_middle.symm
      walk_at "go"
      exact ⟨ls.take j ++ ls.drop (j + 1), fs ++ [ls[j]], _, _, pm.nodup_iff.mpr nd, fun x hx => x6 x (pm.mem_iff.mp hx), by rw [List.length_append, lf]; rfl, by rw [List.length_append]; omega, rfl⟩
    · rintro σ J ⟨hT3, ls, fs, v4, v5, nd, x6, lf, ll, rfl⟩
      walk_at "go"
      exact q fs J hT3 (List.nodup_append.mp nd).1 (fun x hx => x6 x (List.mem_append_left _ hx)) (by omega) (by omega)
end
end Z
set_option Elab.async false
set_option linter.all false
set_option maxRecDepth 100000
set_option maxHeartbeats 4000000
namespace Z
open PySem PySem.Spec PyProof.Rows L2
open SX (S S_inj S_len S_cat)
/-! ### comprehensions over a list of rows -/
theorem fltL_opt {α : Type} (P : α → Bool) (G : α → V) (zs : List α) : fltL (fun k => (zs[k]?.map P).getD false) (fun k => (zs[k]?.map G).getD .non) zs.length = (zs.filter P).map G := by
  have e1 : (List.range zs.length).map (fun k => zs[k]?) = zs.map some := by
    refine List.ext_getElem (by rw [List.length_map, List.length_map, List.length_range]) fun i h1 h2 => ?_
    rw [List.length_map] at h2
    rw [List.getElem_map, List.getElem_map, List.getElem_range, List.getElem?_eq_getElem h2]
  have e2 : fltL (fun k => (zs[k]?.map P).getD false) (fun k => (zs[k]?.map G).getD .non) zs.length = (((List.range zs.length).map (fun k => zs[k]?)).filter (fun o => (o.map P).getD false)).map (fun o => (o.map G).getD .non) := by
    rw [List.filter_map, List.map_map]
    rfl
  rw [e2, e1, List.filter_map, List.map_map]
  rfl
theorem lc_rows {α : Type} {K : PySem.W.Frag} {a D : Addr} {zs : List (Addr × α)} {H0 : Hp} {i : Nat} {tt : TT} {te : TE} {vs : List Nat} {σ : L2.St} {Qd : Hp → Prop} (p : α → Bool) (g : α → V) (hS : SqL K H0 a (zs.map fun z => V.ref z.1)) (hn : zs.length ≤ 1000000) (nD : H0 D = none)
    (hw : ∀ x : V, wipe ((wipe σ vs).set i (some x)) vs = wipe σ vs)
    (hb : ∀ z H1 (Q : Bool → Hp → Prop), z ∈ zs → Same H0 H1 → Q (p z.2) H1 → tt ((wipe σ vs).set i (some (.ref z.1))) H1 Q)
    (ht : ∀ z H1 (Q : VK), z ∈ zs → p z.2 = true → Same H0 H1 → Q (g z.2) H1 → te ((wipe σ vs).set i (some (.ref z.1))) H1 Q)
    (hd : ∀ H1, Same H0 H1 → H1 D = some (.lst (((zs.map (·.2)).filter p).map g)) → Qd H1) : lcW (Itl K a) (gName i) tt te vs σ D Qd H0 := by
  have ex : ∀ k (hk : k < zs.length), (zs.map fun z => V.ref z.1)[k]? = some (.ref zs[k].1) := fun k hk => by
    rw [List.getElem?_map, List.getElem?_eq_getElem hk]
    rfl
  have at_ : ∀ {β : Type} (f : Addr × α → β) (d : β) k (hk : k < zs.length), (zs[k]?.map f).getD d = f zs[k] := fun f d k hk => by
    rw [List.getElem?_eq_getElem hk]
    rfl
  refine lc_flt (n := zs.length) (fun k => (zs[k]?.map fun z => V.ref z.1).getD .non) (fun k => (zs[k]?.map fun z => p z.2).getD false) (fun k => (zs[k]?.map fun z => g z.2).getD .non) hn nD (fun k H1 hk s => ⟨_, _, s.seq hS, ex k hk⟩) (fun H1 s => ⟨_, s.seq hS, by rw [List.length_map]; exact Nat.le_refl _⟩)
    (fun k H1 x H2 hk s y => ⟨by rw [y.1]; exact Same.refl _, by rw [at_ _ _ k hk]; exact Option.some.inj ((y.2 _ (s.seq hS)).symm.trans (ex k hk))⟩) (fun k => hw _)
    (fun k H1 Q hk s q => by rw [at_ _ _ k hk]; exact hb _ _ _ (List.getElem_mem hk) s (by rw [at_ _ _ k hk] at q; exact q _ (Same.refl _)))
    (fun k H1 Q hk e s q => by rw [at_ _ _ k hk] at e ⊢; exact ht _ _ _ (List.getElem_mem hk) e s (by rw [at_ _ _ k hk] at q; exact q _ (Same.refl _))) (fun H1 s e => hd H1 s ?_)
  rw [e, fltL_opt (fun z : Addr × α => p z.2) (fun z => g z.2), List.filter_map, List.map_map]
  rfl
/-! ### the rows of the law -/
abbrev Wr : Type := (Option Nat × Int) × List Nat
def px : Option Nat → Str
  | none => S []
  | some k => ky k
theorem px_ky (o : Option Nat) (k : Nat) : decide (V.str (px o) = V.str (ky k)) = (match o with
    | some j => decide (j = k)
    | none => false) := by
  cases o with
  | none =>
    refine decide_eq_false fun e => ?_
    have := S_inj (V.str.inj e)
    cases this
  | some j =>
    refine decide_eq_decide.mpr ⟨fun e => ky_inj (V.str.inj e), fun e => by rw [e]; rfl⟩
structure RwZ (H : Hp) (a : Addr) (zs : List (Addr × Wr)) : Prop where
  sq : H a = some (.lst (zs.map fun z => V.ref z.1))
  at_ : ∀ z ∈ zs, H z.1 = some (.tup [.str (px z.2.1.1), .int z.2.1.2, .str (S z.2.2)])
theorem RwZ.mono {H H' : Hp} {a : Addr} {zs : List (Addr × Wr)} (s : Same H H') (m : RwZ H a zs) : RwZ H' a zs := ⟨s _ _ m.sq, fun z hz => s _ _ (m.at_ z hz)⟩
theorem RwZ.sb {p : Addr} {H H' : Hp} {a : Addr} {zs : List (Addr × Wr)} {v : List V} (s : SB p H H') (hp : H p = some (.lst v)) (ne : a ≠ p) (m : RwZ H a zs) : RwZ H' a zs :=
  ⟨s _ _ ne m.sq, fun z hz => s _ _ (fun e => by have := m.at_ z hz; rw [e, hp] at this; cases this) (m.at_ z hz)⟩
abbrev rowsOf (zs : List (Addr × Wr)) : Rows := zs.map fun z => z.2.1
theorem sum_rows (P : Nat → Bool) (zs : List (Addr × Wr)) : (((zs.map (·.2)).filter fun w => fP P w.1).map fun w => w.1.2).sum = tot P (rowsOf zs) := by
  rw [← tot_filter P (rowsOf zs)]
  congr 1
  unfold rowsOf
  rw [List.filter_map, List.filter_map, List.map_map, List.map_map]
  rfl
end Z
set_option pp.maxSteps 700
set_option Elab.async false
set_option linter.all false
set_option maxRecDepth 100000
set_option maxHeartbeats 4000000
open SX (S S_inj S_len S_cat)
namespace Z
open PySem PySem.Spec PyProof.Rows L2
open C8 (pss_cut tCut)
local macro_rules | `(tactic| walk_at "num") => `(tactic| first | rfl | omega | decide | exact Nat.le_of_lt (small1000 (by simp)) | exact ⟨by omega, by omega⟩ | exact ⟨by omega, by omega, by omega⟩ | exact ⟨by decide, by decide, by decide⟩ | exact Or.inl ⟨by omega, by omega⟩ | exact Or.inr ⟨by omega, by omega⟩)
local macro_rules | `(tactic| walk_at "go") => `(tactic| repeat (first | refine ⟨_, rfl, ?_⟩ | refine ⟨_, _, rfl, rfl, ?_⟩ | refine ⟨_, _, rfl, ?_⟩ | (refine ⟨_, _, rfl, rfl, ?_, ?_⟩; focus walk_at "num") | refine Or.inl ⟨_, rfl, ?_⟩ | refine ⟨_, _, _, _, rfl, rfl, (by assumption), (by rfl), ?_⟩ | refine ⟨_, _, _, _, _, rfl, (by assumption), (by assumption), (by assumption), (by rfl), ?_⟩ | refine ⟨rfl, ?_⟩ | (refine And.intro ?_ ?_; focus walk_at "num")))
abbrev s_sum : Stmt := topS 23
abbrev N_sum : List Str := ["_law_rows_here", "_law_pair", "_law_row"]
abbrev P_sum : List Str := ["_law_rows_here", "_law_pair"]
theorem sc_sum : FnScope N_sum P_sum (defScope s_sum) := ⟨rfl, rfl, rfl, by decide +kernel, rfl, by decide +kernel, by decide +kernel⟩
abbrev s_rows : Stmt := topS 24
abbrev N_rows : List Str := ["_law_draws_here", "_law_place", "_law_parties_here", "_law_scale", "_law_many", "_law_rows_here", "_law_size", "_law_k", "_law_draw", "_law_at", "_law_to", "_law_pair", "_law_coins_here"]
abbrev P_rows : List Str := ["_law_draws_here", "_law_place", "_law_parties_here", "_law_scale"]
theorem sc_rows : FnScope N_rows P_rows (defScope s_rows) := ⟨rfl, rfl, rfl, by decide +kernel, rfl, by decide +kernel, by decide +kernel⟩
theorem turn_ne {m i t : Int} (h0 : 0 ≤ i) (h1 : i < m) (t0 : 0 ≤ t) (t1 : t < m - 1) : (i + 1 + t) % m ≠ i := by
  by_cases c : i + 1 + t < m
  · rw [Int.emod_eq_of_lt (by omega) c]
    omega
  · have e : i + 1 + t = (i + 1 + t - m) + m := by omega
    rw [e, Int.add_emod_right, Int.emod_eq_of_lt (by omega) (by omega)]
    omega
theorem two_ky {x y : Nat} (hx : x < 6) (hy : y < 6) : (⟨#[97 + x]⟩ : Str) ++ ⟨#[97 + y]⟩ = ky (6 * x + y) ∧ (6 * x + y) / 6 = x ∧ (6 * x + y) % 6 = y ∧ 6 * x + y < 36 := by
  have a : (6 * x + y) / 6 = x := by omega
  have b : (6 * x + y) % 6 = y := by omega
  refine ⟨?_, a, b, by omega⟩
  rw [show (⟨#[97 + x]⟩ : Str) = S [97 + x] from rfl, show (⟨#[97 + y]⟩ : Str) = S [97 + y] from rfl, S_cat]
  unfold ky kyL
  rw [a, b]
  rfl
theorem pT_at {ps : List Nat} {i : Nat} (h : i < ps.length) : atI (S (pT ps)).cps.toList (i : Int) = some (97 + ps[i]) := atI_nat (by show (pT ps)[i]? = _; unfold pT; rw [List.getElem?_map, List.getElem?_eq_getElem h]; rfl)
theorem abc26 {j : Nat} (h : j < 26) : (Str.ofString "ABCDEFGHIJKLMNOPQRSTUVWXYZ").cps.toList[j]? = some (65 + j) := (by decide +kernel : ∀ j, j < 26 → (Str.ofString "ABCDEFGHIJKLMNOPQRSTUVWXYZ").cps.toList[j]? = some (65 + j)) j h
theorem log_small {m : Nat} (h : m ≤ 10 ^ 60) : ((m : Int)).natAbs.log2 < 1920 := by
  show (m : Nat).log2 < 1920
  by_cases e : m = 0
  · subst e
    decide
  · rw [Nat.log2_lt e]
    exact Nat.lt_of_le_of_lt h (Nat.lt_of_lt_of_le (show 10 ^ 60 < 2 ^ 200 by decide) (Nat.pow_le_pow_right (by decide) (by decide)))
theorem RwZ.app {J : Hp} {L t : Addr} {zs : List (Addr × Wr)} (w : Wr) (m : RwZ J L zs) (nt : J t = none) : RwZ (upd (upd J t (.tup [.str (px w.1.1), .int w.1.2, .str (S w.2)])) L (.lst (zs.map (fun z => V.ref z.1) ++ [.ref t]))) L (zs ++ [(t, w)]) := by
  have m2 := m.mono (same_new (o := .tup [.str (px w.1.1), .int w.1.2, .str (S w.2)]) nt)
  refine ⟨by rw [upd_same, List.map_append]; rfl, fun z hz => ?_⟩
  have e : (upd J t (.tup [.str (px w.1.1), .int w.1.2, .str (S w.2)])) z.1 = some (.tup [.str (px z.2.1.1), .int z.2.1.2, .str (S z.2.2)]) := by
    rcases List.mem_append.mp hz with h | h
    · exact m2.at_ z h
    · rw [List.mem_singleton.mp h]
      exact upd_same
  rw [upd_ne (fun q => by rw [q, m2.sq] at e; cases e)]
  exact e
section
variable {P : Program} {w : World} {K : PySem.W.Frag} {mg : Str → Option Value} {base : Heap} {f : Addr} {fd : FuncData}
def spSum (K : PySem.W.Frag) : Sp := fun vs H Q _ => ∃ (a : Addr) (zs : List (Addr × Wr)) (k : Nat), vs = [.ref a, .str (ky k)] ∧ RwZ H a zs ∧ zs.length ≤ 1000 ∧ ∀ H', Same H H' → Q (.int (sm (rowsOf zs) k)) H'
theorem ok_sum (F : FnP K "_law_sum" s_sum f fd) (m_sum : mg "sum" = none) : FnOk P w K mg base CX0 1 f fd P_sum (spSum K) := by
  refine F.ok sc_sum (fun vs H Q E h => ?_) (fun cdv A outer s H vs Q E hr h => ?_)
  · obtain ⟨a, zs, k, rfl, _⟩ := h
    rfl
  · obtain ⟨a, zs, k, rfl, hz, lz, q⟩ := h
    refine ⟨_, PSs.nox (pss_one (ps_ret (pe_callB (cr_sum rfl) (by rfl) m_sum (by decide +kernel) (pa_cons (pe_lc (own := [("_law_row", 2)]) (g := (gName 2)) (by rfl) sc_sum.nd (pi_list (pv 0)) (blkOk_by (own := [("_law_row", 2)]) (N := N_sum) (sc := defScope s_sum) (by decide +kernel)) (fun _ _ _ _ _ => (pg_name (i := 2) sc_sum.nd rfl (by first | exact .inl rfl | exact .inr rfl))) (fun _ _ _ _ _ => (pts_one (pt_cmpR op_eq (pe_ix (ix_tup_K (K := K) rfl) (pv 2) pe_int (fun _ _ => rfl)) (pv 1) (nomark _)))) (fun _ _ _ _ _ => (pe_ix (ix_tup_K (K := K) rfl) (pv 2) pe_int (fun _ _ => rfl)))) pa_nil)))), ?_⟩
    walk_at "go"
    refine ⟨⟨_, SqL.of hz.sq⟩, fun D nD => ?_⟩
    refine lc_rows (fun w : Wr => fP (fun j => decide (j = k)) w.1) (fun w => V.int w.1.2) (SqL.of hz.sq) (by omega) nD (fun _ => rfl) ?_ ?_ ?_
    · intro z H1 Q1 hm s1 q1
      have t1 := s1 _ _ (hz.at_ z hm)
      walk_at "go"
      refine ⟨z.1, _, _, _, rfl, rfl, SqT.of t1, rfl, ?_⟩
      walk_at "go"
      rw [px_ky]
      exact q1
    · intro z H1 Q1 hm _ s1 q1
      have t1 := s1 _ _ (hz.at_ z hm)
      walk_at "go"
      exact ⟨z.1, _, _, _, rfl, rfl, SqT.of t1, rfl, q1⟩
    · intro H1 s1 eD
      walk_at "go"
      have e2 : ((zs.map (·.2)).filter fun w : Wr => fP (fun j => decide (j = k)) w.1).map (fun w => V.int w.1.2) = (((zs.map (·.2)).filter fun w : Wr => fP (fun j => decide (j = k)) w.1).map (fun w => w.1.2)).map V.int := by
        rw [List.map_map]
        rfl
      rw [e2] at eD
      refine ⟨D, _, rfl, SqL.of eD, ?_⟩
      have e3 := sum_rows (fun j => decide (j = k)) zs
      rw [e3]
      exact q _ s1
theorem Tk.putL {K : PySem.W.Frag} {a p q : Addr} {ds : List Int} {n : Nat} {H0 H1 : Hp} {o : HO} (t : Tk K a p ds n H0 H1) (h : H0 q = none) (nq : q ≠ p) (na : q ≠ a) : Tk K a p ds n H0 (upd H1 q o) := by
  obtain ⟨m, e⟩ := t.pl
  refine ⟨by rw [upd_ne na.symm]; exact t.hA, t.hd, t.ne, fun b u n1 n2 => ?_, m, by rw [upd_ne nq.symm]; exact e⟩
  rw [upd_ne (ne_of_none n2 h)]
  exact t.sb b u n1 n2
def spRows (K : PySem.W.Frag) : Sp := fun vs H Q _ => ∃ (a p : Addr) (n : Nat) (ds : List Int) (ps : List Nat) (sc : Int), vs = [.ref a, .ref p, .str (S (pT ps)), .int sc] ∧ Tk K a p ds n H H ∧ ps.Nodup ∧ (∀ x ∈ ps, x < 6) ∧ 2 ≤ ps.length ∧ ps.length ≤ 6 ∧
  ∀ (L : Addr) (zs : List (Addr × Wr)) H', Tk K a p ds n H H' → RwZ H' L zs → (∀ z ∈ zs, RowT z.2) → H L = none → zs.length ≤ 50 → Q (.ref L) H'
theorem ok_rows (F : FnP K "_law_rows" s_rows f fd) (m_len : mg "len" = none) (m_int : mg "int" = none) (m_range : mg "range" = none) (m_str : mg "str" = none) (c_take : Cal P w K mg base 1 "_law_take" (spTake K)) (c_coins : Cal P w K mg base 3 "_law_coins" (spCoins K)) (c_sum : Cal P w K mg base 1 "_law_sum" (spSum K)) : FnOk P w K mg base CX0 4 f fd P_rows (spRows K) := by
  refine F.ok sc_rows (fun vs H Q E h => ?_) (fun cdv A outer s H vs Q E hr h => ?_)
  · obtain ⟨a, p, n, ds, ps, sc, rfl, _⟩ := h
    rfl
  · obtain ⟨a, p, n, ds, ps, sc, rfl, hT, nd, p6, l2, l6, q⟩ := h
    refine ⟨_, PSs.nox (pss_cons (ps_set (i := 4) sc_rows.nd rfl (by first | exact .inl rfl | exact .inr rfl) (pe_callB call_len_str (by rfl) m_len PySem.boot_len (pa_cons (pv 2) pa_nil)))
      (pss_cons (ps_set (i := 5) sc_rows.nd rfl (by first | exact .inl rfl | exact .inr rfl) (pe_lst pa_nil))
      (pss_cons (ps_set (i := 6) sc_rows.nd rfl (by first | exact .inl rfl | exact .inr rfl) (pe_op op_mod (pe_callTy call_int1 (by rfl) m_int (by decide +kernel) (pa_cons (pe_cl c_take hr (by decide) (by rfl) (pa_cons (pv 0) (pa_cons (pv 1) pa_nil))) pa_nil)) pe_int))
      (pss_cut (ps_if (pt_cmpR op_eq (pe_op op_mod (pe_callTy call_int1 (by rfl) m_int (by decide +kernel) (pa_cons (pe_cl c_take hr (by decide) (by rfl) (pa_cons (pv 0) (pa_cons (pv 1) pa_nil))) pa_nil)) pe_int) pe_int (nomark _)) (pss_one (ps_set (i := 6) sc_rows.nd rfl (by first | exact .inl rfl | exact .inr rfl) (pe_op op_add (pv 6) pe_int))) pss_nil)
      (pss_cons (ps_for PassesOwn.never rfl (pi_range1 (by rfl) m_range (pa_cons (pv 6) pa_nil)) (pg_name (i := 7) sc_rows.nd rfl (by first | exact .inl rfl | exact .inr rfl))
        (pss_cons (ps_set (i := 8) sc_rows.nd rfl (by first | exact .inl rfl | exact .inr rfl) (pe_cl c_take hr (by decide) (by rfl) (pa_cons (pv 0) (pa_cons (pv 1) pa_nil))))
      (pss_cons (ps_set (i := 9) sc_rows.nd rfl (by first | exact .inl rfl | exact .inr rfl) (pe_op op_mod (pe_callTy call_int1 (by rfl) m_int (by decide +kernel) (pa_cons (pe_op op_fdiv (pv 8) pe_int) pa_nil)) (pv 4)))
      (pss_cons (ps_set (i := 10) sc_rows.nd rfl (by first | exact .inl rfl | exact .inr rfl) (pe_op op_mod (pe_callTy call_int1 (by rfl) m_int (by decide +kernel) (pa_cons (pe_op op_add (pe_op op_add (pv 9) pe_int) (pe_op op_mod (pe_callTy call_int1 (by rfl) m_int (by decide +kernel) (pa_cons (pe_op op_fdiv (pv 8) pe_int) pa_nil)) (pe_op op_sub (pv 4) pe_int))) pa_nil)) (pv 4)))
      (pss_cons (ps_set (i := 11) sc_rows.nd rfl (by first | exact .inl rfl | exact .inr rfl) (pe_op op_add_str (pe_ix ix_str (pv 2) (pv 9) (fun _ _ => rfl)) (pe_ix ix_str (pv 2) (pv 10) (fun _ _ => rfl))))
      (pss_one (ps_if (pt_cmpR op_eq (pe_op op_mod (pe_callTy call_int1 (by rfl) m_int (by decide +kernel) (pa_cons (pv 8) pa_nil)) pe_int) pe_int (nomark _)) (pss_one (ps_expr (pe_bm PySem.F.plainAttrs_list PySem.F.slot_list_append PySem.F.type_list_append mt_append (pv 5) (pa_cons (pe_tup (pa_cons pe_str (pa_cons pe_int (pa_cons (pe_ix ix_str pe_str (pe_op op_mod (pe_callTy call_int1 (by rfl) m_int (by decide +kernel) (pa_cons (pe_op op_fdiv (pv 8) pe_int) pa_nil)) pe_int) (fun _ _ => rfl)) pa_nil)))) pa_nil)))) (pss_cons (ps_set (i := 12) sc_rows.nd rfl (by first | exact .inl rfl | exact .inr rfl) (pe_cl c_coins hr (by decide) (by rfl) (pa_cons (pv 0) (pa_cons (pv 1) (pa_cons (pv 3) pa_nil)))))
      (pss_cut (ps_if (PW.pt (pw_and (pt_cmpR op_eq (pv 3) pe_int (nomark _)) (pw_and1 (pt_cmpR op_gt (pe_cl c_sum hr (by decide) (by rfl) (pa_cons (pv 5) (pa_cons (pv 11) pa_nil))) pe_int (nomark _))))) (pss_one (ps_set (i := 12) sc_rows.nd rfl (by first | exact .inl rfl | exact .inr rfl) pe_int)) pss_nil)
      (pss_one (ps_expr (pe_bm PySem.F.plainAttrs_list PySem.F.slot_list_append PySem.F.type_list_append mt_append (pv 5) (pa_cons (pe_tup (pa_cons (pv 11) (pa_cons (pv 12) (pa_cons (pe_op op_add_str (pv 11) (pe_callTy call_str_int (by rfl) m_str (by decide +kernel) (pa_cons (pv 12) pa_nil))) pa_nil)))) pa_nil)))))))))))))
      (pss_one (ps_ret (pv 5)))))))), ?_⟩
    have hlen : (S (pT ps)).length ≤ sizeLine := by rw [S_len]; exact szl (by unfold pT; rw [List.length_map]; omega)
    have e1 : (S (pT ps)).length = ps.length := by rw [S_len]; exact List.length_map ..
    obtain ⟨mm, em⟩ := hT.pl
    have La : ∀ L : Addr, H L = none → L ≠ a ∧ L ≠ p := fun L nL => ⟨(fun e => by rw [e, hT.hA] at nL; cases nL), (fun e => by rw [e, em] at nL; cases nL)⟩
    walk_at "go"
    rw [e1]
    walk_at "go"
    intro L nL
    have sL := same_new (o := .lst []) nL
    have hT1 := hT.more sL
    have hz1 : RwZ (upd H L (.lst [])) L [] := ⟨upd_same, fun z h => absurd h (by simp)⟩
    generalize upd H L (.lst []) = H1 at sL hT1 hz1
    obtain ⟨m1, em1⟩ := hT1.pl
    walk_at "go"
    refine ⟨a, p, n, m1, ds, rfl, SqL.of hT1.hA, hT1.hd, em1, hT1.ne, fun r r0 r1 => ?_⟩
    obtain ⟨hT2, sb2⟩ := hT1.next em1
    have hz2 := hz1.sb sb2 em1 (La L nL).2
    generalize upd H1 p (.lst [.int ((m1 + 1 : Nat) : Int)]) = H2 at hT2 hz2
    clear sb2
    walk_at "go"
    refine ⟨fun σ J => Tk K a p ds n H J ∧ RwZ J L [] ∧ ∃ sz : Nat, sz ≤ 43 ∧ σ = [some (.ref a), some (.ref p), some (.str (S (pT ps))), some (.int sc), some (.int (ps.length : Int)), some (.ref L), some (.int (sz : Int)), none, none, none, none, none, none], ?_, ?_⟩
    · obtain ⟨m2, em2⟩ := hT2.pl
      walk_at "go"
      refine ⟨a, p, n, m2, ds, rfl, SqL.of hT2.hA, hT2.hd, em2, hT2.ne, fun r2 r20 r21 => ?_⟩
      obtain ⟨hT3, sb3⟩ := hT2.next em2
      have hz3 := hz2.sb sb3 em2 (La L nL).2
      generalize upd H2 p (.lst [.int ((m2 + 1 : Nat) : Int)]) = H3 at hT3 hz3
      clear sb3
      walk_at "go"
      refine ite2 (fun e => ?_) (fun e => ?_)
      · walk_at "go"
        exact ⟨(r % 14 + 30).toNat, by omega, by rw [show (((r % 14 + 30).toNat : Nat) : Int) = r % 14 + 30 by omega]; rfl⟩
      · walk_at "go"
        exact ⟨(r % 14).toNat, by omega, by rw [show (((r % 14).toNat : Nat) : Int) = r % 14 by omega]; rfl⟩
    rintro σ J ⟨hT4, hz4, sz, lsz, rfl⟩
    clear hz1 hT1 hz2 hT2 em1
    walk_at "go"
    refine for_gen (n := sz) (fun i σ J => Tk K a p ds n H J ∧ (∃ zs, RwZ J L zs ∧ (∀ z ∈ zs, RowT z.2) ∧ zs.length ≤ i) ∧ ∃ v7 v8 v9 v10 v11 v12, σ = [some (.ref a), some (.ref p), some (.str (S (pT ps))), some (.int sc), some (.int (ps.length : Int)), some (.ref L), some (.int (sz : Int)), v7, v8, v9, v10, v11, v12]) ⟨hT4, ⟨[], hz4, fun z h => absurd h (by simp), Nat.le_refl _⟩, _, _, _, _, _, _, rfl⟩ ?_ ?_ ?_ ?_
    · intro i σ J hi _
      show i < ((sz : Int)).toNat
      omega
    · intro σ J _
      show ((sz : Int)).toNat ≤ sz
      omega
    · rintro i σ J x J' hi ⟨hT5, ⟨zs, hz5, rt5, lz5⟩, v7, v8, v9, v10, v11, v12, rfl⟩ ⟨rfl, rfl⟩
      obtain ⟨m5, em5⟩ := hT5.pl
      walk_at "go"
      refine ⟨a, p, n, m5, ds, rfl, SqL.of hT5.hA, hT5.hd, em5, hT5.ne, fun d d0 d1 => ?_⟩
      obtain ⟨hT6, sb6⟩ := hT5.next em5
      have hz6 := hz5.sb sb6 em5 (La L nL).2
      generalize upd J' p (.lst [.int ((m5 + 1 : Nat) : Int)]) = J6 at hT6 hz6
      clear sb6 hT5 hz5 em5
      have lp : (0 : Int) < (ps.length : Int) := by omega
      have lp1 : (0 : Int) < (ps.length : Int) - 1 := by omega
      walk_at "go"
      obtain ⟨i1, ei1, hi1⟩ : ∃ i1 : Nat, d / 4 % (ps.length : Int) = (i1 : Int) ∧ i1 < ps.length := ⟨(d / 4 % (ps.length : Int)).toNat, by have := Int.emod_nonneg (d / 4) (show (ps.length : Int) ≠ 0 by omega); omega, by have := Int.emod_lt_of_pos (d / 4) lp; have := Int.emod_nonneg (d / 4) (show (ps.length : Int) ≠ 0 by omega); omega⟩
      have t0 := Int.emod_nonneg (d / 24) (show (ps.length : Int) - 1 ≠ 0 by omega)
      have t1 := Int.emod_lt_of_pos (d / 24) lp1
      have tn := turn_ne (m := (ps.length : Int)) (i := (i1 : Int)) (by omega) (by omega) t0 t1
      have n0 := Int.emod_nonneg ((i1 : Int) + 1 + d / 24 % ((ps.length : Int) - 1)) (show (ps.length : Int) ≠ 0 by omega)
      have n1 := Int.emod_lt_of_pos ((i1 : Int) + 1 + d / 24 % ((ps.length : Int) - 1)) lp
      obtain ⟨i2, ei2, hi2⟩ : ∃ i2 : Nat, ((i1 : Int) + 1 + d / 24 % ((ps.length : Int) - 1)) % (ps.length : Int) = (i2 : Int) ∧ i2 < ps.length := ⟨(((i1 : Int) + 1 + d / 24 % ((ps.length : Int) - 1)) % (ps.length : Int)).toNat, by omega, by omega⟩
      dsimp only [List.set]
      rw [ei1, ei2]
      have x6 := p6 _ (List.getElem_mem hi1)
      have y6 := p6 _ (List.getElem_mem hi2)
      have xy : ps[i1] ≠ ps[i2] := fun z => by
        have := (List.getElem_inj nd).mp z
        omega
      have ea1 := pT_at hi1
      have ea2 := pT_at hi2
      generalize ps[i1] = x at x6 xy ea1
      generalize ps[i2] = y at y6 xy ea2
      obtain ⟨ek, k1, k2, k36⟩ := two_ky x6 y6
      generalize 6 * x + y = k at ek k1 k2 k36
      have hk : KOk k := ⟨k36, by rw [k1, k2]; exact xy⟩
      refine ⟨S (pT ps), _, 97 + x, rfl, rfl, hlen, ea1, ?_⟩
      walk_at "go"
      refine ⟨S (pT ps), _, 97 + y, rfl, rfl, hlen, ea2, ?_⟩
      refine ⟨_, _, rfl, rfl, szl (show 1 + 1 ≤ 2000 by decide), ?_⟩
      rw [ek]
      walk_at "go"
      refine ite2 (fun e => ?_) (fun e => ?_)
      · walk_at "go"
        refine ⟨.inl ⟨rfl, _, SqL.of hz6.sq⟩, ?_⟩
        walk_at "go"
        obtain ⟨j, ej, hj⟩ : ∃ j : Nat, d / 4 % 26 = (j : Int) ∧ j < 26 := ⟨(d / 4 % 26).toNat, by omega, by omega⟩
        have ea : atI (Str.ofString "ABCDEFGHIJKLMNOPQRSTUVWXYZ").cps.toList (d / 4 % 26) = some (65 + j) := by rw [ej]; exact atI_nat (abc26 hj)
        refine ⟨_, _, 65 + j, rfl, rfl, by decide +kernel, ea, ?_⟩
        walk_at "go"
        intro t nt
        walk_at "go"
        refine ⟨L, _, _, rfl, rfl, same_new nt _ _ hz6.sq, by rw [List.length_map]; exact szlt (by omega), ?_⟩
        have rz := hz6.app (t := t) (w := ((none, 0), [65 + j])) nt
        have hTn := (hT6.more (same_new (o := .tup [.str (px none), .int 0, .str (S [65 + j])]) nt)).putL (o := .lst (zs.map (fun z => V.ref z.1) ++ [.ref t])) nL (La L nL).2 (La L nL).1
        refine ⟨hTn, ⟨_, rz, fun z hz => ?_, by rw [List.length_append, List.length_singleton]; omega⟩, _, _, _, _, _, _, rfl⟩
        rcases List.mem_append.mp hz with h | h
        · exact rt5 z h
        · rw [List.mem_singleton.mp h]
          exact .inl ⟨rfl, rfl, 65 + j, by omega, rfl⟩
      · walk_at "go"
        refine ⟨a, p, n, ds, sc, rfl, hT6.slf, fun c J7 hT7 c0 c1 => ?_⟩
        obtain ⟨m6, em6⟩ := hT6.pl
        have hz7 := hz6.sb hT7.sb em6 (La L nL).2
        have hT7' := hT6.tr hT7
        clear hT7 hT6 hz6
        walk_at "go"
        refine ⟨fun σ J => Tk K a p ds n H J ∧ RwZ J L zs ∧ ∃ c : Nat, c ≤ 10 ^ 60 ∧ σ = [some (.ref a), some (.ref p), some (.str (S (pT ps))), some (.int sc), some (.int (ps.length : Int)), some (.ref L), some (.int (sz : Int)), some (.int (0 + (i : Int))), some (.int d), some (.int (i1 : Int)), some (.int (i2 : Int)), some (.str (ky k)), some (.int (c : Int))], ?_, ?_⟩
        · have st : ∃ c' : Nat, c = (c' : Int) := ⟨c.toNat, by omega⟩
          obtain ⟨c', rfl⟩ := st
          walk_at "go"
          refine ite2 (fun e => ?_) (fun e => ?_)
          · walk_at "go"
            refine ⟨L, zs, k, rfl, hz7, by omega, fun J8 s8 => ?_⟩
            have hT8 := hT7'.more s8
            have hz8 := hz7.mono s8
            walk_at "go"
            refine ite2 (fun e => ?_) (fun e => ?_)
            · walk_at "go"
              exact ⟨0, Nat.zero_le _, rfl⟩
            · walk_at "go"
              exact ⟨c', by omega, rfl⟩
          · walk_at "go"
            exact ⟨c', by omega, rfl⟩
        rintro σ J ⟨hT9, hz9, m, hm, rfl⟩
        walk_at "go"
        refine ⟨.inl ⟨rfl, _, SqL.of hz9.sq⟩, ?_⟩
        walk_at "go"
        refine ⟨log_small hm, ?_⟩
        have ln := TL.numL_len (n := m) (k := 61) (by decide) (Nat.lt_of_le_of_lt hm (by decide))
        have en := SX.num_S m
        have l2 : (ky k).length = 2 := by unfold ky; rw [S_len]; rfl
        refine ⟨_, _, rfl, rfl, by rw [l2, en, S_len]; exact szl (by omega), ?_⟩
        have ec : ky k ++ Str.ofString (toString ((m : Nat) : Int)) = S (kyL k ++ TL.numL m) := by
          rw [en]
          unfold ky
          rw [S_cat]
        rw [ec]
        walk_at "go"
        intro t nt
        walk_at "go"
        refine ⟨L, _, _, rfl, rfl, same_new nt _ _ hz9.sq, by rw [List.length_map]; exact szlt (by omega), ?_⟩
        have rz := hz9.app (t := t) (w := ((some k, (m : Int)), kyL k ++ TL.numL m)) nt
        have hTn := (hT9.more (same_new (o := .tup [.str (px (some k)), .int (m : Int), .str (S (kyL k ++ TL.numL m))]) nt)).putL (o := .lst (zs.map (fun z => V.ref z.1) ++ [.ref t])) nL (La L nL).2 (La L nL).1
        refine ⟨hTn, ⟨_, rz, fun z hz => ?_, by rw [List.length_append, List.length_singleton]; omega⟩, _, _, _, _, _, _, rfl⟩
        rcases List.mem_append.mp hz with h | h
        · exact rt5 z h
        · rw [List.mem_singleton.mp h]
          exact .inr ⟨k, rfl, hk, Int.natCast_nonneg _, by show (m : Int) < 10 ^ 62; omega, rfl⟩
    · rintro σ J ⟨hT5, ⟨zs, hz5, rt5, lz5⟩, v7, v8, v9, v10, v11, v12, rfl⟩
      walk_at "go"
      exact q L zs J hT5 hz5 rt5 nL (by omega)
end
end Z
set_option pp.maxSteps 700
set_option Elab.async false
set_option linter.all false
set_option maxRecDepth 100000
set_option maxHeartbeats 4000000
open SX (S S_inj S_len S_cat)
namespace Z
open PySem PySem.Spec PyProof.Rows L2
open C8 (pss_cut tCut)
local macro_rules | `(tactic| walk_at "num") => `(tactic| first | rfl | omega | decide | exact Nat.le_of_lt (small1000 (by simp)) | exact ⟨by omega, by omega⟩ | exact ⟨by omega, by omega, by omega⟩ | exact ⟨by decide, by decide, by decide⟩ | exact Or.inl ⟨by omega, by omega⟩ | exact Or.inr ⟨by omega, by omega⟩)
local macro_rules | `(tactic| walk_at "go") => `(tactic| repeat (first | refine ⟨_, rfl, ?_⟩ | refine ⟨_, _, rfl, rfl, ?_⟩ | refine ⟨_, _, rfl, ?_⟩ | (refine ⟨_, _, rfl, rfl, ?_, ?_⟩; focus walk_at "num") | refine Or.inl ⟨_, rfl, ?_⟩ | refine ⟨_, _, _, _, rfl, rfl, (by assumption), (by rfl), ?_⟩ | refine ⟨_, _, _, _, _, rfl, (by assumption), (by assumption), (by assumption), (by rfl), ?_⟩ | refine ⟨rfl, ?_⟩ | (refine And.intro ?_ ?_; focus walk_at "num")))
abbrev s_sums : Stmt := topS 25
abbrev N_sums : List Str := ["_law_rows_here", "_law_found", "_law_debtor", "_law_creditor", "_law_total"]
abbrev P_sums : List Str := ["_law_rows_here"]
theorem sc_sums : FnScope N_sums P_sums (defScope s_sums) := ⟨rfl, rfl, rfl, by decide +kernel, rfl, by decide +kernel, by decide +kernel⟩
abbrev s_law_net : Stmt := topS 26
abbrev N_law_net : List Str := ["_law_rows_here", "_law_found", "_law_party", "_law_row", "_law_received", "_law_given"]
abbrev P_law_net : List Str := ["_law_rows_here"]
theorem sc_law_net : FnScope N_law_net P_law_net (defScope s_law_net) := ⟨rfl, rfl, rfl, by decide +kernel, rfl, by decide +kernel, by decide +kernel⟩
/-- rows by their pairs and coins, whatever comes behind -/
structure Rw2 (H : Hp) (a : Addr) (zs : List (Addr × (Option Nat × Int))) : Prop where
  sq : H a = some (.lst (zs.map fun z => V.ref z.1))
  at_ : ∀ z ∈ zs, ∃ rest, H z.1 = some (.tup (.str (px z.2.1) :: .int z.2.2 :: rest))
theorem Rw2.mono {H H' : Hp} {a : Addr} {zs : List (Addr × (Option Nat × Int))} (s : Same H H') (m : Rw2 H a zs) : Rw2 H' a zs := ⟨s _ _ m.sq, fun z hz => (m.at_ z hz).imp fun _ e => s _ _ e⟩
theorem RwZ.r2 {H : Hp} {a : Addr} {zs : List (Addr × Wr)} (m : RwZ H a zs) : Rw2 H a (zs.map fun z => (z.1, z.2.1)) := by
  refine ⟨by rw [m.sq, List.map_map]; rfl, fun z hz => ?_⟩
  obtain ⟨w, hw, rfl⟩ := List.mem_map.mp hz
  exact ⟨_, m.at_ w hw⟩
theorem abc_at : ∀ i, i < 6 → (Str.ofString "abcdef").cps[i]? = some (97 + i) := by decide +kernel
theorem abc_sz : (Str.ofString "abcdef").cps.size = 6 := by decide +kernel
def pf (f : Nat → Nat) : Option Nat → Str
  | none => S []
  | some k => lt1 (f k)
theorem px_tail (o : Option Nat) : Txt.slice (px o) (some 1) none = pf (· % 6) o := by
  cases o with
  | none => exact SX.slice_from (by decide)
  | some k => exact SX.slice_from (by decide)
theorem px_head (o : Option Nat) : Txt.slice (px o) none (some 1) = pf (· / 6) o := by
  cases o with
  | none => exact SX.slice_to (by decide)
  | some k => exact SX.slice_to (by decide)
theorem px_len (o : Option Nat) : (px o).length ≤ sizeLine := by
  cases o with
  | none => exact szl (by decide)
  | some k => exact szl (show 2 ≤ 2000 by decide)
theorem lt1_dec (w : Option Nat × Int) (f : Nat → Nat) (p : Nat) : decide (V.str (pf f w.1) = V.str (lt1 p)) = fP (fun j => decide (f j = p)) w := by
  obtain ⟨o, c⟩ := w
  cases o with
  | none =>
    refine decide_eq_false fun e => ?_
    have := S_inj (V.str.inj e)
    cases this
  | some k => exact decide_eq_decide.mpr ⟨fun e => lt1_inj (V.str.inj e), fun e => by show V.str (lt1 (f k)) = _; rw [e]⟩
theorem at_0 {α : Type} {x : α} {xs : List α} : atI (x :: xs) 0 = some x := show atI _ ((0 : Nat) : Int) = _ from atI_nat rfl
theorem at_1 {α : Type} {x y : α} {xs : List α} : atI (x :: y :: xs) 1 = some y := show atI _ ((1 : Nat) : Int) = _ from atI_nat rfl
section
variable {P : Program} {w : World} {K : PySem.W.Frag} {mg : Str → Option Value} {base : Heap} {f : Addr} {fd : FuncData}
/-- a list of sums -/
structure EnZ (H : Hp) (a : Addr) (es : List (Addr × Nat)) (g : Nat → Int) : Prop where
  sq : H a = some (.lst (es.map fun z => V.ref z.1))
  at_ : ∀ z ∈ es, H z.1 = some (.tup [.str (ky z.2), .int (g z.2)])
theorem EnZ.mono {H H' : Hp} {a : Addr} {es : List (Addr × Nat)} {g : Nat → Int} (s : Same H H') (m : EnZ H a es g) : EnZ H' a es g := ⟨s _ _ m.sq, fun z hz => s _ _ (m.at_ z hz)⟩
theorem EnZ.app {J : Hp} {L t : Addr} {es : List (Addr × Nat)} {g : Nat → Int} {k : Nat} (m : EnZ J L es g) (nt : J t = none) : EnZ (upd (upd J t (.tup [.str (ky k), .int (g k)])) L (.lst (es.map (fun z => V.ref z.1) ++ [.ref t]))) L (es ++ [(t, k)]) g := by
  have m2 := m.mono (same_new (o := .tup [.str (ky k), .int (g k)]) nt)
  refine ⟨by rw [upd_same, List.map_append]; rfl, fun z hz => ?_⟩
  have e : (upd J t (.tup [.str (ky k), .int (g k)])) z.1 = some (.tup [.str (ky z.2), .int (g z.2)]) := by
    rcases List.mem_append.mp hz with h | h
    · exact m2.at_ z h
    · rw [List.mem_singleton.mp h]
      exact upd_same
  rw [upd_ne (fun q => by rw [q, m2.sq] at e; cases e)]
  exact e
def spSums (K : PySem.W.Frag) : Sp := fun vs H Q _ => ∃ (a : Addr) (zs : List (Addr × Wr)), vs = [.ref a] ∧ RwZ H a zs ∧ zs.length ≤ 1000 ∧ ∀ (L : Addr) (es : List (Addr × Nat)) H', Same H H' → EnZ H' L es (sm (rowsOf zs)) → es.map (·.2) = (List.range 36).filter (fun k => decide (0 < sm (rowsOf zs) k)) → Q (.ref L) H'
theorem ok_sums (F : FnP K "_law_sums" s_sums f fd) (c_sum : Cal P w K mg base 1 "_law_sum" (spSum K)) : FnOk P w K mg base CX0 2 f fd P_sums (spSums K) := by
  refine F.ok sc_sums (fun vs H Q E h => ?_) (fun cdv A outer s H vs Q E hr h => ?_)
  · obtain ⟨a, zs, rfl, _⟩ := h
    rfl
  · obtain ⟨a, zs, rfl, hz, lz, q⟩ := h
    refine ⟨_, PSs.nox (pss_cons (ps_set (i := 1) sc_sums.nd rfl (by first | exact .inl rfl | exact .inr rfl) (pe_lst pa_nil))
      (pss_cons (ps_for PassesOwn.never rfl (pi_str pe_str) (pg_name (i := 2) sc_sums.nd rfl (by first | exact .inl rfl | exact .inr rfl))
        (pss_one (ps_for PassesOwn.never rfl (pi_str pe_str) (pg_name (i := 3) sc_sums.nd rfl (by first | exact .inl rfl | exact .inr rfl))
        (pss_cons (ps_set (i := 4) sc_sums.nd rfl (by first | exact .inl rfl | exact .inr rfl) (pe_cl c_sum hr (by decide) (by rfl) (pa_cons (pv 0) (pa_cons (pe_op op_add_str (pv 2) (pv 3)) pa_nil))))
      (pss_one (ps_if (pt_cmpR op_gt (pv 4) pe_int (nomark _)) (pss_one (ps_expr (pe_bm PySem.F.plainAttrs_list PySem.F.slot_list_append PySem.F.type_list_append mt_append (pv 1) (pa_cons (pe_tup (pa_cons (pe_op op_add_str (pv 2) (pv 3)) (pa_cons (pv 4) pa_nil))) pa_nil)))) pss_nil))))))
      (pss_one (ps_ret (pv 1))))), ?_⟩
    walk_at "go"
    intro L nL
    have sL := same_new (o := .lst []) nL
    have e0 : EnZ (upd H L (.lst [])) L [] (sm (rowsOf zs)) := ⟨upd_same, fun z h => absurd h (by simp)⟩
    generalize upd H L (.lst []) = H1 at sL e0
    walk_at "go"
    refine for_gen (n := 6) (fun i σ J => Same H J ∧ (∃ es, EnZ J L es (sm (rowsOf zs)) ∧ es.map (·.2) = (List.range (6 * i)).filter (fun k => decide (0 < sm (rowsOf zs) k))) ∧ ∃ v2 v3 v4, σ = [some (.ref a), some (.ref L), v2, v3, v4]) ⟨sL, ⟨[], e0, rfl⟩, _, _, _, rfl⟩ ?_ ?_ ?_ ?_
    · rintro i σ J hi _
      show i < (Str.ofString "abcdef").cps.size
      rw [abc_sz]
      exact hi
    · rintro σ J _
      show (Str.ofString "abcdef").cps.size ≤ 6
      rw [abc_sz]
      exact Nat.le_refl _
    · rintro i σ J x J' hi ⟨s1, ⟨es, en, ees⟩, v2, v3, v4, rfl⟩ ⟨rfl, c, ec, rfl⟩
      rw [abc_at i hi] at ec
      cases ec
      walk_at "go"
      refine for_gen (n := 6) (fun j σ J => Same H J ∧ (∃ es, EnZ J L es (sm (rowsOf zs)) ∧ es.map (·.2) = (List.range (6 * i + j)).filter (fun k => decide (0 < sm (rowsOf zs) k))) ∧ ∃ v3 v4, σ = [some (.ref a), some (.ref L), some (.str ⟨#[97 + i]⟩), v3, v4]) ⟨s1, ⟨es, en, ees⟩, _, _, rfl⟩ ?_ ?_ ?_ ?_
      · rintro i σ J hi _
        show i < (Str.ofString "abcdef").cps.size
        rw [abc_sz]
        exact hi
      · rintro σ J _
        show (Str.ofString "abcdef").cps.size ≤ 6
        rw [abc_sz]
        exact Nat.le_refl _
      · rintro j σ J x J' hj ⟨s1, ⟨es, en, ees⟩, v3, v4, rfl⟩ ⟨rfl, c, ec, rfl⟩
        rw [abc_at j hj] at ec
        cases ec
        obtain ⟨ek, k1, k2, k36⟩ := two_ky hi hj
        have er : (List.range (6 * i + (j + 1))).filter (fun k => decide (0 < sm (rowsOf zs) k)) = (List.range (6 * i + j)).filter (fun k => decide (0 < sm (rowsOf zs) k)) ++ (if 0 < sm (rowsOf zs) (6 * i + j) then [6 * i + j] else []) := by
          rw [← Nat.add_assoc, List.range_succ, List.filter_append]
          congr 1
          by_cases c : 0 < sm (rowsOf zs) (6 * i + j)
          · rw [if_pos c]
            simp [c]
          · rw [if_neg c]
            simp [c]
        generalize 6 * i + j = k at ek k1 k2 k36 er ees
        walk_at "go"
        refine ⟨szl (show 1 + 1 ≤ 2000 by decide), ?_⟩
        rw [ek]
        walk_at "go"
        refine ⟨a, zs, k, rfl, hz.mono s1, lz, fun J1 s2 => ?_⟩
        have s3 := s1.trans s2
        have en1 := en.mono s2
        walk_at "go"
        refine ite2 (fun e => ?_) (fun e => ?_)
        · have e : 0 < sm (rowsOf zs) k := of_decide_eq_true e
          rw [if_pos e] at er
          walk_at "go"
          refine ⟨.inl ⟨rfl, _, SqL.of en1.sq⟩, ?_⟩
          walk_at "go"
          refine ⟨szl (show 1 + 1 ≤ 2000 by decide), ?_⟩
          rw [ek]
          walk_at "go"
          intro t nt
          walk_at "go"
          have le : es.length ≤ 36 := by
            have h1 := congrArg List.length ees
            rw [List.length_map] at h1
            rw [h1]
            exact Nat.le_trans (List.length_filter_le ..) (by rw [List.length_range]; omega)
          refine ⟨L, _, _, rfl, rfl, same_new nt _ _ en1.sq, by rw [List.length_map]; exact szlt (by omega), ?_⟩
          refine ⟨Z.Same.mut (s3.trans (same_new nt)) nL, ⟨_, en1.app nt, by rw [List.map_append, er, ees]; rfl⟩, _, _, rfl⟩
        · have e : ¬ 0 < sm (rowsOf zs) k := fun z => e (decide_eq_true z)
          rw [if_neg e, List.append_nil] at er
          walk_at "go"
          exact ⟨⟨es, en1, by rw [er, ees]⟩, _, _, rfl⟩
      · rintro σ J ⟨s1, ⟨es, en, ees⟩, v3, v4, rfl⟩
        exact ⟨s1, ⟨es, en, ees⟩, _, _, _, rfl⟩
    · rintro σ J ⟨s1, ⟨es, en, ees⟩, v2, v3, v4, rfl⟩
      walk_at "go"
      exact q L es J s1 en ees
end
end Z
set_option pp.maxSteps 700
set_option Elab.async false
set_option linter.all false
set_option maxRecDepth 100000
set_option maxHeartbeats 4000000
open SX (S S_inj S_len S_cat)
namespace Z
open PySem PySem.Spec PyProof.Rows L2
open C8 (pss_cut tCut)
local macro_rules | `(tactic| walk_at "num") => `(tactic| first | rfl | omega | decide | exact Nat.le_of_lt (small1000 (by simp)) | exact ⟨by omega, by omega⟩ | exact ⟨by omega, by omega, by omega⟩ | exact ⟨by decide, by decide, by decide⟩ | exact Or.inl ⟨by omega, by omega⟩ | exact Or.inr ⟨by omega, by omega⟩)
local macro_rules | `(tactic| walk_at "go") => `(tactic| repeat (first | refine ⟨_, rfl, ?_⟩ | refine ⟨_, _, rfl, rfl, ?_⟩ | refine ⟨_, _, rfl, ?_⟩ | (refine ⟨_, _, rfl, rfl, ?_, ?_⟩; focus walk_at "num") | refine Or.inl ⟨_, rfl, ?_⟩ | refine ⟨_, _, _, _, rfl, rfl, (by assumption), (by rfl), ?_⟩ | refine ⟨_, _, _, _, _, rfl, (by assumption), (by assumption), (by assumption), (by rfl), ?_⟩ | refine ⟨rfl, ?_⟩ | (refine And.intro ?_ ?_; focus walk_at "num")))
abbrev s_is_integer : Stmt := topS 27
abbrev N_is_integer : List Str := ["_law_value"]
abbrev P_is_integer : List Str := ["_law_value"]
theorem sc_is_integer : FnScope N_is_integer P_is_integer (defScope s_is_integer) := ⟨rfl, rfl, rfl, by decide +kernel, rfl, by decide +kernel, by decide +kernel⟩
abbrev s_same_row : Stmt := topS 29
abbrev N_same_row : List Str := ["_law_actual", "_law_expected", "_law_k"]
abbrev P_same_row : List Str := ["_law_actual", "_law_expected"]
theorem sc_same_row : FnScope N_same_row P_same_row (defScope s_same_row) := ⟨rfl, rfl, rfl, by decide +kernel, rfl, by decide +kernel, by decide +kernel⟩
abbrev s_same_debts : Stmt := topS 28
abbrev N_same_debts : List Str := ["_law_actual", "_law_expected", "_law_found", "_law_k"]
abbrev P_same_debts : List Str := ["_law_actual", "_law_expected"]
theorem sc_same_debts : FnScope N_same_debts P_same_debts (defScope s_same_debts) := ⟨rfl, rfl, rfl, by decide +kernel, rfl, by decide +kernel, by decide +kernel⟩
section
variable {P : Program} {w : World} {K : PySem.W.Frag} {mg : Str → Option Value} {base : Heap} {f : Addr} {fd : FuncData}
def ntL (rs : Rows) : List Int := (List.range 6).map fun p => nt rs p
theorem fP_snd (P : Nat → Bool) (o : Option Nat) (c d : Int) : fP P (o, c) = fP P (o, d) := rfl
def spLNet (K : PySem.W.Frag) : Sp := fun vs H Q _ => ∃ (a : Addr) (zs : List (Addr × (Option Nat × Int))), vs = [.ref a] ∧ Rw2 H a zs ∧ zs.length ≤ 1000 ∧ ∀ (L : Addr) H', Same H H' → H' L = some (.lst ((ntL (zs.map (·.2))).map V.int)) → Q (.ref L) H'
theorem ok_law_net (F : FnP K "_law_net" s_law_net f fd) (m_sum : mg "sum" = none) : FnOk P w K mg base CX0 1 f fd P_law_net (spLNet K) := by
  refine F.ok sc_law_net (fun vs H Q E h => ?_) (fun cdv A outer s H vs Q E hr h => ?_)
  · obtain ⟨a, zs, rfl, _⟩ := h
    rfl
  · obtain ⟨a, zs, rfl, hz, lz, q⟩ := h
    refine ⟨_, PSs.nox (pss_cons (ps_set (i := 1) sc_law_net.nd rfl (by first | exact .inl rfl | exact .inr rfl) (pe_lst pa_nil))
      (pss_cons (ps_for PassesOwn.never rfl (pi_str pe_str) (pg_name (i := 2) sc_law_net.nd rfl (by first | exact .inl rfl | exact .inr rfl))
        (pss_cons (ps_set (i := 4) sc_law_net.nd rfl (by first | exact .inl rfl | exact .inr rfl) (pe_callB (cr_sum rfl) (by rfl) m_sum (by decide +kernel) (pa_cons (pe_lc (own := [("_law_row", 3)]) (g := (gName 3)) (by rfl) sc_law_net.nd (pi_list (pv 0)) (blkOk_by (own := [("_law_row", 3)]) (N := N_law_net) (sc := defScope s_law_net) (by decide +kernel)) (fun _ _ _ _ _ => (pg_name (i := 3) sc_law_net.nd rfl (by first | exact .inl rfl | exact .inr rfl))) (fun _ _ _ _ _ => (pts_one (pt_cmpR op_eq (pe_slice C8.sl_txt (pe_ix (ix_tup_K (K := K) rfl) (pv 3) pe_int (fun _ _ => rfl)) (po_some pe_int) po_none) (pv 2) (nomark _)))) (fun _ _ _ _ _ => (pe_ix (ix_tup_K (K := K) rfl) (pv 3) pe_int (fun _ _ => rfl)))) pa_nil)))
      (pss_cons (ps_set (i := 5) sc_law_net.nd rfl (by first | exact .inl rfl | exact .inr rfl) (pe_callB (cr_sum rfl) (by rfl) m_sum (by decide +kernel) (pa_cons (pe_lc (own := [("_law_row", 3)]) (g := (gName 3)) (by rfl) sc_law_net.nd (pi_list (pv 0)) (blkOk_by (own := [("_law_row", 3)]) (N := N_law_net) (sc := defScope s_law_net) (by decide +kernel)) (fun _ _ _ _ _ => (pg_name (i := 3) sc_law_net.nd rfl (by first | exact .inl rfl | exact .inr rfl))) (fun _ _ _ _ _ => (pts_one (pt_cmpR op_eq (pe_slice C8.sl_txt (pe_ix (ix_tup_K (K := K) rfl) (pv 3) pe_int (fun _ _ => rfl)) po_none (po_some pe_int)) (pv 2) (nomark _)))) (fun _ _ _ _ _ => (pe_ix (ix_tup_K (K := K) rfl) (pv 3) pe_int (fun _ _ => rfl)))) pa_nil)))
      (pss_one (ps_expr (pe_bm PySem.F.plainAttrs_list PySem.F.slot_list_append PySem.F.type_list_append mt_append (pv 1) (pa_cons (pe_op op_sub (pv 4) (pv 5)) pa_nil)))))))
      (pss_one (ps_ret (pv 1))))), ?_⟩
    walk_at "go"
    intro L nL
    have sL := same_new (o := .lst []) nL
    have eL : (upd H L (.lst [])) L = some (.lst []) := upd_same
    generalize upd H L (.lst []) = H1 at sL eL
    walk_at "go"
    refine for_gen (n := 6) (fun i σ J => Same H J ∧ J L = some (.lst ((List.range i).map fun p => V.int (nt (zs.map (·.2)) p))) ∧ ∃ v2 v3 v4 v5, σ = [some (.ref a), some (.ref L), v2, v3, v4, v5]) ⟨sL, eL, _, _, _, _, rfl⟩ ?_ ?_ ?_ ?_
    · rintro i σ J hi _
      show i < (Str.ofString "abcdef").cps.size
      rw [abc_sz]
      exact hi
    · rintro σ J _
      show (Str.ofString "abcdef").cps.size ≤ 6
      rw [abc_sz]
      exact Nat.le_refl _
    · rintro i σ J x J' hi ⟨s1, eL1, v2, v3, v4, v5, rfl⟩ ⟨rfl, c, ec, rfl⟩
      rw [abc_at i hi] at ec
      cases ec
      have hz1 := hz.mono s1
      walk_at "go"
      refine ⟨⟨_, SqL.of hz1.sq⟩, fun D nD => ?_⟩
      refine lc_rows (fP (fun j => decide (j % 6 = i))) (fun w => V.int w.2) (SqL.of hz1.sq) (by omega) nD (fun _ => rfl) ?_ ?_ ?_
      · intro z H2 Q1 hm s2 q1
        obtain ⟨rest, t1⟩ := hz1.at_ z hm
        have t1 := s2 _ _ t1
        walk_at "go"
        refine ⟨z.1, _, _, _, rfl, rfl, SqT.of t1, at_0, ?_⟩
        walk_at "go"
        refine ⟨px_len _, ?_⟩
        rw [px_tail]
        walk_at "go"
        have e := lt1_dec z.2 (· % 6) i
        show Q1 (decide (V.str (pf (· % 6) z.2.1) = V.str (lt1 i))) H2
        rw [e]
        exact q1
      · intro z H2 Q1 hm _ s2 q1
        obtain ⟨rest, t1⟩ := hz1.at_ z hm
        have t1 := s2 _ _ t1
        walk_at "go"
        exact ⟨z.1, _, _, _, rfl, rfl, SqT.of t1, at_1, q1⟩
      intro J2 s2 eD
      walk_at "go"
      have mp : ∀ F : Option Nat × Int → Bool, ((zs.map (·.2)).filter F).map (fun w => V.int w.2) = (((zs.map (·.2)).filter F).map (·.2)).map V.int := fun F => by
        rw [List.map_map]
        rfl
      rw [mp] at eD
      refine ⟨D, _, rfl, SqL.of eD, ?_⟩
      rw [tot_filter]
      have hz2 := hz1.mono s2
      walk_at "go"
      refine ⟨⟨_, SqL.of hz2.sq⟩, fun D2 nD2 => ?_⟩
      refine lc_rows (fP (fun j => decide (j / 6 = i))) (fun w => V.int w.2) (SqL.of hz2.sq) (by omega) nD2 (fun _ => rfl) ?_ ?_ ?_
      · intro z H2 Q1 hm s3 q1
        obtain ⟨rest, t1⟩ := hz2.at_ z hm
        have t1 := s3 _ _ t1
        walk_at "go"
        refine ⟨z.1, _, _, _, rfl, rfl, SqT.of t1, at_0, ?_⟩
        walk_at "go"
        refine ⟨px_len _, ?_⟩
        rw [px_head]
        walk_at "go"
        have e := lt1_dec z.2 (· / 6) i
        show Q1 (decide (V.str (pf (· / 6) z.2.1) = V.str (lt1 i))) H2
        rw [e]
        exact q1
      · intro z H2 Q1 hm _ s3 q1
        obtain ⟨rest, t1⟩ := hz2.at_ z hm
        have t1 := s3 _ _ t1
        walk_at "go"
        exact ⟨z.1, _, _, _, rfl, rfl, SqT.of t1, at_1, q1⟩
      intro J3 s3 eD2
      walk_at "go"
      rw [mp] at eD2
      refine ⟨D2, _, rfl, SqL.of eD2, ?_⟩
      rw [tot_filter]
      have eL3 := s3 _ _ (s2 _ _ eL1)
      walk_at "go"
      refine ⟨.inl ⟨rfl, _, SqL.of eL3⟩, ?_⟩
      walk_at "go"
      refine ⟨_, _, _, rfl, rfl, eL3, by rw [List.length_map, List.length_range]; exact szlt (by omega), ?_⟩
      refine ⟨Z.Same.mut (s1.trans (s2.trans s3)) nL, ?_, _, _, _, _, rfl⟩
      rw [upd_same, List.range_succ, List.map_append]
      rfl
    · rintro σ J ⟨s1, eL1, v2, v3, v4, v5, rfl⟩
      walk_at "go"
      refine q L J s1 ?_
      rw [eL1]
      unfold ntL
      rw [List.map_map]
      rfl
def spInt : Sp := fun vs H Q _ => ∃ x : Int, vs = [.int x] ∧ Q (.bl true) H
theorem ok_is_integer (F : FnP K "_law_is_integer" s_is_integer f fd) (m_isinstance : mg "isinstance" = none) (m_int : mg "int" = none) (m_bool : mg "bool" = none) : FnOk P w K mg base CX0 1 f fd P_is_integer spInt := by
  refine F.ok sc_is_integer (fun vs H Q E h => ?_) (fun cdv A outer s H vs Q E hr h => ?_)
  · obtain ⟨x, rfl, _⟩ := h
    rfl
  · obtain ⟨x, rfl, q⟩ := h
    refine ⟨_, PSs.nox (pss_one (ps_ret (pe_and (pe_callB call_isi (by rfl) m_isinstance (by decide +kernel) (pa_cons (pv 0) (pa_cons (pe_bltn (v := .ty "int") (by rfl) m_int (by decide +kernel) rfl) pa_nil))) (pe_one (pe_not (pe_callB call_isi (by rfl) m_isinstance (by decide +kernel) (pa_cons (pv 0) (pa_cons (pe_bltn (v := .ty "bool") (by rfl) m_bool (by decide +kernel) rfl) pa_nil)))))))), ?_⟩
    walk_at "go"
    refine isi (c := "int") (b := true) (.int x) (by decide +kernel) ?_
    walk_at "go"
    refine isi (c := "bool") (b := false) (.int x) (by decide +kernel) ?_
    walk_at "go"
    exact q
def spSameRow (K : PySem.W.Frag) : Sp := fun vs H Q _ => ∃ (t l : Addr) (xs : List Int), vs = [.ref t, .ref l] ∧ H t = some (.tup (xs.map V.int)) ∧ SqL K H l (xs.map V.int) ∧ xs.length ≤ 1000 ∧ Q (.bl true) H
theorem ok_same_row (F : FnP K "_law_same_row" s_same_row f fd) (m_isinstance : mg "isinstance" = none) (m_tuple : mg "tuple" = none) (m_len : mg "len" = none) (m_range : mg "range" = none) (c_is_integer : Cal P w K mg base 1 "_law_is_integer" spInt) : FnOk P w K mg base CX0 2 f fd P_same_row (spSameRow K) := by
  refine F.ok sc_same_row (fun vs H Q E h => ?_) (fun cdv A outer s H vs Q E hr h => ?_)
  · obtain ⟨t, l, xs, rfl, _⟩ := h
    rfl
  · obtain ⟨t, l, xs, rfl, ht, hl, lx, q⟩ := h
    refine ⟨_, PSs.nox (pss_cons (ps_if (PW.pt (pw_or (pt_not (pt_val (pe_callB call_isi (by rfl) m_isinstance (by decide +kernel) (pa_cons (pv 0) (pa_cons (pe_bltn (v := .ty "tuple") (by rfl) m_tuple (by decide +kernel) rfl) pa_nil))))) (pw_or1 (pt_cmpR op_ne (pe_callB call_len_seq (by rfl) m_len PySem.boot_len (pa_cons (pv 0) pa_nil)) (pe_callB call_len_seq (by rfl) m_len PySem.boot_len (pa_cons (pv 1) pa_nil)) (nomark _))))) (pss_one (ps_ret pe_bl)) pss_nil)
      (pss_cons (ps_for PassesOwn.never rfl (pi_range1 (by rfl) m_range (pa_cons (pe_callB call_len_seq (by rfl) m_len PySem.boot_len (pa_cons (pv 1) pa_nil)) pa_nil)) (pg_name (i := 2) sc_same_row.nd rfl (by first | exact .inl rfl | exact .inr rfl))
        (pss_one (ps_if (PW.pt (pw_or (pt_not (pt_val (pe_cl c_is_integer hr (by decide) (by rfl) (pa_cons (pe_ix ix_tup (pv 0) (pv 2) (fun _ _ => rfl)) pa_nil)))) (pw_or1 (pt_cmpR op_ne (pe_ix ix_tup (pv 0) (pv 2) (fun _ _ => rfl)) (pe_ix ix_list (pv 1) (pv 2) (fun _ _ => rfl)) (nomark _))))) (pss_one (ps_ret pe_bl)) pss_nil)))
      (pss_one (ps_ret pe_bl)))), ?_⟩
    walk_at "go"
    refine isi (c := "tuple") (b := true) (.tup ht) (by decide +kernel) ?_
    walk_at "go"
    refine ⟨t, _, rfl, .inr (SqT.of ht), ?_⟩
    walk_at "go"
    refine ⟨l, _, rfl, .inl hl, ?_⟩
    walk_at "go"
    refine ite2 (fun e => absurd e (by simp)) (fun _ => ?_)
    walk_at "go"
    refine ⟨l, _, rfl, .inl hl, ?_⟩
    rw [List.length_map]
    walk_at "go"
    refine for_gen (n := xs.length) (fun i σ J => J = H ∧ ∃ v2, σ = [some (.ref t), some (.ref l), v2]) ⟨rfl, _, rfl⟩ ?_ ?_ ?_ ?_
    · intro i σ J hi _
      show i < ((xs.length : Int)).toNat
      omega
    · intro σ J _
      show ((xs.length : Int)).toNat ≤ xs.length
      omega
    · rintro i σ J x J' hi ⟨rfl, v2, rfl⟩ ⟨rfl, rfl⟩
      have e : atI (xs.map V.int) (0 + (i : Int)) = some (.int xs[i]) := at_of (j := i) (by omega) (by rw [List.getElem?_map, List.getElem?_eq_getElem hi]; rfl)
      walk_at "go"
      refine ⟨t, _, _, _, rfl, rfl, SqT.of ht, e, ?_⟩
      walk_at "go"
      refine ⟨t, _, _, _, rfl, rfl, SqT.of ht, e, ?_⟩
      walk_at "go"
      refine ⟨l, _, _, _, rfl, rfl, hl, e, ?_⟩
      walk_at "go"
      refine ite2 (fun e => absurd e (by simp)) (fun _ => ?_)
      walk_at "go"
      exact ⟨_, rfl⟩
    · rintro σ J ⟨rfl, v2, rfl⟩
      walk_at "go"
      exact q
def spSameD (K : PySem.W.Frag) : Sp := fun vs H Q _ => ∃ (d l : Addr) (js : List Nat) (g : Nat → Int) (es : List (Addr × Nat)), vs = [.ref d, .ref l] ∧ H d = some (.dK (tab ky js g)) ∧ EnZ H l es g ∧ es.map (·.2) = js ∧ es.length ≤ 1000 ∧ ∀ H', Same H H' → Q (.bl true) H'
theorem ok_same_debts (F : FnP K "_law_same_debts" s_same_debts f fd) (m_isinstance : mg "isinstance" = none) (m_dict : mg "dict" = none) (m_str : mg "str" = none) (m_list : mg "list" = none) (m_len : mg "len" = none) (m_range : mg "range" = none) (c_is_integer : Cal P w K mg base 1 "_law_is_integer" spInt) : FnOk P w K mg base CX0 2 f fd P_same_debts (spSameD K) := by
  refine F.ok sc_same_debts (fun vs H Q E h => ?_) (fun cdv A outer s H vs Q E hr h => ?_)
  · obtain ⟨d, l, js, g, es, rfl, _⟩ := h
    rfl
  · obtain ⟨d, l, js, g, es, rfl, hd, he, ej, lx, q⟩ := h
    refine ⟨_, PSs.nox (pss_cons (ps_if (pt_not (pt_val (pe_callB call_isi (by rfl) m_isinstance (by decide +kernel) (pa_cons (pv 0) (pa_cons (pe_bltn (v := .ty "dict") (by rfl) m_dict (by decide +kernel) rfl) pa_nil))))) (pss_one (ps_ret pe_bl)) pss_nil)
      (pss_cons (ps_set (i := 2) sc_same_debts.nd rfl (by first | exact .inl rfl | exact .inr rfl) (LiI.pe_listItems rfl (pv 0) (by rfl) m_list (by decide +kernel)))
      (pss_cons (ps_if (pt_cmpR op_ne (pe_callB call_len_seq (by rfl) m_len PySem.boot_len (pa_cons (pv 2) pa_nil)) (pe_callB call_len_seq (by rfl) m_len PySem.boot_len (pa_cons (pv 1) pa_nil)) (nomark _)) (pss_one (ps_ret pe_bl)) pss_nil)
      (pss_cons (ps_for PassesOwn.never rfl (pi_range1 (by rfl) m_range (pa_cons (pe_callB call_len_seq (by rfl) m_len PySem.boot_len (pa_cons (pv 1) pa_nil)) pa_nil)) (pg_name (i := 3) sc_same_debts.nd rfl (by first | exact .inl rfl | exact .inr rfl))
        (pss_cons (ps_if (PW.pt (pw_or (pt_not (pt_val (pe_callB call_isi (by rfl) m_isinstance (by decide +kernel) (pa_cons (pe_ix ix_tup (pe_ix ix_list (pv 2) (pv 3) (fun _ _ => rfl)) pe_int (fun _ _ => rfl)) (pa_cons (pe_bltn (v := .ty "str") (by rfl) m_str (by decide +kernel) rfl) pa_nil))))) (pw_or1 (pt_not (pt_val (pe_cl c_is_integer hr (by decide) (by rfl) (pa_cons (pe_ix ix_tup (pe_ix ix_list (pv 2) (pv 3) (fun _ _ => rfl)) pe_int (fun _ _ => rfl)) pa_nil))))))) (pss_one (ps_ret pe_bl)) pss_nil)
      (pss_one (ps_if (PW.pt (pw_or (pt_cmpR op_ne (pe_ix ix_tup (pe_ix ix_list (pv 2) (pv 3) (fun _ _ => rfl)) pe_int (fun _ _ => rfl)) (pe_ix ix_tup (pe_ix ix_list (pv 1) (pv 3) (fun _ _ => rfl)) pe_int (fun _ _ => rfl)) (nomark _)) (pw_or1 (pt_cmpR op_ne (pe_ix ix_tup (pe_ix ix_list (pv 2) (pv 3) (fun _ _ => rfl)) pe_int (fun _ _ => rfl)) (pe_ix ix_tup (pe_ix ix_list (pv 1) (pv 3) (fun _ _ => rfl)) pe_int (fun _ _ => rfl)) (nomark _))))) (pss_one (ps_ret pe_bl)) pss_nil))))
      (pss_one (ps_ret pe_bl)))))), ?_⟩
    walk_at "go"
    refine isi (c := "dict") (b := true) (.dK hd) (by decide +kernel) ?_
    walk_at "go"
    refine ⟨d, _, rfl, hd, fun H1 p ts k1 np nts pts ep pr => ?_⟩
    have s1 : Same H H1 := k1
    have he1 := he.mono s1
    have lt : ts.length = es.length := by
      rw [pr.length, tab_len, ← ej, List.length_map]
    have ltj : js.length = es.length := by rw [← ej, List.length_map]
    walk_at "go"
    refine ⟨p, _, rfl, .inl (SqL.of ep), ?_⟩
    rw [List.length_map]
    walk_at "go"
    refine ⟨l, _, rfl, .inl (SqL.of he1.sq), ?_⟩
    rw [List.length_map, lt]
    walk_at "go"
    refine ite2 (fun e => absurd e (by simp)) (fun _ => ?_)
    walk_at "go"
    refine ⟨l, _, rfl, .inl (SqL.of he1.sq), ?_⟩
    rw [List.length_map]
    walk_at "go"
    refine for_gen (n := es.length) (fun i σ J => J = H1 ∧ ∃ v3, σ = [some (.ref d), some (.ref l), some (.ref p), v3]) ⟨rfl, _, rfl⟩ ?_ ?_ ?_ ?_
    · intro i σ J hi _
      show i < ((es.length : Int)).toNat
      omega
    · intro σ J _
      show ((es.length : Int)).toNat ≤ es.length
      omega
    · rintro i σ J x J' hi ⟨rfl, v3, rfl⟩ ⟨rfl, rfl⟩
      have hi1 : i < ts.length := by omega
      have hi2 : i < js.length := by omega
      obtain ⟨y, ey, fy⟩ := LiI.paired_get pr (List.getElem?_eq_getElem hi1)
      rw [tab_at hi2] at ey
      cases ey
      have t2 := he1.at_ _ (List.getElem_mem hi)
      have e1 : atI (ts.map V.ref) (0 + (i : Int)) = some (.ref ts[i]) := at_of (j := i) (by omega) (by rw [List.getElem?_map, List.getElem?_eq_getElem hi1]; rfl)
      have e2 : atI (es.map fun z => V.ref z.1) (0 + (i : Int)) = some (.ref es[i].1) := at_of (j := i) (by omega) (by rw [List.getElem?_map, List.getElem?_eq_getElem hi]; rfl)
      have ek : js[i] = es[i].2 := by
        have : js[i]? = some es[i].2 := by rw [← ej, List.getElem?_map, List.getElem?_eq_getElem hi]; rfl
        rw [List.getElem?_eq_getElem hi2] at this
        exact Option.some.inj this
      rw [ek] at fy
      generalize ts[i] = t at e1 fy
      generalize es[i] = z at e2 t2 fy
      have sp := SqL.of (K := K) ep
      walk_at "go"
      refine ⟨p, _, _, _, rfl, rfl, SqL.of ep, e1, ?_⟩
      walk_at "go"
      refine ⟨t, _, _, _, rfl, rfl, SqT.of fy, at_0, ?_⟩
      walk_at "go"
      refine isi (c := "str") (b := true) (.str _) (by decide +kernel) ?_
      walk_at "go"
      refine ⟨p, _, _, _, rfl, rfl, SqL.of ep, e1, ?_⟩
      walk_at "go"
      refine ⟨t, _, _, _, rfl, rfl, SqT.of fy, at_1, ?_⟩
      walk_at "go"
      refine ⟨p, _, _, _, rfl, rfl, SqL.of ep, e1, ?_⟩
      walk_at "go"
      refine ⟨t, _, _, _, rfl, rfl, SqT.of fy, at_0, ?_⟩
      walk_at "go"
      refine ⟨l, _, _, _, rfl, rfl, SqL.of he1.sq, e2, ?_⟩
      walk_at "go"
      refine ⟨z.1, _, _, _, rfl, rfl, SqT.of t2, at_0, ?_⟩
      walk_at "go"
      refine ite2 (fun e => absurd e (by show ¬ (!decide (V.str (ky z.2) = V.str (ky z.2))) = true; simp)) (fun _ => ?_)
      walk_at "go"
      refine ⟨p, _, _, _, rfl, rfl, SqL.of ep, e1, ?_⟩
      walk_at "go"
      refine ⟨t, _, _, _, rfl, rfl, SqT.of fy, at_1, ?_⟩
      walk_at "go"
      refine ⟨l, _, _, _, rfl, rfl, SqL.of he1.sq, e2, ?_⟩
      walk_at "go"
      refine ⟨z.1, _, _, _, rfl, rfl, SqT.of t2, at_1, ?_⟩
      walk_at "go"
      refine ite2 (fun e => absurd e (by simp)) (fun _ => ?_)
      walk_at "go"
      exact ⟨_, rfl⟩
    · rintro σ J ⟨rfl, v3, rfl⟩
      walk_at "go"
      exact q _ s1
end
end Z
set_option pp.maxSteps 700
set_option Elab.async false
set_option linter.all false
set_option maxRecDepth 100000
set_option maxHeartbeats 4000000
open SX (S S_inj S_len S_cat)
namespace Z
open PySem PySem.Spec PyProof.Rows L2
open C8 (pss_cut tCut)
local macro_rules | `(tactic| walk_at "num") => `(tactic| first | rfl | omega | decide | exact Nat.le_of_lt (small1000 (by simp)) | exact ⟨by omega, by omega⟩ | exact ⟨by omega, by omega, by omega⟩ | exact ⟨by decide, by decide, by decide⟩ | exact Or.inl ⟨by omega, by omega⟩ | exact Or.inr ⟨by omega, by omega⟩)
local macro_rules | `(tactic| walk_at "go") => `(tactic| repeat (first | refine ⟨_, rfl, ?_⟩ | refine ⟨_, _, rfl, rfl, ?_⟩ | refine ⟨_, _, rfl, ?_⟩ | (refine ⟨_, _, rfl, rfl, ?_, ?_⟩; focus walk_at "num") | refine Or.inl ⟨_, rfl, ?_⟩ | refine ⟨_, _, _, _, rfl, rfl, (by assumption), (by rfl), ?_⟩ | refine ⟨_, _, _, _, _, rfl, (by assumption), (by assumption), (by assumption), (by rfl), ?_⟩ | refine ⟨rfl, ?_⟩ | (refine And.intro ?_ ?_; focus walk_at "num")))
abbrev s_nets_right : Stmt := topS 30
abbrev N_nets_right : List Str := ["_law_rows_here", "_law_debts", "_law_row", "_law_kept", "_law_due", "_law_sums_here", "_law_some", "_law_k", "_law_pair", "_law_changed"]
abbrev P_nets_right : List Str := ["_law_rows_here"]
theorem sc_nets_right : FnScope N_nets_right P_nets_right (defScope s_nets_right) := ⟨rfl, rfl, rfl, by decide +kernel, rfl, by decide +kernel, by decide +kernel⟩
/-! ### dicts as data -/
def enD (ks : List Nat) (g : Nat → Int) : List PyData := ks.map fun k => .tuple [.str (ky k), .int (g k)]
theorem dpa_en {K : PySem.W.Frag} {H : Hp} {g : Nat → Int} : ∀ {ts : List Addr} {ks : List Nat}, Paired (fun (t : Addr) (q : Key × V) => H t = some (.tup [kV q.1, q.2])) ts (tab ky ks g) → DpAll K H (ts.map V.ref) (enD ks g)
  | [], [], _ => .nil
  | [], _ :: _, h => by cases h
  | _ :: _, [], h => by cases h
  | t :: ts, k :: ks, h => by
    cases h with
    | cons e r => exact .cons (.tup (SqT.of e) (.cons (.str _) (.cons (.int _) .nil))) (dpa_en r)
theorem ky_ok : ∀ k, k < 36 → PyData.strOk (ky k) = true := by decide +kernel
theorem en_flat {g : Nat → Int} : ∀ {ks : List Nat}, (∀ k ∈ ks, k < 36) → PyData.canLayAll0 (enD ks g) = true ∧ PyData.depthAll (enD ks g) ≤ 1
  | [], _ => ⟨rfl, Nat.zero_le _⟩
  | k :: r, h => by
    have z := en_flat (g := g) (ks := r) fun x hx => h x (List.mem_cons_of_mem _ hx)
    have y := ky_ok k (h k List.mem_cons_self)
    have e1 : enD (k :: r) g = .tuple [.str (ky k), .int (g k)] :: enD r g := rfl
    rw [e1]
    constructor
    · rw [PyData.canLayAll0, z.1]
      simp [PyData.canLayAll0, PyData.canLay0, y]
    · rw [PyData.depthAll]
      have : (PyData.tuple [.str (ky k), .int (g k)]).depth = 1 := by
        simp [PyData.depth, PyData.depthAll]
      omega
theorem shaped_en {ks : List Nat} {g : Nat → Int} (h : ∀ k ∈ ks, k < 36) : SeqAt.shaped (.list (enD ks g)) = true := by
  have z := en_flat (g := g) h
  unfold SeqAt.shaped
  show (PyData.canLayAll0 (enD ks g) && decide (PyData.depthAll (enD ks g) + 1 ≤ 64)) = true
  rw [z.1, decide_eq_true (by omega)]
  rfl
theorem paired_imp {α β : Type} {F G : α → β → Prop} (h : ∀ x y, F x y → G x y) : ∀ {xs : List α} {ys : List β}, Paired F xs ys → Paired G xs ys
  | _, _, .nil => .nil
  | _, _, .cons r t => .cons (h _ _ r) (paired_imp h t)
/-! ### sums and rows -/
theorem sm_ge {k : Nat} : ∀ {rs : Rows}, (∀ r ∈ rs, 0 ≤ r.2) → ∀ r ∈ rs, r.1 = some k → r.2 ≤ sm rs k
  | [], _, r, h, _ => absurd h (by simp)
  | q :: t, h, r, hr, e => by
    have hn := tot_nonneg (P := fun j => decide (j = k)) (rs := t) fun x hx => h x (List.mem_cons_of_mem _ hx)
    have hq := h q List.mem_cons_self
    rcases List.mem_cons.mp hr with rfl | hr
    · obtain ⟨o, c⟩ := r
      dsimp only at e hq
      subst e
      show c ≤ (if decide (k = k) = true then c else 0) + tot _ t
      rw [if_pos (by simp)]
      omega
    · have ih := sm_ge (k := k) (rs := t) (fun x hx => h x (List.mem_cons_of_mem _ hx)) r hr e
      obtain ⟨o, c⟩ := q
      dsimp only at hq
      cases o with
      | none =>
        show r.2 ≤ 0 + tot _ t
        have ih : r.2 ≤ tot (fun j => decide (j = k)) t := ih
        omega
      | some j =>
        show r.2 ≤ (if decide (j = k) = true then c else 0) + tot _ t
        have ih : r.2 ≤ tot (fun j => decide (j = k)) t := ih
        split <;> omega
theorem sm_in {k : Nat} : ∀ {rs : Rows}, 0 < sm rs k → ∃ r ∈ rs, r.1 = some k
  | [], h => absurd h (by show ¬ (0 : Int) < 0; decide)
  | q :: t, h => by
    obtain ⟨o, c⟩ := q
    cases o with
    | none =>
      have h : 0 < 0 + sm t k := h
      obtain ⟨r, hr, e⟩ := sm_in (k := k) (rs := t) (by omega)
      exact ⟨r, List.mem_cons_of_mem _ hr, e⟩
    | some j =>
      have h : 0 < (if decide (j = k) = true then c else 0) + sm t k := h
      by_cases e : j = k
      · exact ⟨_, List.mem_cons_self, by rw [e]⟩
      · rw [if_neg (by simpa using e)] at h
        obtain ⟨r, hr, e⟩ := sm_in (k := k) (rs := t) (by omega)
        exact ⟨r, List.mem_cons_of_mem _ hr, e⟩
theorem rowT_nn {zs : List (Addr × Wr)} (h : ∀ z ∈ zs, RowT z.2) : (∀ r ∈ rowsOf zs, 0 ≤ r.2) ∧ ∀ r ∈ rowsOf zs, ∀ k, r.1 = some k → KOk k := by
  refine ⟨fun r hr => ?_, fun r hr k e => ?_⟩
  · obtain ⟨z, hz, rfl⟩ := List.mem_map.mp hr
    rcases h z hz with ⟨_, e, _⟩ | ⟨_, _, _, e, _⟩
    · rw [e]
      exact Int.le_refl _
    · exact e
  · obtain ⟨z, hz, rfl⟩ := List.mem_map.mp hr
    rcases h z hz with ⟨e2, _⟩ | ⟨j, e2, hk, _⟩
    · rw [e2] at e
      cases e
    · rw [e2] at e
      cases e
      exact hk
theorem nt_ent {ks : List Nat} {rs : Rows} (nd : ks.Nodup) (h : ∀ r ∈ rs, ∀ k, r.1 = some k → k ∈ ks ∨ r.2 = 0) : nt (ent ks (sm rs)) = nt rs := funext fun p => by
  unfold nt rcv gvn
  rw [tot_ent _ nd h, tot_ent _ nd h]
theorem nt_tup (rs : Rows) : (List.range 6).map (fun p => V.int (nt rs p)) = (ntL rs).map V.int := by
  unfold ntL
  rw [List.map_map]
  rfl
theorem fe34 : Str.ofString "fe" = ky 34 := by decide +kernel
theorem af5 : Str.ofString "af" = ky 5 := by decide +kernel
section
variable {P : Program} {w : World} {K : PySem.W.Frag} {mg : Str → Option Value} {base : Heap} {f : Addr} {fd : FuncData}
def spNetsR (K : PySem.W.Frag) : Sp := fun vs H Q _ => ∃ (a : Addr) (zs : List (Addr × Wr)), vs = [.ref a] ∧ RwZ H a zs ∧ (∀ z ∈ zs, RowT z.2) ∧ zs.length ≤ 100 ∧ ∀ H', Same H H' → Q (.bl true) H'
theorem ok_nets_right (F : FnP K "_law_nets_right" s_nets_right f fd) (m_list : mg "list" = none) (m_len : mg "len" = none) (m_range : mg "range" = none) (c_sum : Cal P w K mg base 1 "_law_sum" (spSum K)) (c_law_net : Cal P w K mg base 1 "_law_net" (spLNet K)) (c_net : Cal P w K mg base 4 "net" spNet) (c_same_row : Cal P w K mg base 2 "_law_same_row" (spSameRow K)) (c_sums : Cal P w K mg base 2 "_law_sums" (spSums K)) : FnOk P w K mg base CX0 5 f fd P_nets_right (spNetsR K) := by
  refine F.ok sc_nets_right (fun vs H Q E h => ?_) (fun cdv A outer s H vs Q E hr h => ?_)
  · obtain ⟨a, zs, rfl, _⟩ := h
    rfl
  · obtain ⟨a, zs, rfl, hz, hrt, lz, q⟩ := h
    refine ⟨_, PSs.nox (pss_cons (ps_set (i := 1) sc_nets_right.nd rfl (by first | exact .inl rfl | exact .inr rfl) pe_dnewK)
      (pss_cons (ps_for PassesOwn.never rfl (pi_list (pv 0)) (pg_name (i := 2) sc_nets_right.nd rfl (by first | exact .inl rfl | exact .inr rfl))
        (pss_one (ps_if (pt_cmpR op_ne (pe_ix ix_tup (pv 2) pe_int (fun _ _ => rfl)) pe_str (nomark _)) (pss_one (ps_dput (hu_of hr) (pv 1) (pe_ix ix_tup (pv 2) pe_int (fun _ _ => rfl)) (pe_cl c_sum hr (by decide) (by rfl) (pa_cons (pv 0) (pa_cons (pe_ix ix_tup (pv 2) pe_int (fun _ _ => rfl)) pa_nil))) rfl)) pss_nil)))
      (pss_cons (ps_set (i := 3) sc_nets_right.nd rfl (by first | exact .inl rfl | exact .inr rfl) (LiI.pe_listItems rfl (pv 1) (by rfl) m_list (by decide +kernel)))
      (pss_cons (ps_set (i := 4) sc_nets_right.nd rfl (by first | exact .inl rfl | exact .inr rfl) (pe_cl c_law_net hr (by decide) (by rfl) (pa_cons (pv 0) pa_nil)))
      (pss_cons (ps_if (PW.pt (pw_or (pt_not (pt_val (pe_cl c_same_row hr (by decide) (by rfl) (pa_cons (pe_cl c_net hr (by decide) (by rfl) (pa_cons (pv 1) pa_nil)) (pa_cons (pv 4) pa_nil))))) (pw_or1 (pt_cmpR (op_neD hr.units) (LiI.pe_listItems rfl (pv 1) (by rfl) m_list (by decide +kernel)) (pv 3) (nomark _))))) (pss_one (ps_ret pe_bl)) pss_nil)
      (pss_cons (ps_set (i := 5) sc_nets_right.nd rfl (by first | exact .inl rfl | exact .inr rfl) (pe_cl c_sums hr (by decide) (by rfl) (pa_cons (pv 0) pa_nil)))
      (pss_cons (ps_set (i := 6) sc_nets_right.nd rfl (by first | exact .inl rfl | exact .inr rfl) pe_dnewK)
      (pss_cons (ps_for PassesOwn.never rfl (pi_range1 (by rfl) m_range (pa_cons (pe_callB call_len_seq (by rfl) m_len PySem.boot_len (pa_cons (pv 5) pa_nil)) pa_nil)) (pg_name (i := 7) sc_nets_right.nd rfl (by first | exact .inl rfl | exact .inr rfl))
        (pss_one (ps_dput (hu_of hr) (pv 6) (pe_ix ix_tup (pe_ix ix_list (pv 5) (pe_op op_sub (pe_op op_sub (pe_callB call_len_seq (by rfl) m_len PySem.boot_len (pa_cons (pv 5) pa_nil)) pe_int) (pv 7)) (fun _ _ => rfl)) pe_int (fun _ _ => rfl)) (pe_ix ix_tup (pe_ix ix_list (pv 5) (pe_op op_sub (pe_op op_sub (pe_callB call_len_seq (by rfl) m_len PySem.boot_len (pa_cons (pv 5) pa_nil)) pe_int) (pv 7)) (fun _ _ => rfl)) pe_int (fun _ _ => rfl)) rfl)))
      (pss_cons (ps_if (pt_not (pt_val (pe_cl c_same_row hr (by decide) (by rfl) (pa_cons (pe_cl c_net hr (by decide) (by rfl) (pa_cons (pv 6) pa_nil)) (pa_cons (pv 4) pa_nil))))) (pss_one (ps_ret pe_bl)) pss_nil)
      (pss_cons (ps_dput (hu_of hr) (pv 6) pe_str pe_int rfl)
      (pss_cons (ps_dput (hu_of hr) (pv 6) pe_str pe_int rfl)
      (pss_cons (ps_lock (ps_setLc (i := 9) (own := [("_law_pair", 8)]) (g := (gName 8)) (tt := tYes) (by rfl) sc_nets_right.nd rfl rfl (sw_true rfl rfl rfl (by decide +kernel)) (pi_keys (pv 6)) (blkOk_by (own := [("_law_pair", 8)]) (N := N_nets_right) (sc := defScope s_nets_right) (by decide +kernel)) (fun _ _ _ _ _ => (pg_name (i := 8) sc_nets_right.nd rfl (by first | exact .inl rfl | exact .inr rfl))) (fun _ _ _ _ _ => pts_nil) (fun _ _ _ _ _ => (pe_tup (pa_cons (pv 8) (pa_cons (pe_dget (hu_of hr) (pv 6) (pv 8) (fun _ _ => rfl)) pa_nil))))))
      (pss_one (ps_ret (pe_and (pe_cl c_same_row hr (by decide) (by rfl) (pa_cons (pe_cl c_net hr (by decide) (by rfl) (pa_cons (pv 6) pa_nil)) (pa_cons (pe_cl c_law_net hr (by decide) (by rfl) (pa_cons (pv 9) pa_nil)) pa_nil))) (pe_one (pe_cl c_same_row hr (by decide) (by rfl) (pa_cons (pe_cl c_net hr (by decide) (by rfl) (pa_cons (pv 1) pa_nil)) (pa_cons (pv 4) pa_nil))))))))))))))))))), ?_⟩
    obtain ⟨nn, kok⟩ := rowT_nn hrt
    walk_at "go"
    intro D nD
    have sD := same_new (o := .dK []) nD
    have eD : (upd H D (.dK [])) D = some (.dK (tab ky [] (sm (rowsOf zs)))) := upd_same
    generalize upd H D (.dK []) = H1 at sD eD
    have hz1 := hz.mono sD
    walk_at "go"
    refine ⟨⟨_, SqL.of hz1.sq⟩, ?_⟩
    refine for_gen (n := zs.length) (fun i σ J => Same H J ∧ (∃ ks, J D = some (.dK (tab ky ks (sm (rowsOf zs)))) ∧ ks.Nodup ∧ (∀ k ∈ ks, KOk k) ∧ ∀ m, m < i → ∀ z, zs[m]? = some z → ∀ k, z.2.1.1 = some k → k ∈ ks) ∧ ∃ v2, σ = [some (.ref a), some (.ref D), v2, none, none, none, none, none, none, none]) ⟨sD, ⟨[], eD, List.nodup_nil, fun k h => absurd h (by simp), fun m h => absurd h (by omega)⟩, _, rfl⟩ ?_ ?_ ?_ ?_
    · rintro i σ J hi ⟨s1, _⟩
      exact ⟨_, .ref zs[i].1, SqL.of (hz.mono s1).sq, by rw [List.getElem?_map, List.getElem?_eq_getElem hi]; rfl⟩
    · rintro σ J ⟨s1, _⟩
      exact ⟨_, SqL.of (hz.mono s1).sq, by rw [List.length_map]; exact Nat.le_refl _⟩
    · rintro i σ J x J' hi ⟨s1, ⟨ks, eD, nd, kk, cov⟩, v2, rfl⟩ ⟨rfl, hx⟩
      have hx := hx _ (SqL.of (hz.mono s1).sq)
      rw [List.getElem?_map, List.getElem?_eq_getElem hi] at hx
      cases hx
      have t1 := s1 _ _ (hz.at_ _ (List.getElem_mem hi))
      have rt := hrt _ (List.getElem_mem hi)
      have ci : ∀ ks' : List Nat, (∀ k ∈ ks, k ∈ ks') → (∀ k, zs[i].2.1.1 = some k → k ∈ ks') → ∀ m, m < i + 1 → ∀ z, zs[m]? = some z → ∀ k, z.2.1.1 = some k → k ∈ ks' := fun ks' h1 h2 m hm z ez k ek => by
        by_cases c : m = i
        · subst c
          rw [List.getElem?_eq_getElem hi] at ez
          cases ez
          exact h2 k ek
        · exact h1 k (cov m (by omega) z ez k ek)
      generalize zs[i] = z at t1 rt ci
      obtain ⟨t, ⟨o, c⟩, tx⟩ := z
      dsimp only at t1 ci
      walk_at "go"
      refine ⟨t, _, _, _, rfl, rfl, SqT.of t1, at_0, ?_⟩
      walk_at "go"
      cases o with
      | none =>
        refine ite2 (fun e => absurd e (by show ¬ (!decide (V.str (S []) = V.str (Str.ofString ""))) = true; rw [show decide (V.str (S []) = V.str (Str.ofString "")) = true from decide_eq_true rfl]; decide)) (fun _ => ?_)
        walk_at "go"
        exact ⟨⟨ks, eD, nd, kk, ci ks (fun _ h => h) (fun k e => by cases e)⟩, _, rfl⟩
      | some k =>
        have hk : KOk k := by
          rcases rt with ⟨e, _⟩ | ⟨j, e, hk, _⟩
          · cases e
          · cases e
            exact hk
        refine ite2 (fun _ => ?_) (fun e => absurd (by show (!decide (V.str (ky k) = V.str (Str.ofString ""))) = true; rw [decide_eq_false (fun z => by have := S_inj (V.str.inj z); cases this)]; rfl) e)
        walk_at "go"
        refine ⟨t, _, _, _, rfl, rfl, SqT.of t1, at_0, ?_⟩
        walk_at "go"
        refine ⟨a, zs, k, rfl, hz.mono s1, by omega, fun J1 s2 => ?_⟩
        have s3 := s1.trans s2
        have eD1 := s2 _ _ eD
        have t2 := s2 _ _ t1
        walk_at "go"
        refine ⟨t, _, _, _, rfl, rfl, SqT.of t2, at_0, ?_⟩
        have lks : ks.length ≤ 36 := nodup_lenN nd fun x hx => (kk x hx).1
        refine ⟨D, _, rfl, DPut.k (k := Sum.inr (ky k)) eD1 (by rw [tab_len]; exact szlt (by omega)), Z.Same.mut s3 nD, ⟨if k ∈ ks then ks else ks ++ [k], ?_, ?_, ?_, ?_⟩, _, rfl⟩
        · rw [upd_same, tab_put (fun _ _ => ky_inj)]
          refine congrArg _ (congrArg _ (tab_congr fun j _ => ?_))
          by_cases e : j = k
          · rw [if_pos e, e]
          · rw [if_neg e]
        · by_cases m : k ∈ ks
          · rw [if_pos m]
            exact nd
          · rw [if_neg m]
            exact List.nodup_append.mpr ⟨nd, by simp, fun x hx y hy e => m (by rw [List.mem_singleton.mp hy] at e; exact e ▸ hx)⟩
        · intro x hx
          by_cases m : k ∈ ks
          · rw [if_pos m] at hx
            exact kk x hx
          · rw [if_neg m] at hx
            rcases List.mem_append.mp hx with hx | hx
            · exact kk x hx
            · rw [List.mem_singleton.mp hx]
              exact hk
        · refine ci _ (fun x hx => ?_) (fun x e => ?_)
          · by_cases m : k ∈ ks
            · rw [if_pos m]
              exact hx
            · rw [if_neg m]
              exact List.mem_append_left _ hx
          · cases e
            by_cases m : k ∈ ks
            · rw [if_pos m]
              exact m
            · rw [if_neg m]
              exact List.mem_append_right _ (List.mem_singleton.mpr rfl)
    rintro σ J ⟨s1, ⟨ks, eD, nd, kk, cov⟩, v2, rfl⟩
    have cov : ∀ r ∈ rowsOf zs, ∀ k, r.1 = some k → k ∈ ks := fun r hr k e => by
      obtain ⟨z, hz', rfl⟩ := List.mem_map.mp hr
      obtain ⟨m, hlt, rfl⟩ := List.getElem_of_mem hz'
      exact cov m hlt _ (List.getElem?_eq_getElem hlt) k e
    have lks : ks.length ≤ 36 := nodup_lenN nd fun x hx => (kk x hx).1
    have ne := nt_ent nd fun r hr k e => .inl (cov r hr k e)
    walk_at "go"
    refine ⟨D, _, rfl, eD, fun H2 p2 ts2 k2 np2 nts2 pts2 ep2 pr2 => ?_⟩
    have s2 : Same J H2 := k2
    have s02 := s1.trans s2
    have eD2 := s2 _ _ eD
    clear k2 nts2 pts2
    walk_at "go"
    refine ⟨a, _, rfl, (hz.mono s02).r2, by rw [List.length_map]; omega, fun du H3 s3 edu => ?_⟩
    have e3 : (zs.map fun z => (z.1, z.2.1)).map (·.2) = rowsOf zs := by
      rw [List.map_map]
      rfl
    rw [e3] at edu
    have s03 := s02.trans s3
    have eD3 := s3 _ _ eD2
    walk_at "go"
    refine ⟨D, ks, _, rfl, eD3, fun k hk => ⟨kk k hk, tot_nonneg nn⟩, by omega, fun t4 H4 s4 et4 => ?_⟩
    rw [ne, nt_tup] at et4
    have edu4 := s4 _ _ edu
    walk_at "go"
    have l6 : (ntL (rowsOf zs)).length = 6 := by
      unfold ntL
      rw [List.length_map, List.length_range]
    refine ⟨t4, du, ntL (rowsOf zs), rfl, et4, SqL.of edu4, by omega, ?_⟩
    have eD4 := s4 _ _ eD3
    have s04 := s03.trans s4
    walk_at "go"
    refine ⟨D, _, rfl, eD4, fun H5 p5 ts5 k5 np5 nts5 pts5 ep5 pr5 => ?_⟩
    have s5 : Same H4 H5 := k5
    have s05 := s04.trans s5
    have k36 : ∀ k ∈ ks, k < 36 := fun k hk => (kk k hk).1
    have pr2' := paired_imp (fun (t : Addr) (q : Key × V) (e : H2 t = some (.tup [kV q.1, q.2])) => (s3.trans (s4.trans s5)) _ _ e) pr2
    have ep2' := (s3.trans (s4.trans s5)) _ _ ep2
    walk_at "go"
    refine ⟨_, _, .lst (SqL.of ep5) (dpa_en pr5), .lst (SqL.of ep2') (dpa_en pr2'), shaped_en k36, shaped_en k36, ?_⟩
    rw [eqv_same (shaped_en k36)]
    have edu5 := s5 _ _ edu4
    have eD5 := s5 _ _ eD4
    clear k5 nts5 pts5 pr5 pr2 pr2' ep2 ep2' ep5
    walk_at "go"
    refine ⟨a, zs, rfl, hz.mono s05, by omega, fun L es H6 s6 en ees => ?_⟩
    have s06 := s05.trans s6
    have edu6 := s6 _ _ edu5
    have eD6 := s6 _ _ eD5
    walk_at "go"
    intro D2 nD2
    have sD2 := same_new (o := .dK []) nD2
    have eD2' : (upd H6 D2 (.dK [])) D2 = some (.dK (tab ky [] (sm (rowsOf zs)))) := upd_same
    generalize upd H6 D2 (.dK []) = H7 at sD2 eD2'
    have en7 := en.mono sD2
    have les : es.length ≤ 36 := by
      have h1 := congrArg List.length ees
      rw [List.length_map] at h1
      rw [h1]
      exact Nat.le_trans (List.length_filter_le ..) (by rw [List.length_range]; exact Nat.le_refl _)
    dsimp only [List.set]
    walk_at "go"
    refine ⟨L, _, rfl, .inl (SqL.of en7.sq), ?_⟩
    rw [List.length_map]
    walk_at "go"
    refine for_gen (n := es.length) (fun i σ J => Same H6 J ∧ (∃ ms, J D2 = some (.dK (tab ky ms (sm (rowsOf zs)))) ∧ ms.Nodup ∧ (∀ k ∈ ms, k ∈ es.map (·.2)) ∧ ∀ m, m < i → ∀ z, es[es.length - 1 - m]? = some z → z.2 ∈ ms) ∧ ∃ v7, σ = [some (.ref a), some (.ref D), v2, some (.ref p2), some (.ref du), some (.ref L), some (.ref D2), v7, none, none]) ⟨sD2, ⟨[], eD2', List.nodup_nil, fun k h => absurd h (by simp), fun m h => absurd h (by omega)⟩, _, rfl⟩ ?_ ?_ ?_ ?_
    · intro i σ J hi _
      show i < ((es.length : Int)).toNat
      omega
    · intro σ J _
      show ((es.length : Int)).toNat ≤ es.length
      omega
    · rintro i σ J x J' hi ⟨s7, ⟨ms, eD7, ndm, sub, cvm⟩, v7, rfl⟩ ⟨rfl, rfl⟩
      have en8 := en.mono s7
      have hi2 : es.length - 1 - i < es.length := by omega
      have e1 : atI (es.map fun z => V.ref z.1) ((es.length : Int) - 1 - (0 + (i : Int))) = some (.ref es[es.length - 1 - i].1) := at_of (j := es.length - 1 - i) (by omega) (by rw [List.getElem?_map, List.getElem?_eq_getElem hi2]; rfl)
      have t2 := en8.at_ _ (List.getElem_mem hi2)
      have mem : es[es.length - 1 - i].2 ∈ es.map (·.2) := List.mem_map.mpr ⟨_, List.getElem_mem hi2, rfl⟩
      have ci : ∀ ms' : List Nat, (∀ k ∈ ms, k ∈ ms') → es[es.length - 1 - i].2 ∈ ms' → ∀ m, m < i + 1 → ∀ z, es[es.length - 1 - m]? = some z → z.2 ∈ ms' := fun ms' h1 h2 m hm z ez => by
        by_cases c : m = i
        · subst c
          rw [List.getElem?_eq_getElem hi2] at ez
          cases ez
          exact h2
        · exact h1 _ (cvm m (by omega) z ez)
      have lms : ms.length ≤ 36 := nodup_lenN ndm fun x hx => by
        have := sub x hx
        rw [ees] at this
        exact List.mem_range.mp (List.mem_filter.mp this).1
      generalize es[es.length - 1 - i] = z at e1 t2 mem ci
      obtain ⟨t, k⟩ := z
      dsimp only at e1 t2 mem ci
      walk_at "go"
      refine ⟨L, _, rfl, .inl (SqL.of en8.sq), ?_⟩
      rw [List.length_map]
      walk_at "go"
      refine ⟨L, _, _, _, rfl, rfl, SqL.of en8.sq, e1, ?_⟩
      walk_at "go"
      refine ⟨t, _, _, _, rfl, rfl, SqT.of t2, at_1, ?_⟩
      walk_at "go"
      refine ⟨L, _, rfl, .inl (SqL.of en8.sq), ?_⟩
      rw [List.length_map]
      walk_at "go"
      refine ⟨L, _, _, _, rfl, rfl, SqL.of en8.sq, e1, ?_⟩
      walk_at "go"
      refine ⟨t, _, _, _, rfl, rfl, SqT.of t2, at_0, ?_⟩
      walk_at "go"
      refine ⟨D2, _, rfl, DPut.k (k := Sum.inr (ky k)) eD7 (by rw [tab_len]; exact szlt (by omega)), Z.Same.mut s7 nD2, ⟨if k ∈ ms then ms else ms ++ [k], ?_, ?_, ?_, ?_⟩, _, rfl⟩
      · rw [upd_same, tab_put (fun _ _ => ky_inj)]
        refine congrArg _ (congrArg _ (tab_congr fun j _ => ?_))
        by_cases e : j = k
        · rw [if_pos e, e]
        · rw [if_neg e]
      · by_cases m : k ∈ ms
        · rw [if_pos m]
          exact ndm
        · rw [if_neg m]
          exact List.nodup_append.mpr ⟨ndm, by simp, fun x hx y hy e => m (by rw [List.mem_singleton.mp hy] at e; exact e ▸ hx)⟩
      · intro x hx
        by_cases m : k ∈ ms
        · rw [if_pos m] at hx
          exact sub x hx
        · rw [if_neg m] at hx
          rcases List.mem_append.mp hx with hx | hx
          · exact sub x hx
          · rw [List.mem_singleton.mp hx]
            exact mem
      · refine ci _ (fun x hx => ?_) ?_
        · by_cases m : k ∈ ms
          · rw [if_pos m]
            exact hx
          · rw [if_neg m]
            exact List.mem_append_left _ hx
        · by_cases m : k ∈ ms
          · rw [if_pos m]
            exact m
          · rw [if_neg m]
            exact List.mem_append_right _ (List.mem_singleton.mpr rfl)
    rintro σ J8 ⟨s8, ⟨ms, eD8, ndm, sub, cvm⟩, v7, rfl⟩
    have mem : ∀ k, k ∈ ms ↔ k < 36 ∧ 0 < sm (rowsOf zs) k := fun k => by
      have z : k ∈ es.map (·.2) ↔ k < 36 ∧ 0 < sm (rowsOf zs) k := by
        rw [ees, List.mem_filter, List.mem_range, decide_eq_true_iff]
      refine ⟨fun h => z.mp (sub k h), fun h => ?_⟩
      obtain ⟨w, hw, e⟩ := List.mem_map.mp (z.mpr h)
      obtain ⟨m, hlt, rfl⟩ := List.getElem_of_mem hw
      have := cvm (es.length - 1 - m) (by omega) es[m] (by rw [show es.length - 1 - (es.length - 1 - m) = m by omega]; exact List.getElem?_eq_getElem hlt)
      rw [← e]
      exact this
    have kkm : ∀ k ∈ ms, KOk k ∧ 0 ≤ sm (rowsOf zs) k := fun k h => by
      have h := ((mem k).mp h).2
      obtain ⟨r, hr, e⟩ := sm_in h
      exact ⟨kok r hr k e, by omega⟩
    have ne2 := nt_ent ndm fun r hr k e => by
      by_cases c : k ∈ ms
      · exact .inl c
      · refine .inr ?_
        have h1 := sm_ge nn r hr e
        have h2 := nn r hr
        have h3 : ¬ 0 < sm (rowsOf zs) k := fun z => c ((mem k).mpr ⟨(kok r hr k e).1, z⟩)
        omega
    have s08 := s06.trans s8
    have edu8 := s8 _ _ edu6
    have eDD8 := s8 _ _ eD6
    have lms : ms.length ≤ 36 := nodup_lenN ndm fun x hx => ((mem x).mp hx).1
    walk_at "go"
    refine ⟨D2, ms, _, rfl, eD8, kkm, by omega, fun t9 H9 s9 et9 => ?_⟩
    rw [ne2, nt_tup] at et9
    have edu9 := s9 _ _ edu8
    have eD9 := s9 _ _ eD8
    have eDD9 := s9 _ _ eDD8
    have s09 := s08.trans s9
    walk_at "go"
    refine ⟨t9, du, ntL (rowsOf zs), rfl, et9, SqL.of edu9, by omega, ?_⟩
    walk_at "go"
    rw [fe34]
    refine ⟨D2, _, rfl, DPut.k (k := Sum.inr (ky 34)) eD9 (by rw [tab_len]; exact szlt (by omega)), ?_⟩
    rw [tab_put (fun _ _ => ky_inj)]
    have nD9 : H6 D2 = none := nD2
    have s69 : Same H6 H9 := s8.trans s9
    have q1 : ∃ m1 g1, (upd H9 D2 (.dK (tab ky (if 34 ∈ ms then ms else ms ++ [34]) fun j => if j = 34 then 5 else sm (rowsOf zs) j))) D2 = some (.dK (tab ky m1 g1)) ∧ (∀ k ∈ m1, KOk k ∧ 0 ≤ g1 k) ∧ m1.length ≤ 37 ∧ m1.Nodup := by
      refine ⟨_, _, upd_same, fun k hk => ?_, ?_, ?_⟩
      · have : k ∈ ms ∨ k = 34 := by
          by_cases m : 34 ∈ ms
          · rw [if_pos m] at hk
            exact .inl hk
          · rw [if_neg m] at hk
            exact (List.mem_append.mp hk).imp id List.mem_singleton.mp
        rcases this with h | rfl
        · refine ⟨(kkm k h).1, ?_⟩
          split
          · decide
          · exact (kkm k h).2
        · exact ⟨⟨by decide, by decide⟩, by rw [if_pos rfl]; decide⟩
      · by_cases m : 34 ∈ ms
        · rw [if_pos m]
          omega
        · rw [if_neg m, List.length_append, List.length_singleton]
          omega
      · by_cases m : 34 ∈ ms
        · rw [if_pos m]
          exact ndm
        · rw [if_neg m]
          exact List.nodup_append.mpr ⟨ndm, by simp, fun x hx y hy e => m (by rw [List.mem_singleton.mp hy] at e; exact e ▸ hx)⟩
    have s10 := Z.Same.mut (o := .dK (tab ky (if 34 ∈ ms then ms else ms ++ [34]) fun j => if j = 34 then 5 else sm (rowsOf zs) j)) s69 nD9
    generalize upd H9 D2 (.dK (tab ky (if 34 ∈ ms then ms else ms ++ [34]) fun j => if j = 34 then 5 else sm (rowsOf zs) j)) = H10 at q1 s10
    obtain ⟨m1, g1, eD10, kk1, l1, nd1⟩ := q1
    walk_at "go"
    rw [af5]
    refine ⟨D2, _, rfl, DPut.k (k := Sum.inr (ky 5)) eD10 (by rw [tab_len]; exact szlt (by omega)), ?_⟩
    rw [tab_put (fun _ _ => ky_inj)]
    have q2 : ∃ m2 g2, (upd H10 D2 (.dK (tab ky (if 5 ∈ m1 then m1 else m1 ++ [5]) fun j => if j = 5 then 0 else g1 j))) D2 = some (.dK (tab ky m2 g2)) ∧ (∀ k ∈ m2, KOk k ∧ 0 ≤ g2 k) ∧ m2.length ≤ 38 := by
      refine ⟨_, _, upd_same, fun k hk => ?_, ?_⟩
      · have : k ∈ m1 ∨ k = 5 := by
          by_cases m : 5 ∈ m1
          · rw [if_pos m] at hk
            exact .inl hk
          · rw [if_neg m] at hk
            exact (List.mem_append.mp hk).imp id List.mem_singleton.mp
        rcases this with h | rfl
        · refine ⟨(kk1 k h).1, ?_⟩
          split
          · decide
          · exact (kk1 k h).2
        · exact ⟨⟨by decide, by decide⟩, by rw [if_pos rfl]; decide⟩
      · by_cases m : 5 ∈ m1
        · rw [if_pos m]
          omega
        · rw [if_neg m, List.length_append, List.length_singleton]
          omega
    have s11 := Z.Same.mut (o := .dK (tab ky (if 5 ∈ m1 then m1 else m1 ++ [5]) fun j => if j = 5 then 0 else g1 j)) s10 nD9
    generalize upd H10 D2 (.dK (tab ky (if 5 ∈ m1 then m1 else m1 ++ [5]) fun j => if j = 5 then 0 else g1 j)) = H11 at q2 s11
    obtain ⟨m2, g2, eD11, kk2, l2⟩ := q2
    have edu11 := s11 _ _ edu6
    have eDD11 := s11 _ _ eD6
    have s011 := s06.trans s11
    walk_at "go"
    refine ⟨D2, _, eD11, trivial, fun od => ?_⟩
    have fz : (upd H11 D2 (.frz od (.dK (tab ky m2 g2)))) D2 = some (.frz od (.dK (tab ky m2 g2))) := upd_same
    have sb : SB D2 H11 (upd H11 D2 (.frz od (.dK (tab ky m2 g2)))) := fun b o n e => by rw [upd_ne n]; exact e
    generalize upd H11 D2 (.frz od (.dK (tab ky m2 g2))) = J1 at fz sb
    walk_at "go"
    refine ⟨D2, od, rfl, .inl ⟨_, fz, fun C nC => ?_⟩⟩
    have CD : C ≠ D2 := fun e => by rw [e, fz] at nC; cases nC
    have nC11 : H11 C = none := by
      cases e : H11 C with
      | none => rfl
      | some o =>
        have := sb C o CD e
        rw [nC] at this
        cases this
    refine lc_gen (n := m2.length) (fun i J => J D2 = some (.frz od (.dK (tab ky m2 g2))) ∧ SB D2 H11 J ∧ ∃ cs : List (Addr × Nat), J C = some (.lst (cs.map fun z => V.ref z.1)) ∧ cs.map (·.2) = m2.take i ∧ ∀ z ∈ cs, J z.1 = some (.tup [.str (ky z.2), .int (g2 z.2)])) ⟨by rw [upd_ne CD.symm]; exact fz, fun b o n e => ?_, [], upd_same, rfl, fun z h => absurd h (by simp)⟩ ?_ ?_ ?_ ?_
    · rw [upd_ne (fun z => by rw [z, nC11] at e; cases e)]
      exact sb b o n e
    · rintro i J hi ⟨f1, _⟩
      exact ⟨f1, by rw [tab_len]; exact hi⟩
    · rintro J ⟨f1, _⟩
      exact ⟨f1, by rw [tab_len]; exact Nat.le_refl _⟩
    · rintro i J x J2 hi ⟨f1, sb1, cs, eC, ecs, ct⟩ ⟨rfl, k, v, e, rfl⟩
      rw [tab_at hi] at e
      cases e
      have km := List.getElem_mem hi
      have tk : m2.take (i + 1) = m2.take i ++ [m2[i]] := by
        rw [List.take_succ, List.getElem?_eq_getElem hi]
        rfl
      generalize m2[i] = k at km tk
      have lcs : cs.length ≤ 38 := by
        have := congrArg List.length ecs
        rw [List.length_map, List.length_take] at this
        omega
      walk_at "go"
      have dg : DGet J2 D2 (.str (ky k)) (some (.int (g2 k))) := .inl ⟨tab ky m2 g2, Sum.inr (ky k), .inr ⟨od, f1⟩, rfl, by rw [tab_val (fun _ _ => ky_inj), if_pos km]⟩
      refine ⟨D2, _, rfl, dg, ?_⟩
      walk_at "go"
      intro t nt
      have tC : C ≠ t := ne_of_none eC nt
      have tD : D2 ≠ t := ne_of_none f1 nt
      have nt11 : H11 t = none := by
        cases e : H11 t with
        | none => rfl
        | some o =>
          have := sb1 t o tD.symm e
          rw [nt] at this
          cases this
      refine ⟨_, by rw [upd_ne tC]; exact eC, by rw [List.length_map]; exact szlt (by omega), by rw [upd_ne CD.symm, upd_ne tD]; exact f1, fun b o n e => ?_, cs ++ [(t, k)], by rw [upd_same, List.map_append]; rfl, by rw [List.map_append, ecs, tk]; rfl, fun z hz => ?_⟩
      · rw [upd_ne (fun z => by rw [z, nC11] at e; cases e), upd_ne (fun z => by rw [z, nt11] at e; cases e)]
        exact sb1 b o n e
      · have e : (upd J2 t (.tup [.str (ky k), .int (g2 k)])) z.1 = some (.tup [.str (ky z.2), .int (g2 z.2)]) := by
          rcases List.mem_append.mp hz with h | h
          · have h := ct z h
            rw [upd_ne (ne_of_none h nt)]
            exact h
          · rw [List.mem_singleton.mp h]
            exact upd_same
        have zC : z.1 ≠ C := fun q => by
          rw [q, upd_ne tC, eC] at e
          cases e
        rw [upd_ne zC]
        exact e
    rintro J2 ⟨f1, sb1, cs, eC, ecs, ct⟩
    rw [List.take_length] at ecs
    have s12 : Same H11 (upd J2 D2 (.dK (tab ky m2 g2))) := fun b o e => by
      by_cases c : b = D2
      · subst c
        rw [upd_same, ← eD11, e]
      · rw [upd_ne c]
        exact sb1 b o c e
    have eD12 : (upd J2 D2 (.dK (tab ky m2 g2))) D2 = some (.dK (tab ky m2 g2)) := upd_same
    have eC12 : (upd J2 D2 (.dK (tab ky m2 g2))) C = some (.lst (cs.map fun z => V.ref z.1)) := by rw [upd_ne CD]; exact eC
    have ct12 : ∀ z ∈ cs, (upd J2 D2 (.dK (tab ky m2 g2))) z.1 = some (.tup [.str (ky z.2), .int (g2 z.2)]) := fun z hz => by
      have h := ct z hz
      have zD : z.1 ≠ D2 := fun q => by rw [q, f1] at h; cases h
      rw [upd_ne zD]
      exact h
    walk_at "go"
    generalize upd J2 D2 (.dK (tab ky m2 g2)) = H12 at s12 eD12 eC12 ct12
    have rw2 : Rw2 H12 C (cs.map fun z => (z.1, (some z.2, g2 z.2))) := by
      refine ⟨by rw [eC12, List.map_map]; rfl, fun z hz => ?_⟩
      obtain ⟨w, hw, rfl⟩ := List.mem_map.mp hz
      exact ⟨[], ct12 w hw⟩
    have ercs : (cs.map fun z => (z.1, ((some z.2 : Option Nat), g2 z.2))).map (·.2) = ent m2 g2 := by
      unfold ent
      rw [← ecs, List.map_map, List.map_map]
      rfl
    have lcs : cs.length ≤ 38 := by
      have := congrArg List.length ecs
      rw [List.length_map] at this
      omega
    have s012 := s011.trans s12
    have edu12 := s12 _ _ edu11
    have eDD12 := s12 _ _ eDD11
    walk_at "go"
    refine ⟨D2, m2, g2, rfl, eD12, kk2, by omega, fun t13 H13 s13 et13 => ?_⟩
    rw [nt_tup] at et13
    walk_at "go"
    refine ⟨C, _, rfl, rw2.mono s13, by rw [List.length_map]; omega, fun L14 H14 s14 e14 => ?_⟩
    rw [ercs] at e14
    have l62 : (ntL (ent m2 g2)).length = 6 := by
      unfold ntL
      rw [List.length_map, List.length_range]
    walk_at "go"
    refine ⟨t13, L14, _, rfl, s14 _ _ et13, SqL.of e14, by omega, ?_⟩
    have s1314 := s13.trans s14
    have edu14 := s1314 _ _ edu12
    have eDD14 := s1314 _ _ eDD12
    walk_at "go"
    refine ⟨D, ks, _, rfl, eDD14, fun k hk => ⟨kk k hk, tot_nonneg nn⟩, by omega, fun t15 H15 s15 et15 => ?_⟩
    rw [ne, nt_tup] at et15
    walk_at "go"
    refine ⟨t15, du, ntL (rowsOf zs), rfl, et15, SqL.of (s15 _ _ edu14), by omega, ?_⟩
    walk_at "go"
    exact q _ (s012.trans (s1314.trans s15))
end
end Z
set_option Elab.async false
set_option linter.all false
set_option maxRecDepth 100000
set_option maxHeartbeats 4000000
namespace Z
open PySem PySem.Spec PyProof.Rows L2
open SX (S S_inj S_len S_cat)
theorem dpa_strs {K : PySem.W.Frag} {H : Hp} : ∀ ts : List Str, DpAll K H (ts.map V.str) (ts.map PyData.str)
  | [] => .nil
  | t :: r => .cons (.str t) (dpa_strs r)
theorem strs_flat : ∀ {ts : List Str}, (∀ t ∈ ts, PyData.strOk t = true) → PyData.canLayAll0 (ts.map PyData.str) = true ∧ PyData.depthAll (ts.map PyData.str) = 0
  | [], _ => ⟨rfl, rfl⟩
  | t :: r, h => by
    have z := strs_flat fun x hx => h x (List.mem_cons_of_mem _ hx)
    have y := h t List.mem_cons_self
    constructor
    · rw [List.map_cons, PyData.canLayAll0, z.1]
      simp [PyData.canLay0, y]
    · rw [List.map_cons, PyData.depthAll, z.2]
      simp [PyData.depth]
theorem shaped_strs {ts : List Str} (h : ∀ t ∈ ts, PyData.strOk t = true) : SeqAt.shaped (.list (ts.map PyData.str)) = true := by
  have z := strs_flat h
  unfold SeqAt.shaped
  show (PyData.canLayAll0 (ts.map PyData.str) && decide (PyData.depthAll (ts.map PyData.str) + 1 ≤ 64)) = true
  rw [z.1, z.2]
  rfl
theorem strOk_of {l : List Nat} (h : ∀ c ∈ l, c < 1000) : PyData.strOk (S l) = true := by
  show (S l).cps.all (· < 0x110000) = true
  rw [Array.all_eq_true']
  intro c hc
  have := h c (by simpa using hc)
  simp
  omega
theorem rowT_ok {w : Wr} (h : RowT w) : PyData.strOk (S w.2) = true := by
  refine strOk_of fun c hc => ?_
  rcases h with ⟨_, _, z, hz, e⟩ | ⟨k, _, hk, _, _, e⟩
  · rw [e] at hc
    rw [List.mem_singleton.mp hc]
    omega
  · rw [e] at hc
    rcases List.mem_append.mp hc with h | h
    · unfold kyL at h
      have := hk.1
      simp only [List.mem_cons, List.not_mem_nil, or_false] at h
      omega
    · have := TL.numL_digits _ c h
      omega
theorem cut_to {xs : List V} {i : Nat} (h : i ≤ xs.length) : cutV xs none (some (i : Int)) = xs.take i := by
  unfold cutV
  rw [HT.sIx_none, HT.sIx_nat, Nat.min_eq_left h, List.drop_zero, Nat.sub_zero]
theorem cut_from {xs : List V} {i : Nat} (h : i ≤ xs.length) : cutV xs (some (i : Int)) none = xs.drop i := by
  unfold cutV
  rw [HT.sIx_none, HT.sIx_nat, Nat.min_eq_left h, List.take_of_length_le (by rw [List.length_drop]; exact Nat.le_refl _)]
end Z
set_option pp.maxSteps 700
set_option Elab.async false
set_option linter.all false
set_option maxRecDepth 100000
set_option maxHeartbeats 4000000
open SX (S S_inj S_len S_cat)
namespace Z
open PySem PySem.Spec PyProof.Rows L2
open C8 (pss_cut tCut)
local macro_rules | `(tactic| walk_at "num") => `(tactic| first | rfl | omega | decide | exact Nat.le_of_lt (small1000 (by simp)) | exact ⟨by omega, by omega⟩ | exact ⟨by omega, by omega, by omega⟩ | exact ⟨by decide, by decide, by decide⟩ | exact Or.inl ⟨by omega, by omega⟩ | exact Or.inr ⟨by omega, by omega⟩)
local macro_rules | `(tactic| walk_at "go") => `(tactic| repeat (first | refine ⟨_, rfl, ?_⟩ | refine ⟨_, _, rfl, rfl, ?_⟩ | refine ⟨_, _, rfl, ?_⟩ | (refine ⟨_, _, rfl, rfl, ?_, ?_⟩; focus walk_at "num") | refine Or.inl ⟨_, rfl, ?_⟩ | refine ⟨_, _, _, _, rfl, rfl, (by assumption), (by rfl), ?_⟩ | refine ⟨_, _, _, _, _, rfl, (by assumption), (by assumption), (by assumption), (by rfl), ?_⟩ | refine ⟨rfl, ?_⟩ | (refine And.intro ?_ ?_; focus walk_at "num")))
abbrev s_law : Stmt := topS 31
abbrev N_law : List Str := ["_law_script", "_law_draws_here", "_law_place", "_law_parties_here", "_law_scale", "_law_rows_here", "_law_row", "_law_texts", "_law_sums_here", "_law_given", "_law_first", "_law_shape", "_law_at", "_law_coins_here", "_law_pair", "_law_more"]
abbrev P_law : List Str := ["_law_script"]
theorem sc_law : FnScope N_law P_law (defScope s_law) := ⟨rfl, rfl, rfl, by decide +kernel, rfl, by decide +kernel, by decide +kernel⟩
theorem js_eq {zs : List (Addr × Wr)} {js ks : List Nat} (rt : ∀ z ∈ zs, RowT z.2) (asc : js.Pairwise (· < ·)) (mem : ∀ k, k ∈ js ↔ 0 < sm (rowsOf zs) k) (e : ks = (List.range 36).filter (fun k => decide (0 < sm (rowsOf zs) k))) : ks = js := by
  refine asc_extN (by rw [e]; exact List.pairwise_lt_range.filter _) asc fun k => ?_
  rw [e, List.mem_filter, List.mem_range, decide_eq_true_iff, mem]
  refine ⟨fun h => h.2, fun h => ⟨?_, h⟩⟩
  obtain ⟨r, hr, er⟩ := sm_in h
  exact ((rowT_nn rt).2 r hr k er).1
theorem owed_net {zs : List (Addr × Wr)} {js : List Nat} (rt : ∀ z ∈ zs, RowT z.2) (asc : js.Pairwise (· < ·)) (mem : ∀ k, k ∈ js ↔ 0 < sm (rowsOf zs) k) : (∀ k ∈ js, KOk k ∧ 0 ≤ sm (rowsOf zs) k) ∧ nt (ent js (sm (rowsOf zs))) = nt (rowsOf zs) := by
  obtain ⟨nn, kok⟩ := rowT_nn rt
  refine ⟨fun k h => ?_, nt_ent (asc.imp (fun h => Nat.ne_of_lt h)) fun r hr k e => ?_⟩
  · have h := (mem k).mp h
    obtain ⟨r, hr, e⟩ := sm_in h
    exact ⟨kok r hr k e, by omega⟩
  · by_cases c : k ∈ js
    · exact .inl c
    · refine .inr ?_
      have h1 := sm_ge nn r hr e
      have h2 := nn r hr
      have h3 : ¬ 0 < sm (rowsOf zs) k := fun z => c ((mem k).mpr z)
      omega
theorem RwZ.updD {H : Hp} {F a : Addr} {kv : List (Key × V)} {o : HO} {zs : List (Addr × Wr)} (h : H F = some (.dK kv)) (m : RwZ H a zs) : RwZ (upd H F o) a zs := by
  refine ⟨?_, fun z hz => ?_⟩
  · rw [upd_ne (fun q => by have := m.sq; rw [q, h] at this; cases this)]
    exact m.sq
  · rw [upd_ne (fun q => by have := m.at_ z hz; rw [q, h] at this; cases this)]
    exact m.at_ z hz
section
variable {P : Program} {w : World} {K : PySem.W.Frag} {mg : Str → Option Value} {base : Heap} {f : Addr} {fd : FuncData}
def spLaw (K : PySem.W.Frag) : Sp := fun vs H Q _ => ∃ (s : Addr) (ns : List Int), vs = [.ref s] ∧ SqL K H s (ns.map V.int) ∧ ns.length ≤ 63 ∧ ∀ H', Q (.bl true) H'
theorem ok_law (F : FnP K "law" s_law f fd) (m_int : mg "int" = none) (m_list : mg "list" = none) (m_tuple : mg "tuple" = none) (m_len : mg "len" = none) (m_str : mg "str" = none) (c_cell : Cal P w K mg base 1 "_law_cell" (spCell K)) (c_draws : Cal P w K mg base 1 "_law_draws" spDraws) (c_take : Cal P w K mg base 1 "_law_take" (spTake K)) (c_parties : Cal P w K mg base 2 "_law_parties" (spParties K)) (c_rows : Cal P w K mg base 4 "_law_rows" (spRows K)) (c_sums : Cal P w K mg base 2 "_law_sums" (spSums K)) (c_owed : Cal P w K mg base 2 "owed" (spOwed K)) (c_net : Cal P w K mg base 4 "net" spNet) (c_same_debts : Cal P w K mg base 2 "_law_same_debts" (spSameD K)) (c_same_row : Cal P w K mg base 2 "_law_same_row" (spSameRow K)) (c_nets_right : Cal P w K mg base 5 "_law_nets_right" (spNetsR K)) (c_law_net : Cal P w K mg base 1 "_law_net" (spLNet K)) : FnOk P w K mg base CX0 6 f fd P_law (spLaw K) := by
  refine F.ok sc_law (fun vs H Q E h => ?_) (fun cdv A outer s H vs Q E hr h => ?_)
  · obtain ⟨s, ns, rfl, _⟩ := h
    rfl
  · obtain ⟨s, ns, rfl, hS, ls, q⟩ := h
    refine ⟨_, PSs.nox (pss_cons (ps_set (i := 1) sc_law.nd rfl (by first | exact .inl rfl | exact .inr rfl) (pe_cl c_draws hr (by decide) (by rfl) (pa_cons (pe_cl c_cell hr (by decide) (by rfl) (pa_cons (pv 0) (pa_cons pe_int pa_nil))) (pa_cons pe_int pa_nil))))
      (pss_cons (ps_set (i := 2) sc_law.nd rfl (by first | exact .inl rfl | exact .inr rfl) (pe_lst (pa_cons pe_int pa_nil)))
      (pss_cons (ps_set (i := 3) sc_law.nd rfl (by first | exact .inl rfl | exact .inr rfl) (pe_cl c_parties hr (by decide) (by rfl) (pa_cons (pv 1) (pa_cons (pv 2) pa_nil))))
      (pss_cons (ps_set (i := 4) sc_law.nd rfl (by first | exact .inl rfl | exact .inr rfl) (pe_op op_mod (pe_callTy call_int1 (by rfl) m_int (by decide +kernel) (pa_cons (pe_cl c_take hr (by decide) (by rfl) (pa_cons (pv 1) (pa_cons (pv 2) pa_nil))) pa_nil)) pe_int))
      (pss_cons (ps_set (i := 5) sc_law.nd rfl (by first | exact .inl rfl | exact .inr rfl) (pe_cl c_rows hr (by decide) (by rfl) (pa_cons (pv 1) (pa_cons (pv 2) (pa_cons (pv 3) (pa_cons (pv 4) pa_nil))))))
      (pss_cons (ps_setLc (i := 7) (own := [("_law_row", 6)]) (g := (gName 6)) (tt := tYes) (by rfl) sc_law.nd rfl rfl (sw_true rfl rfl rfl (by decide +kernel)) (pi_list (pv 5)) (blkOk_by (own := [("_law_row", 6)]) (N := N_law) (sc := defScope s_law) (by decide +kernel)) (fun _ _ _ _ _ => (pg_name (i := 6) sc_law.nd rfl (by first | exact .inl rfl | exact .inr rfl))) (fun _ _ _ _ _ => pts_nil) (fun _ _ _ _ _ => (pe_ix (ix_tup_K (K := K) rfl) (pv 6) pe_int (fun _ _ => rfl))))
      (pss_cons (ps_set (i := 8) sc_law.nd rfl (by first | exact .inl rfl | exact .inr rfl) (pe_cl c_sums hr (by decide) (by rfl) (pa_cons (pv 5) pa_nil)))
      (pss_cons (ps_set (i := 9) sc_law.nd rfl (by first | exact .inl rfl | exact .inr rfl) (pe_callTy call_list_of (by rfl) m_list (by decide +kernel) (pa_cons (pv 7) pa_nil)))
      (pss_cons (ps_set (i := 10) sc_law.nd rfl (by first | exact .inl rfl | exact .inr rfl) (pe_cl c_owed hr (by decide) (by rfl) (pa_cons (pv 9) pa_nil)))
      (pss_cons (ps_if (PW.pt (pw_or (pt_not (pt_val (pe_cl c_same_debts hr (by decide) (by rfl) (pa_cons (pv 10) (pa_cons (pv 8) pa_nil))))) (pw_or1 (pt_cmpR (op_neD hr.units) (pv 9) (pv 7) (nomark _))))) (pss_one (ps_ret pe_bl)) pss_nil)
      (pss_cons (ps_set (i := 11) sc_law.nd rfl (by first | exact .inl rfl | exact .inr rfl) (pe_cl c_cell hr (by decide) (by rfl) (pa_cons (pv 0) (pa_cons pe_int pa_nil))))
      (pss_cons (ps_set (i := 12) sc_law.nd rfl (by first | exact .inl rfl | exact .inr rfl) (pe_op op_mod (pe_callTy call_int1 (by rfl) m_int (by decide +kernel) (pa_cons (pv 11) pa_nil)) (pe_op op_add (pe_callB call_len_seq (by rfl) m_len PySem.boot_len (pa_cons (pv 5) pa_nil)) pe_int)))
      (pss_cons (ps_set (i := 13) sc_law.nd rfl (by first | exact .inl rfl | exact .inr rfl) (pe_op op_mod (pe_callTy call_int1 (by rfl) m_int (by decide +kernel) (pa_cons (pe_op op_fdiv (pv 11) pe_int) pa_nil)) pe_int))
      (pss_cut (ps_if (pt_cmpR op_eq (pv 4) pe_int (nomark _)) (pss_one (ps_set (i := 13) sc_law.nd rfl (by first | exact .inl rfl | exact .inr rfl) pe_int)) pss_nil)
      (pss_cons (ps_set (i := 14) sc_law.nd rfl (by first | exact .inl rfl | exact .inr rfl) (pe_op op_add_str (pe_ix ix_str (pv 3) pe_int (fun _ _ => rfl)) (pe_ix ix_str (pv 3) pe_int (fun _ _ => rfl))))
      (pss_cons (ps_set (i := 15) sc_law.nd rfl (by first | exact .inl rfl | exact .inr rfl) (pe_op op_cat (pe_op op_cat (pe_slice sl_list (pv 5) po_none (po_some (pv 12))) (pe_lst (pa_cons (pe_tup (pa_cons (pv 14) (pa_cons (pv 13) (pa_cons (pe_op op_add_str (pv 14) (pe_callTy call_str_int (by rfl) m_str (by decide +kernel) (pa_cons (pv 13) pa_nil))) pa_nil)))) pa_nil))) (pe_slice sl_list (pv 5) (po_some (pv 12)) po_none)))
      (pss_cons (ps_expr (pe_bm PySem.F.plainAttrs_list PySem.F.slot_list_insert PySem.F.type_list_insert mt_insert (pv 9) (pa_cons (pv 12) (pa_cons (pe_op op_add_str (pv 14) (pe_callTy call_str_int (by rfl) m_str (by decide +kernel) (pa_cons (pv 13) pa_nil))) pa_nil))))
      (pss_cons (ps_if (PW.pt (pw_or (pt_not (pt_val (pe_cl c_same_debts hr (by decide) (by rfl) (pa_cons (pv 10) (pa_cons (pv 8) pa_nil))))) (pw_or1 (pt_not (pt_val (pe_cl c_same_debts hr (by decide) (by rfl) (pa_cons (pe_cl c_owed hr (by decide) (by rfl) (pa_cons (pv 9) pa_nil)) (pa_cons (pe_cl c_sums hr (by decide) (by rfl) (pa_cons (pv 15) pa_nil)) pa_nil)))))))) (pss_one (ps_ret pe_bl)) pss_nil)
      (pss_cons (ps_dput (hu_of hr) (pv 10) (pv 14) (pe_op op_add (pe_op op_pow pe_int pe_int) pe_int) rfl)
      (pss_cons (ps_if (PW.pt (pw_or (pt_not (pt_val (pe_cl c_same_debts hr (by decide) (by rfl) (pa_cons (pe_cl c_owed hr (by decide) (by rfl) (pa_cons (pe_callTy call_tuple_of (by rfl) m_tuple (by decide +kernel) (pa_cons (pv 7) pa_nil)) pa_nil)) (pa_cons (pv 8) pa_nil))))) (pw_or1 (pt_not (pt_val (pe_cl c_same_debts hr (by decide) (by rfl) (pa_cons (pe_cl c_owed hr (by decide) (by rfl) (pa_cons (pe_callTy call_list_of (by rfl) m_list (by decide +kernel) (pa_cons (pv 7) pa_nil)) pa_nil)) (pa_cons (pv 8) pa_nil)))))))) (pss_one (ps_ret pe_bl)) pss_nil)
      (pss_cons (ps_if (pt_not (pt_val (pe_cl c_same_row hr (by decide) (by rfl) (pa_cons (pe_cl c_net hr (by decide) (by rfl) (pa_cons pe_dnewK pa_nil)) (pa_cons (pe_lst (pa_cons pe_int (pa_cons pe_int (pa_cons pe_int (pa_cons pe_int (pa_cons pe_int (pa_cons pe_int pa_nil))))))) pa_nil))))) (pss_one (ps_ret pe_bl)) pss_nil)
      (pss_cons (ps_if (PW.pt (pw_or (pt_not (pt_val (pe_cl c_nets_right hr (by decide) (by rfl) (pa_cons (pv 5) pa_nil)))) (pw_or1 (pt_not (pt_val (pe_cl c_nets_right hr (by decide) (by rfl) (pa_cons (pv 15) pa_nil))))))) (pss_one (ps_ret pe_bl)) pss_nil)
      (pss_one (ps_ret (pe_and (pe_cl c_same_row hr (by decide) (by rfl) (pa_cons (pe_cl c_net hr (by decide) (by rfl) (pa_cons (pe_cl c_owed hr (by decide) (by rfl) (pa_cons (pv 9) pa_nil)) pa_nil)) (pa_cons (pe_cl c_law_net hr (by decide) (by rfl) (pa_cons (pv 15) pa_nil)) pa_nil))) (pe_one (pe_cl c_same_debts hr (by decide) (by rfl) (pa_cons (pe_cl c_owed hr (by decide) (by rfl) (pa_cons (pe_lst pa_nil) pa_nil)) (pa_cons (pe_lst pa_nil) pa_nil))))))))))))))))))))))))))))), ?_⟩
    walk_at "go"
    refine ⟨s, ns, 1, rfl, hS, ?_⟩
    walk_at "go"
    intro d ds nd dr
    have s1 := same_new (o := .lst (ds.map V.int)) nd
    have ed : (upd H d (.lst (ds.map V.int))) d = some (.lst (ds.map V.int)) := upd_same
    generalize upd H d (.lst (ds.map V.int)) = H1 at s1 ed
    walk_at "go"
    intro p np
    have s2 := s1.trans (same_new (o := .lst [.int 0]) np)
    have dp : d ≠ p := ne_of_none ed np
    have hT : Tk K d p ds 200 (upd H1 p (.lst [.int 0])) (upd H1 p (.lst [.int 0])) := ⟨(same_new np) _ _ ed, dr, dp, Z.Same.sb (Same.refl _), 0, upd_same⟩
    have npH := none_of s1 np
    generalize upd H1 p (.lst [.int 0]) = H2 at s2 hT
    walk_at "go"
    refine ⟨d, p, 200, ds, rfl, hT, fun ps H3 hT3 ndp p6 l2 l6 => ?_⟩
    obtain ⟨m3, em3⟩ := hT3.pl
    walk_at "go"
    refine ⟨d, p, 200, m3, ds, rfl, SqL.of hT3.hA, hT3.hd, em3, hT3.ne, fun r r0 r1 => ?_⟩
    obtain ⟨hT4, _⟩ := hT3.next em3
    generalize upd H3 p (.lst [.int ((m3 + 1 : Nat) : Int)]) = H4 at hT4
    walk_at "go"
    refine ⟨d, p, 200, ds, ps, r % 8, rfl, hT4.slf, ndp, p6, l2, l6, fun L zs H5 hT5 hz rt nL lz => ?_⟩
    have hT5' := hT4.tr hT5
    have s5 : Same H H5 := fun b o e => hT5'.sb b o (ne_of_none e npH) (s2 b o e)
    clear hT hT3 hT4 hT5 hT5' s1 s2
    walk_at "go"
    refine ⟨⟨_, SqL.of hz.sq⟩, fun T nT => ?_⟩
    refine lc_rows (fun _ : Wr => true) (fun w => V.str (S w.2)) (SqL.of hz.sq) (by omega) nT (fun _ => rfl) (fun z J1 Q1 hm s1 q1 => q1) ?_ ?_
    · intro z J1 Q1 hm _ s1 q1
      have t1 := s1 _ _ (hz.at_ z hm)
      walk_at "go"
      exact ⟨z.1, _, _, _, rfl, rfl, SqT.of t1, rfl, q1⟩
    intro H6 s6 eT
    rw [List.filter_eq_self.mpr (fun _ _ => rfl)] at eT
    have hz6 := hz.mono s6
    have s06 := s5.trans s6
    obtain ⟨ws, ews⟩ : ∃ ws, ws = zs.map (·.2) := ⟨_, rfl⟩
    rw [← ews] at eT
    have wrt : ∀ w ∈ ws, RowT w := fun w hw => by
      rw [ews] at hw
      obtain ⟨z, h, rfl⟩ := List.mem_map.mp hw
      exact rt z h
    have lws : ws.length ≤ 50 := by rw [ews, List.length_map]; exact lz
    have ers : ws.map (·.1) = rowsOf zs := by rw [ews, List.map_map]; rfl
    walk_at "go"
    refine ⟨L, zs, rfl, hz6, by omega, fun L2 es H7 s7 en ees => ?_⟩
    have hz7 := hz6.mono s7
    have eT7 := s7 _ _ eT
    have s07 := s06.trans s7
    clear hz6 eT s6 s7 s06 hz s5
    dsimp only [List.set]
    walk_at "go"
    refine ⟨T, _, rfl, .inl (SqL.of eT7), fun G nG => ?_⟩
    have b8 := same_new (o := .lst (ws.map fun w => V.str (S w.2))) nG
    have eG8 : (upd H7 G (.lst (ws.map fun w => V.str (S w.2)))) G = some (.lst (ws.map fun w => V.str (S w.2))) := upd_same
    generalize upd H7 G (.lst (ws.map fun w => V.str (S w.2))) = H8 at b8 eG8
    walk_at "go"
    refine ⟨true, G, ws, rfl, SqL.of eG8, wrt, by omega, fun F1 js H9 s9 asc mem nF eF => ?_⟩
    rw [ers] at mem eF
    have ejs := js_eq rt asc mem ees
    have b9 := b8.trans s9
    have eG9 := s9 _ _ eG8
    have nF7 := none_of b8 nF
    have GF : G ≠ F1 := ne_of_none eG8 nF
    have les : es.length ≤ 36 := by
      have h1 := congrArg List.length ees
      rw [List.length_map] at h1
      rw [h1]
      exact Nat.le_trans (List.length_filter_le ..) (by rw [List.length_range]; exact Nat.le_refl _)
    walk_at "go"
    refine ⟨F1, L2, js, _, es, rfl, eF, en.mono b9, ejs, by omega, fun H10 s10 => ?_⟩
    have b10 := b9.trans s10
    have eG10 := s10 _ _ eG9
    have eF10 := s10 _ _ eF
    walk_at "go"
    have sok : ∀ t ∈ ws.map (fun w => S w.2), PyData.strOk t = true := fun t ht => by
      obtain ⟨w, hw, rfl⟩ := List.mem_map.mp ht
      exact rowT_ok (wrt w hw)
    have em : ∀ vs : List Wr, vs.map (fun w => V.str (S w.2)) = (vs.map fun w => S w.2).map V.str := fun vs => by rw [List.map_map]; rfl
    refine ⟨_, _, .lst (SqL.of (by rw [← em]; exact eG10)) (dpa_strs _), .lst (SqL.of (by rw [← em]; exact b10 _ _ eT7)) (dpa_strs _), shaped_strs sok, shaped_strs sok, ?_⟩
    rw [eqv_same (shaped_strs sok)]
    clear eG8 eG9 eF s9 s10 b8 b9
    walk_at "go"
    refine ⟨s, ns, 0, rfl, b10.seq (s07.seq hS), ?_⟩
    walk_at "go"
    refine ⟨L, _, rfl, .inl (SqL.of (hz7.mono b10).sq), ?_⟩
    rw [List.length_map]
    walk_at "go"
    generalize ns.getD 0 0 = sh
    have i0 := Int.emod_nonneg sh (show (zs.length : Int) + 1 ≠ 0 by omega)
    have i1 := Int.emod_lt_of_pos sh (show 0 < (zs.length : Int) + 1 by omega)
    obtain ⟨i, ei, hi⟩ : ∃ i : Nat, sh % ((zs.length : Int) + 1) = (i : Int) ∧ i ≤ zs.length := ⟨(sh % ((zs.length : Int) + 1)).toNat, by omega, by omega⟩
    obtain ⟨c0, ec0, hc0⟩ : ∃ c0 : Nat, sh / 64 % 7 = (c0 : Int) ∧ c0 < 7 := ⟨(sh / 64 % 7).toNat, by omega, by omega⟩
    dsimp only [List.set]
    rw [ei]
    walk_at "go"
    refine ⟨fun σ J => J = H10 ∧ ∃ c : Nat, c < 7 ∧ σ = [some (.ref s), some (.ref d), some (.ref p), some (.str (S (pT ps))), some (.int (r % 8)), some (.ref L), none, some (.ref T), some (.ref L2), some (.ref G), some (.ref F1), some (.int sh), some (.int (i : Int)), some (.int (c : Int)), none, none], ?_, ?_⟩
    · walk_at "go"
      refine ite2 (fun e => ?_) (fun e => ?_)
      · walk_at "go"
        exact ⟨0, by decide, rfl⟩
      · walk_at "go"
        exact ⟨c0, hc0, by rw [← ec0]; rfl⟩
    rintro σ J ⟨rfl, c, hc, rfl⟩
    have hlen : (S (pT ps)).length ≤ sizeLine := by rw [S_len]; exact szl (by unfold pT; rw [List.length_map]; omega)
    have h1 : 1 < ps.length := by omega
    have h0 : 0 < ps.length := by omega
    have x6 := p6 _ (List.getElem_mem h1)
    have y6 := p6 _ (List.getElem_mem h0)
    have xy : ps[1] ≠ ps[0] := fun z => by
      have := (List.getElem_inj ndp).mp z
      omega
    have ea1 : atI (S (pT ps)).cps.toList 1 = some (97 + ps[1]) := pT_at h1
    have ea2 : atI (S (pT ps)).cps.toList 0 = some (97 + ps[0]) := pT_at h0
    generalize ps[1] = x at x6 xy ea1
    generalize ps[0] = y at y6 xy ea2
    obtain ⟨ek, k1, k2, k36⟩ := two_ky x6 y6
    generalize 6 * x + y = k at ek k1 k2 k36
    have hk : KOk k := ⟨k36, by rw [k1, k2]; exact xy⟩
    walk_at "go"
    refine ⟨S (pT ps), _, 97 + x, rfl, rfl, hlen, ea1, ?_⟩
    walk_at "go"
    refine ⟨S (pT ps), _, 97 + y, rfl, rfl, hlen, ea2, ?_⟩
    refine ⟨_, _, rfl, rfl, szl (show 1 + 1 ≤ 2000 by decide), ?_⟩
    rw [ek]
    have hzJ := hz7.mono b10
    walk_at "go"
    refine ⟨L, _, rfl, SqL.of hzJ.sq, fun A1 nA1 => ?_⟩
    have lzm : (zs.map fun z => V.ref z.1).length = zs.length := List.length_map ..
    rw [cut_to (by rw [lzm]; exact hi)]
    have s11 := same_new (o := .lst ((zs.map fun z => V.ref z.1).take i)) nA1
    have eA1 : (upd J A1 (.lst ((zs.map fun z => V.ref z.1).take i))) A1 = some (.lst ((zs.map fun z => V.ref z.1).take i)) := upd_same
    generalize upd J A1 (.lst ((zs.map fun z => V.ref z.1).take i)) = J1 at s11 eA1
    walk_at "go"
    refine ⟨log_small (by omega), ?_⟩
    have ln := TL.numL_len (n := c) (k := 1) (by decide) (by omega)
    have enm := SX.num_S c
    have l2' : (ky k).length = 2 := by unfold ky; rw [S_len]; rfl
    have ec : ky k ++ Str.ofString (toString ((c : Nat) : Int)) = S (kyL k ++ TL.numL c) := by
      rw [enm]
      unfold ky
      rw [S_cat]
    refine ⟨_, _, rfl, rfl, by rw [l2', enm, S_len]; exact szl (by omega), ?_⟩
    rw [ec]
    walk_at "go"
    obtain ⟨w0, ew0⟩ : ∃ w0 : Wr, w0 = ((some k, (c : Int)), kyL k ++ TL.numL c) := ⟨_, rfl⟩
    have rt0 : RowT w0 := by
      rw [ew0]
      exact .inr ⟨k, rfl, hk, Int.natCast_nonneg _, by show (c : Int) < 10 ^ 62; omega, rfl⟩
    intro t nt
    have s12 := s11.trans (same_new (o := .tup [.str (ky k), .int (c : Int), .str (S (kyL k ++ TL.numL c))]) nt)
    have et : (upd J1 t (.tup [.str (ky k), .int (c : Int), .str (S (kyL k ++ TL.numL c))])) t = some (.tup [.str (px w0.1.1), .int w0.1.2, .str (S w0.2)]) := by
      rw [upd_same, ew0]
      rfl
    have eA1 := (same_new (o := .tup [.str (ky k), .int (c : Int), .str (S (kyL k ++ TL.numL c))]) nt) _ _ eA1
    generalize upd J1 t (.tup [.str (ky k), .int (c : Int), .str (S (kyL k ++ TL.numL c))]) = J2 at s12 et eA1
    walk_at "go"
    intro B1 nB1
    have s13 := s12.trans (same_new (o := .lst [.ref t]) nB1)
    have et := (same_new (o := .lst [.ref t]) nB1) _ _ et
    have eA1 := (same_new (o := .lst [.ref t]) nB1) _ _ eA1
    have eB1 : (upd J2 B1 (.lst [.ref t])) B1 = some (.lst [.ref t]) := upd_same
    generalize upd J2 B1 (.lst [.ref t]) = J3 at s13 et eA1 eB1
    walk_at "go"
    refine ⟨A1, B1, _, _, rfl, rfl, eA1, eB1, by rw [List.length_take, lzm, List.length_singleton]; exact szl (by omega), fun C1 nC1 => ?_⟩
    have s14 := s13.trans (same_new (o := .lst ((zs.map fun z => V.ref z.1).take i ++ [.ref t])) nC1)
    have et := (same_new (o := .lst ((zs.map fun z => V.ref z.1).take i ++ [.ref t])) nC1) _ _ et
    have eC1 : (upd J3 C1 (.lst ((zs.map fun z => V.ref z.1).take i ++ [.ref t]))) C1 = some (.lst ((zs.map fun z => V.ref z.1).take i ++ [.ref t])) := upd_same
    generalize upd J3 C1 (.lst ((zs.map fun z => V.ref z.1).take i ++ [.ref t])) = J4 at s14 et eC1
    walk_at "go"
    refine ⟨L, _, rfl, SqL.of (hzJ.mono s14).sq, fun A2 nA2 => ?_⟩
    rw [cut_from (by rw [lzm]; exact hi)]
    have s15 := s14.trans (same_new (o := .lst ((zs.map fun z => V.ref z.1).drop i)) nA2)
    have et := (same_new (o := .lst ((zs.map fun z => V.ref z.1).drop i)) nA2) _ _ et
    have eC1 := (same_new (o := .lst ((zs.map fun z => V.ref z.1).drop i)) nA2) _ _ eC1
    have eA2 : (upd J4 A2 (.lst ((zs.map fun z => V.ref z.1).drop i))) A2 = some (.lst ((zs.map fun z => V.ref z.1).drop i)) := upd_same
    generalize upd J4 A2 (.lst ((zs.map fun z => V.ref z.1).drop i)) = J5 at s15 et eC1 eA2
    walk_at "go"
    refine ⟨C1, A2, _, _, rfl, rfl, eC1, eA2, by rw [List.length_append, List.length_take, List.length_drop, lzm, List.length_singleton]; exact szl (by omega), fun M nM => ?_⟩
    have s16 := s15.trans (same_new (o := .lst ((zs.map fun z => V.ref z.1).take i ++ [.ref t] ++ (zs.map fun z => V.ref z.1).drop i)) nM)
    have et := (same_new (o := .lst ((zs.map fun z => V.ref z.1).take i ++ [.ref t] ++ (zs.map fun z => V.ref z.1).drop i)) nM) _ _ et
    have eM : (upd J5 M (.lst ((zs.map fun z => V.ref z.1).take i ++ [.ref t] ++ (zs.map fun z => V.ref z.1).drop i))) M = some (.lst ((zs.map fun z => V.ref z.1).take i ++ [.ref t] ++ (zs.map fun z => V.ref z.1).drop i)) := upd_same
    generalize upd J5 M (.lst ((zs.map fun z => V.ref z.1).take i ++ [.ref t] ++ (zs.map fun z => V.ref z.1).drop i)) = J6 at s16 et eM
    obtain ⟨zs2, ezs2⟩ : ∃ zs2, zs2 = zs.take i ++ [(t, w0)] ++ zs.drop i := ⟨_, rfl⟩
    have hzM : RwZ J6 M zs2 := by
      refine ⟨by rw [eM, ezs2, List.map_append, List.map_append, List.map_take, List.map_drop]; rfl, fun z hz => ?_⟩
      rw [ezs2] at hz
      rcases List.mem_append.mp hz with h | h
      · rcases List.mem_append.mp h with h | h
        · exact (hzJ.mono s16).at_ z (List.mem_of_mem_take h)
        · rw [List.mem_singleton.mp h]
          exact et
      · exact (hzJ.mono s16).at_ z (List.mem_of_mem_drop h)
    have rtM : ∀ z ∈ zs2, RowT z.2 := fun z hz => by
      rw [ezs2] at hz
      rcases List.mem_append.mp hz with h | h
      · rcases List.mem_append.mp h with h | h
        · exact rt z (List.mem_of_mem_take h)
        · rw [List.mem_singleton.mp h]
          exact rt0
      · exact rt z (List.mem_of_mem_drop h)
    have lzM : zs2.length ≤ 51 := by
      rw [ezs2, List.length_append, List.length_append, List.length_take, List.length_drop, List.length_singleton]
      omega
    have eG16 := s16 _ _ eG10
    have eF16 := s16 _ _ eF10
    have b16 := b10.trans s16
    have GM : G ≠ M := ne_of_none (s15 _ _ eG10) nM
    clear s11 s12 s13 s14 s15 eC1 eA2 eB1 eA1 hzJ et
    dsimp only [List.set]
    walk_at "go"
    refine ⟨.inl ⟨rfl, _, SqL.of eG16⟩, ?_⟩
    walk_at "go"
    refine ⟨log_small (by omega), ?_⟩
    refine ⟨_, _, rfl, rfl, by rw [l2', enm, S_len]; exact szl (by omega), ?_⟩
    rw [ec]
    walk_at "go"
    refine ⟨G, _, (i : Int), _, rfl, rfl, eG16, by rw [List.length_map]; exact szlt (by omega), by omega, by omega, ?_⟩
    obtain ⟨ws2, ews2⟩ : ∃ ws2, ws2 = ws.take i ++ [w0] ++ ws.drop i := ⟨_, rfl⟩
    have eW : (ws.map fun w => V.str (S w.2)).take ((i : Int)).toNat ++ [V.str (S (kyL k ++ TL.numL c))] ++ (ws.map fun w => V.str (S w.2)).drop ((i : Int)).toNat = ws2.map fun w => V.str (S w.2) := by
      rw [ews2, List.map_append, List.map_append, List.map_take, List.map_drop, Int.toNat_natCast, ew0]
      rfl
    rw [eW]
    have wrt2 : ∀ w ∈ ws2, RowT w := fun w hw => by
      rw [ews2] at hw
      rcases List.mem_append.mp hw with h | h
      · rcases List.mem_append.mp h with h | h
        · exact wrt w (List.mem_of_mem_take h)
        · rw [List.mem_singleton.mp h]
          exact rt0
      · exact wrt w (List.mem_of_mem_drop h)
    have lws2 : ws2.length ≤ 51 := by
      rw [ews2, List.length_append, List.length_append, List.length_take, List.length_drop, List.length_singleton]
      omega
    have ers2 : ws2.map (·.1) = rowsOf zs2 := by
      rw [ews2, ezs2, ews]
      unfold rowsOf
      simp only [List.map_append, List.map_take, List.map_drop, List.map_map]
      rfl
    have s17 : Same H7 (upd J6 G (.lst (ws2.map fun w => V.str (S w.2)))) := Z.Same.mut b16 nG
    have hzM17 : RwZ (upd J6 G (.lst (ws2.map fun w => V.str (S w.2)))) M zs2 := hzM.sb (fun b o n e => by rw [upd_ne n]; exact e) eG16 GM.symm
    have eF17 : (upd J6 G (.lst (ws2.map fun w => V.str (S w.2)))) F1 = some (.dK (tab ky js (sm (rowsOf zs)))) := by rw [upd_ne GF.symm]; exact eF16
    have eG17 : (upd J6 G (.lst (ws2.map fun w => V.str (S w.2)))) G = some (.lst (ws2.map fun w => V.str (S w.2))) := upd_same
    generalize upd J6 G (.lst (ws2.map fun w => V.str (S w.2))) = J7 at s17 hzM17 eF17 eG17
    have ljs : js.length ≤ 36 := by rw [← ejs, List.length_map]; exact les
    clear hzM eF16 eG16 b16 s16 eG10 eF10 b10
    walk_at "go"
    refine ⟨F1, L2, js, _, es, rfl, eF17, en.mono s17, ejs, by omega, fun H18 s18 => ?_⟩
    walk_at "go"
    refine ⟨true, G, ws2, rfl, SqL.of (s18 _ _ eG17), wrt2, by omega, fun F2 js2 H19 s19 asc2 mem2 nF2 eF2 => ?_⟩
    rw [ers2] at mem2 eF2
    have s1819 := s18.trans s19
    walk_at "go"
    refine ⟨M, zs2, rfl, hzM17.mono s1819, by omega, fun L3 es2 H20 s20 en2 ees2 => ?_⟩
    have ejs2 := js_eq rtM asc2 mem2 ees2
    have les2 : es2.length ≤ 36 := by
      have h1 := congrArg List.length ees2
      rw [List.length_map] at h1
      rw [h1]
      exact Nat.le_trans (List.length_filter_le ..) (by rw [List.length_range]; exact Nat.le_refl _)
    walk_at "go"
    refine ⟨F2, L3, js2, _, es2, rfl, s20 _ _ eF2, en2, ejs2, by omega, fun H21 s21 => ?_⟩
    have t21 := s1819.trans (s20.trans s21)
    have s021 := s17.trans t21
    have hzM21 := hzM17.mono t21
    have eF21 := t21 _ _ eF17
    have eG21 := t21 _ _ eG17
    clear hzM17 eF17 eG17 s17 s18 s19 s20 s21 s1819 t21 en2 eF2
    dsimp only [List.set]
    walk_at "go"
    refine ⟨F1, _, rfl, DPut.k (k := Sum.inr (ky k)) eF21 (by rw [tab_len]; exact szlt (by omega)), ?_⟩
    generalize (fun i j : Int => V.int (i + j)) (10 ^ Int.toNat 9) 7 = vv
    have b22 : Same H7 (upd H21 F1 (.dK (putK (tab ky js (sm (rowsOf zs))) (Sum.inr (ky k)) vv))) := Z.Same.mut s021 nF7
    have hzM22 := hzM21.updD (o := .dK (putK (tab ky js (sm (rowsOf zs))) (Sum.inr (ky k)) vv)) eF21
    have eG22 : (upd H21 F1 (.dK (putK (tab ky js (sm (rowsOf zs))) (Sum.inr (ky k)) vv))) G = some (.lst (ws2.map fun w => V.str (S w.2))) := by rw [upd_ne GF]; exact eG21
    generalize upd H21 F1 (.dK (putK (tab ky js (sm (rowsOf zs))) (Sum.inr (ky k)) vv)) = J22 at b22 hzM22 eG22
    clear hzM21 eF21 eG21 s021 nF7 nF
    walk_at "go"
    refine ⟨T, _, rfl, .inl ⟨SqL.of (b22 _ _ eT7), fun tt ntt => ?_⟩⟩
    have s23 := same_new (o := .tup (ws.map fun w => V.str (S w.2))) ntt
    have ett : (upd J22 tt (.tup (ws.map fun w => V.str (S w.2)))) tt = some (.tup (ws.map fun w => V.str (S w.2))) := upd_same
    generalize upd J22 tt (.tup (ws.map fun w => V.str (S w.2))) = J23 at s23 ett
    walk_at "go"
    refine ⟨false, tt, ws, rfl, SqT.of ett, wrt, by omega, fun F3 js3 H24 s24 asc3 mem3 nF3 eF3 => ?_⟩
    rw [ers] at mem3 eF3
    have s2324 := s23.trans s24
    walk_at "go"
    refine ⟨F3, L2, js3, _, es, rfl, eF3, (en.mono b22).mono s2324, js_eq rt asc3 mem3 ees, by omega, fun H25 s25 => ?_⟩
    have t25 := s2324.trans s25
    walk_at "go"
    refine ⟨T, _, rfl, .inl (SqL.of (t25 _ _ (b22 _ _ eT7))), fun G2 nG2 => ?_⟩
    have s26 := same_new (o := .lst (ws.map fun w => V.str (S w.2))) nG2
    have eG2 : (upd H25 G2 (.lst (ws.map fun w => V.str (S w.2)))) G2 = some (.lst (ws.map fun w => V.str (S w.2))) := upd_same
    generalize upd H25 G2 (.lst (ws.map fun w => V.str (S w.2))) = J26 at s26 eG2
    have t26 := t25.trans s26
    walk_at "go"
    refine ⟨true, G2, ws, rfl, SqL.of eG2, wrt, by omega, fun F4 js4 H27 s27 asc4 mem4 nF4 eF4 => ?_⟩
    rw [ers] at mem4 eF4
    have t27 := t26.trans s27
    walk_at "go"
    refine ⟨F4, L2, js4, _, es, rfl, eF4, (en.mono b22).mono t27, js_eq rt asc4 mem4 ees, by omega, fun H28 s28 => ?_⟩
    have t28 := t27.trans s28
    clear s23 ett s24 eF3 s2324 s25 t25 s26 eG2 t26 s27 eF4 t27 s28
    walk_at "go"
    intro Em nEm
    generalize eH_ : upd H28 Em _ = J29
    have s29 : Same H28 J29 := by rw [← eH_]; exact same_new nEm
    have eEm : J29 Em = some (.dK []) := by rw [← eH_]; exact upd_same
    clear eH_
    walk_at "go"
    refine ⟨Em, [], fun _ => 0, rfl, eEm, fun k h => absurd h (by simp), by decide, fun t5 H30 s30 et5 => ?_⟩
    walk_at "go"
    intro l5 nl5
    generalize eH_ : upd H30 l5 _ = J31
    have s31 : Same H30 J31 := by rw [← eH_]; exact same_new nl5
    have el5 : J31 l5 = some (.lst [.int 0, .int 0, .int 0, .int 0, .int 0, .int 0]) := by rw [← eH_]; exact upd_same
    clear eH_
    walk_at "go"
    refine ⟨t5, l5, [0, 0, 0, 0, 0, 0], rfl, s31 _ _ et5, SqL.of el5, by decide, ?_⟩
    have t31 := t28.trans (s29.trans (s30.trans s31))
    have b31 := b22.trans t31
    have eG31 := t31 _ _ eG22
    have hzM31 := hzM22.mono t31
    clear t28 s29 s30 s31 et5 el5 eEm b22 eG22 hzM22 t31
    walk_at "go"
    refine ⟨L, zs, rfl, hz7.mono b31, rt, by omega, fun H32 s32 => ?_⟩
    walk_at "go"
    refine ⟨M, zs2, rfl, hzM31.mono s32, rtM, by omega, fun H33 s33 => ?_⟩
    have t33 := s32.trans s33
    have eG33 := t33 _ _ eG31
    have hzM33 := hzM31.mono t33
    clear s32 s33 t33 eG31 hzM31
    walk_at "go"
    refine ⟨true, G, ws2, rfl, SqL.of eG33, wrt2, by omega, fun F6 js6 H34 s34 asc6 mem6 nF6 eF6 => ?_⟩
    rw [ers2] at mem6 eF6
    have ejs6 := js_eq rtM asc6 mem6 ees2
    have l6 : js6.length ≤ 36 := by rw [← ejs6, List.length_map]; exact les2
    obtain ⟨on1, on2⟩ := owed_net rtM asc6 mem6
    walk_at "go"
    refine ⟨F6, js6, sm (rowsOf zs2), rfl, eF6, on1, by omega, fun t7 H35 s35 et7 => ?_⟩
    rw [on2, nt_tup] at et7
    have hzM35 := hzM33.mono (s34.trans s35)
    walk_at "go"
    refine ⟨M, _, rfl, hzM35.r2, by rw [List.length_map]; omega, fun L8 H36 s36 e36 => ?_⟩
    have er : (zs2.map fun z => (z.1, z.2.1)).map (·.2) = rowsOf zs2 := by
      rw [List.map_map]
      rfl
    rw [er] at e36
    have l62 : (ntL (rowsOf zs2)).length = 6 := by
      unfold ntL
      rw [List.length_map, List.length_range]
    walk_at "go"
    refine ⟨t7, L8, ntL (rowsOf zs2), rfl, s36 _ _ et7, SqL.of e36, by omega, ?_⟩
    clear eG33 hzM33 s34 eF6 s35 et7 hzM35 s36 e36
    walk_at "go"
    intro e0 ne0
    generalize eH_ : upd H36 e0 _ = J37
    have s37 : Same H36 J37 := by rw [← eH_]; exact same_new ne0
    have ee0 : J37 e0 = some (.lst []) := by rw [← eH_]; exact upd_same
    clear eH_
    walk_at "go"
    refine ⟨true, e0, [], rfl, SqL.of ee0, fun w h => absurd h (by simp), by decide, fun F8 js8 H38 s38 asc8 mem8 nF8 eF8 => ?_⟩
    have ejs8 : js8 = [] := List.eq_nil_iff_forall_not_mem.mpr fun k h => absurd ((mem8 k).mp h) (by show ¬ (0 : Int) < 0; decide)
    walk_at "go"
    intro e1 ne1
    generalize eH_ : upd H38 e1 _ = J39
    have s39 : Same H38 J39 := by rw [← eH_]; exact same_new ne1
    have ee1 : J39 e1 = some (.lst []) := by rw [← eH_]; exact upd_same
    clear eH_
    walk_at "go"
    refine ⟨F8, e1, js8, _, [], rfl, s39 _ _ eF8, ⟨ee1, fun z h => absurd h (by simp)⟩, ejs8.symm, by decide, fun H40 s40 => ?_⟩
    walk_at "go"
    exact q _
end
end Z
set_option pp.maxSteps 700
set_option Elab.async false
set_option linter.all false
set_option maxRecDepth 100000
set_option maxHeartbeats 4000000
set_option maxHeartbeats 0
namespace Z
open PySem PySem.Spec PyProof.Rows L2
def d_is_transfer : He.DefD := ⟨("is_transfer", none), "is_transfer", "is_transfer", defArgs s_is_transfer, defBody s_is_transfer, defScope s_is_transfer, [], []⟩
def d_amount_of : He.DefD := ⟨("amount_of", none), "amount_of", "amount_of", defArgs s_amount_of, defBody s_amount_of, defScope s_amount_of, [], []⟩
def d_is_party : He.DefD := ⟨("is_party", none), "is_party", "is_party", defArgs s_is_party, defBody s_is_party, defScope s_is_party, [], []⟩
def d_is_pair : He.DefD := ⟨("is_pair", none), "is_pair", "is_pair", defArgs s_is_pair, defBody s_is_pair, defScope s_is_pair, [], []⟩
def d_check_debts : He.DefD := ⟨("check_debts", none), "check_debts", "check_debts", defArgs s_check_debts, defBody s_check_debts, defScope s_check_debts, [], []⟩
def d_tidy : He.DefD := ⟨("tidy", none), "tidy", "tidy", defArgs s_tidy, defBody s_tidy, defScope s_tidy, [], []⟩
def d_owed : He.DefD := ⟨("owed", none), "owed", "owed", defArgs s_owed, defBody s_owed, defScope s_owed, [], []⟩
def d_net : He.DefD := ⟨("net", none), "net", "net", defArgs s_net, defBody s_net, defScope s_net, [], []⟩
def d_cell : He.DefD := ⟨("_law_cell", none), "_law_cell", "_law_cell", defArgs s_cell, defBody s_cell, defScope s_cell, [], []⟩
def d_draws : He.DefD := ⟨("_law_draws", none), "_law_draws", "_law_draws", defArgs s_draws, defBody s_draws, defScope s_draws, [], []⟩
def d_take : He.DefD := ⟨("_law_take", none), "_law_take", "_law_take", defArgs s_take, defBody s_take, defScope s_take, [], []⟩
def d_wide : He.DefD := ⟨("_law_wide", none), "_law_wide", "_law_wide", defArgs s_wide, defBody s_wide, defScope s_wide, [], []⟩
def d_coins : He.DefD := ⟨("_law_coins", none), "_law_coins", "_law_coins", defArgs s_coins, defBody s_coins, defScope s_coins, [], []⟩
def d_parties : He.DefD := ⟨("_law_parties", none), "_law_parties", "_law_parties", defArgs s_parties, defBody s_parties, defScope s_parties, [], []⟩
def d_sum : He.DefD := ⟨("_law_sum", none), "_law_sum", "_law_sum", defArgs s_sum, defBody s_sum, defScope s_sum, [], []⟩
def d_rows : He.DefD := ⟨("_law_rows", none), "_law_rows", "_law_rows", defArgs s_rows, defBody s_rows, defScope s_rows, [], []⟩
def d_sums : He.DefD := ⟨("_law_sums", none), "_law_sums", "_law_sums", defArgs s_sums, defBody s_sums, defScope s_sums, [], []⟩
def d_law_net : He.DefD := ⟨("_law_net", none), "_law_net", "_law_net", defArgs s_law_net, defBody s_law_net, defScope s_law_net, [], []⟩
def d_is_integer : He.DefD := ⟨("_law_is_integer", none), "_law_is_integer", "_law_is_integer", defArgs s_is_integer, defBody s_is_integer, defScope s_is_integer, [], []⟩
def d_same_row : He.DefD := ⟨("_law_same_row", none), "_law_same_row", "_law_same_row", defArgs s_same_row, defBody s_same_row, defScope s_same_row, [], []⟩
def d_same_debts : He.DefD := ⟨("_law_same_debts", none), "_law_same_debts", "_law_same_debts", defArgs s_same_debts, defBody s_same_debts, defScope s_same_debts, [], []⟩
def d_nets_right : He.DefD := ⟨("_law_nets_right", none), "_law_nets_right", "_law_nets_right", defArgs s_nets_right, defBody s_nets_right, defScope s_nets_right, [], []⟩
def d_law : He.DefD := ⟨("law", none), "law", "law", defArgs s_law, defBody s_law, defScope s_law, [], []⟩
def fn : List He.DefD := [d_is_transfer, d_amount_of, d_is_party, d_is_pair, d_check_debts, d_tidy, d_owed, d_net, d_cell, d_draws, d_take, d_wide, d_coins, d_parties, d_sum, d_rows, d_sums, d_law_net, d_is_integer, d_same_row, d_same_debts, d_nets_right, d_law]
def fa : List He.Fa := [.glo "is_transfer", .glo "amount_of", .glo "is_party", .glo "is_pair", .glo "check_debts", .glo "tidy", .glo "owed", .glo "net", .glo "_law_cell", .glo "_law_draws", .glo "_law_take", .glo "_law_wide", .glo "_law_coins", .glo "_law_parties", .glo "_law_sum", .glo "_law_rows", .glo "_law_sums", .glo "_law_net", .glo "_law_is_integer", .glo "_law_same_row", .glo "_law_same_debts", .glo "_law_nets_right", .glo "law", .free "abs", .free "bool", .free "dict", .free "int", .free "isinstance", .free "len", .free "list", .free "range", .free "sorted", .free "str", .free "sum", .free "tuple", .str "PARTIES" "abcdef"]
def loose : List Str := [("HouseError" : Str), ("BadAmount" : Str), ("BadPair" : Str), ("is_transfer" : Str), ("amount_of" : Str), ("PARTIES" : Str), ("is_party" : Str), ("is_pair" : Str), ("check_debts" : Str), ("tidy" : Str), ("owed" : Str), ("net" : Str), ("_law_cell" : Str), ("_law_draws" : Str), ("_law_take" : Str), ("_law_wide" : Str), ("_law_coins" : Str), ("_law_parties" : Str), ("_law_sum" : Str), ("_law_rows" : Str), ("_law_sums" : Str), ("_law_net" : Str), ("_law_is_integer" : Str), ("_law_same_debts" : Str), ("_law_same_row" : Str), ("_law_nets_right" : Str)]
abbrev R : PySem.W.OpenRow := PySem.W.OpenLaw.row PySem.Challenge.rw_signedpacts_k69_owed_and_net
abbrev hk : PySem.W.Hook := He.hookD 4 fa fn
def ob (s : PySem.W.SharedT) : He.AlD := He.obsDG 4 fa fn (HandSHeadRun.getT s)
theorem ob_eq (s : PySem.W.SharedT) : ob s = hk.obs s.abs := He.obsDG_eq (HandSHeadRun.getT_eq s)
theorem run (w : World) : HandSHeadRun.RunEq R (PySem.W.view R.prog [31]) hk ob 8000 loose w := by
  intro os
  kernel_rfl
theorem facts {P : Program} {w : World} {K : PySem.W.Frag} {h : Heap} {mg : Str → Option Value} {f : Addr} (X : K.In h) (G : h.Ns mainGlobals mg) (hfa : mg ("law" : Str) = some (.ref f)) (c : He.SaysD fa fn K) :
    ∃ fd : FuncData, (∀ (s : Shared) (v : Value), BindsTo s fd ⟨[v], []⟩ [("_law_script", v)]) ∧ ∀ base : Heap, K.In base → base.Ns mainGlobals mg → FnOk P w K mg base CX0 6 f fd ["_law_script"] (spLaw K) := by
  obtain ⟨fd_is_transfer, F_is_transfer⟩ := c.def_ 0 (d := d_is_transfer) rfl
  have F_is_transfer : FnP K "is_transfer" s_is_transfer _ fd_is_transfer := F_is_transfer
  have g_is_transfer := He.glo_ok X G (c.fact 0 (f := .glo "is_transfer") rfl)
  have b_is_transfer : Binds K fd_is_transfer P_is_transfer [] := F_is_transfer.bindsN fun _ _ _ _ _ _ us hl => match us, hl with | [_], _ => rfl
  obtain ⟨fd_amount_of, F_amount_of⟩ := c.def_ 1 (d := d_amount_of) rfl
  have F_amount_of : FnP K "amount_of" s_amount_of _ fd_amount_of := F_amount_of
  have g_amount_of := He.glo_ok X G (c.fact 1 (f := .glo "amount_of") rfl)
  have b_amount_of : Binds K fd_amount_of P_amount_of [] := F_amount_of.bindsN fun _ _ _ _ _ _ us hl => match us, hl with | [_], _ => rfl
  obtain ⟨fd_is_party, F_is_party⟩ := c.def_ 2 (d := d_is_party) rfl
  have F_is_party : FnP K "is_party" s_is_party _ fd_is_party := F_is_party
  have g_is_party := He.glo_ok X G (c.fact 2 (f := .glo "is_party") rfl)
  have b_is_party : Binds K fd_is_party P_is_party [] := F_is_party.bindsN fun _ _ _ _ _ _ us hl => match us, hl with | [_], _ => rfl
  obtain ⟨fd_is_pair, F_is_pair⟩ := c.def_ 3 (d := d_is_pair) rfl
  have F_is_pair : FnP K "is_pair" s_is_pair _ fd_is_pair := F_is_pair
  have g_is_pair := He.glo_ok X G (c.fact 3 (f := .glo "is_pair") rfl)
  have b_is_pair : Binds K fd_is_pair P_is_pair [] := F_is_pair.bindsN fun _ _ _ _ _ _ us hl => match us, hl with | [_], _ => rfl
  obtain ⟨fd_check_debts, F_check_debts⟩ := c.def_ 4 (d := d_check_debts) rfl
  have F_check_debts : FnP K "check_debts" s_check_debts _ fd_check_debts := F_check_debts
  have g_check_debts := He.glo_ok X G (c.fact 4 (f := .glo "check_debts") rfl)
  have b_check_debts : Binds K fd_check_debts P_check_debts [] := F_check_debts.bindsN fun _ _ _ _ _ _ us hl => match us, hl with | [_], _ => rfl
  obtain ⟨fd_tidy, F_tidy⟩ := c.def_ 5 (d := d_tidy) rfl
  have F_tidy : FnP K "tidy" s_tidy _ fd_tidy := F_tidy
  have g_tidy := He.glo_ok X G (c.fact 5 (f := .glo "tidy") rfl)
  have b_tidy : Binds K fd_tidy P_tidy [] := F_tidy.bindsN fun _ _ _ _ _ _ us hl => match us, hl with | [_], _ => rfl
  obtain ⟨fd_owed, F_owed⟩ := c.def_ 6 (d := d_owed) rfl
  have F_owed : FnP K "owed" s_owed _ fd_owed := F_owed
  have g_owed := He.glo_ok X G (c.fact 6 (f := .glo "owed") rfl)
  have b_owed : Binds K fd_owed P_owed [] := F_owed.bindsN fun _ _ _ _ _ _ us hl => match us, hl with | [_], _ => rfl
  obtain ⟨fd_net, F_net⟩ := c.def_ 7 (d := d_net) rfl
  have F_net : FnP K "net" s_net _ fd_net := F_net
  have g_net := He.glo_ok X G (c.fact 7 (f := .glo "net") rfl)
  have b_net : Binds K fd_net P_net [] := F_net.bindsN fun _ _ _ _ _ _ us hl => match us, hl with | [_], _ => rfl
  obtain ⟨fd_cell, F_cell⟩ := c.def_ 8 (d := d_cell) rfl
  have F_cell : FnP K "_law_cell" s_cell _ fd_cell := F_cell
  have g_cell := He.glo_ok X G (c.fact 8 (f := .glo "_law_cell") rfl)
  have b_cell : Binds K fd_cell P_cell [] := F_cell.bindsN fun _ _ _ _ _ _ us hl => match us, hl with | [_, _], _ => rfl
  obtain ⟨fd_draws, F_draws⟩ := c.def_ 9 (d := d_draws) rfl
  have F_draws : FnP K "_law_draws" s_draws _ fd_draws := F_draws
  have g_draws := He.glo_ok X G (c.fact 9 (f := .glo "_law_draws") rfl)
  have b_draws : Binds K fd_draws P_draws [] := F_draws.bindsN fun _ _ _ _ _ _ us hl => match us, hl with | [_, _], _ => rfl
  obtain ⟨fd_take, F_take⟩ := c.def_ 10 (d := d_take) rfl
  have F_take : FnP K "_law_take" s_take _ fd_take := F_take
  have g_take := He.glo_ok X G (c.fact 10 (f := .glo "_law_take") rfl)
  have b_take : Binds K fd_take P_take [] := F_take.bindsN fun _ _ _ _ _ _ us hl => match us, hl with | [_, _], _ => rfl
  obtain ⟨fd_wide, F_wide⟩ := c.def_ 11 (d := d_wide) rfl
  have F_wide : FnP K "_law_wide" s_wide _ fd_wide := F_wide
  have g_wide := He.glo_ok X G (c.fact 11 (f := .glo "_law_wide") rfl)
  have b_wide : Binds K fd_wide P_wide [] := F_wide.bindsN fun _ _ _ _ _ _ us hl => match us, hl with | [_, _], _ => rfl
  obtain ⟨fd_coins, F_coins⟩ := c.def_ 12 (d := d_coins) rfl
  have F_coins : FnP K "_law_coins" s_coins _ fd_coins := F_coins
  have g_coins := He.glo_ok X G (c.fact 12 (f := .glo "_law_coins") rfl)
  have b_coins : Binds K fd_coins P_coins [] := F_coins.bindsN fun _ _ _ _ _ _ us hl => match us, hl with | [_, _, _], _ => rfl
  obtain ⟨fd_parties, F_parties⟩ := c.def_ 13 (d := d_parties) rfl
  have F_parties : FnP K "_law_parties" s_parties _ fd_parties := F_parties
  have g_parties := He.glo_ok X G (c.fact 13 (f := .glo "_law_parties") rfl)
  have b_parties : Binds K fd_parties P_parties [] := F_parties.bindsN fun _ _ _ _ _ _ us hl => match us, hl with | [_, _], _ => rfl
  obtain ⟨fd_sum, F_sum⟩ := c.def_ 14 (d := d_sum) rfl
  have F_sum : FnP K "_law_sum" s_sum _ fd_sum := F_sum
  have g_sum := He.glo_ok X G (c.fact 14 (f := .glo "_law_sum") rfl)
  have b_sum : Binds K fd_sum P_sum [] := F_sum.bindsN fun _ _ _ _ _ _ us hl => match us, hl with | [_, _], _ => rfl
  obtain ⟨fd_rows, F_rows⟩ := c.def_ 15 (d := d_rows) rfl
  have F_rows : FnP K "_law_rows" s_rows _ fd_rows := F_rows
  have g_rows := He.glo_ok X G (c.fact 15 (f := .glo "_law_rows") rfl)
  have b_rows : Binds K fd_rows P_rows [] := F_rows.bindsN fun _ _ _ _ _ _ us hl => match us, hl with | [_, _, _, _], _ => rfl
  obtain ⟨fd_sums, F_sums⟩ := c.def_ 16 (d := d_sums) rfl
  have F_sums : FnP K "_law_sums" s_sums _ fd_sums := F_sums
  have g_sums := He.glo_ok X G (c.fact 16 (f := .glo "_law_sums") rfl)
  have b_sums : Binds K fd_sums P_sums [] := F_sums.bindsN fun _ _ _ _ _ _ us hl => match us, hl with | [_], _ => rfl
  obtain ⟨fd_law_net, F_law_net⟩ := c.def_ 17 (d := d_law_net) rfl
  have F_law_net : FnP K "_law_net" s_law_net _ fd_law_net := F_law_net
  have g_law_net := He.glo_ok X G (c.fact 17 (f := .glo "_law_net") rfl)
  have b_law_net : Binds K fd_law_net P_law_net [] := F_law_net.bindsN fun _ _ _ _ _ _ us hl => match us, hl with | [_], _ => rfl
  obtain ⟨fd_is_integer, F_is_integer⟩ := c.def_ 18 (d := d_is_integer) rfl
  have F_is_integer : FnP K "_law_is_integer" s_is_integer _ fd_is_integer := F_is_integer
  have g_is_integer := He.glo_ok X G (c.fact 18 (f := .glo "_law_is_integer") rfl)
  have b_is_integer : Binds K fd_is_integer P_is_integer [] := F_is_integer.bindsN fun _ _ _ _ _ _ us hl => match us, hl with | [_], _ => rfl
  obtain ⟨fd_same_row, F_same_row⟩ := c.def_ 19 (d := d_same_row) rfl
  have F_same_row : FnP K "_law_same_row" s_same_row _ fd_same_row := F_same_row
  have g_same_row := He.glo_ok X G (c.fact 19 (f := .glo "_law_same_row") rfl)
  have b_same_row : Binds K fd_same_row P_same_row [] := F_same_row.bindsN fun _ _ _ _ _ _ us hl => match us, hl with | [_, _], _ => rfl
  obtain ⟨fd_same_debts, F_same_debts⟩ := c.def_ 20 (d := d_same_debts) rfl
  have F_same_debts : FnP K "_law_same_debts" s_same_debts _ fd_same_debts := F_same_debts
  have g_same_debts := He.glo_ok X G (c.fact 20 (f := .glo "_law_same_debts") rfl)
  have b_same_debts : Binds K fd_same_debts P_same_debts [] := F_same_debts.bindsN fun _ _ _ _ _ _ us hl => match us, hl with | [_, _], _ => rfl
  obtain ⟨fd_nets_right, F_nets_right⟩ := c.def_ 21 (d := d_nets_right) rfl
  have F_nets_right : FnP K "_law_nets_right" s_nets_right _ fd_nets_right := F_nets_right
  have g_nets_right := He.glo_ok X G (c.fact 21 (f := .glo "_law_nets_right") rfl)
  have b_nets_right : Binds K fd_nets_right P_nets_right [] := F_nets_right.bindsN fun _ _ _ _ _ _ us hl => match us, hl with | [_], _ => rfl
  obtain ⟨fd_law, F_law⟩ := c.def_ 22 (d := d_law) rfl
  have F_law : FnP K "law" s_law _ fd_law := F_law
  have g_law := He.glo_ok X G (c.fact 22 (f := .glo "law") rfl)
  have m_abs := He.free_ok X G (c.fact 23 (f := .free "abs") rfl)
  have m_bool := He.free_ok X G (c.fact 24 (f := .free "bool") rfl)
  have m_dict := He.free_ok X G (c.fact 25 (f := .free "dict") rfl)
  have m_int := He.free_ok X G (c.fact 26 (f := .free "int") rfl)
  have m_isinstance := He.free_ok X G (c.fact 27 (f := .free "isinstance") rfl)
  have m_len := He.free_ok X G (c.fact 28 (f := .free "len") rfl)
  have m_list := He.free_ok X G (c.fact 29 (f := .free "list") rfl)
  have m_range := He.free_ok X G (c.fact 30 (f := .free "range") rfl)
  have m_sorted := He.free_ok X G (c.fact 31 (f := .free "sorted") rfl)
  have m_str := He.free_ok X G (c.fact 32 (f := .free "str") rfl)
  have m_sum := He.free_ok X G (c.fact 33 (f := .free "sum") rfl)
  have m_tuple := He.free_ok X G (c.fact 34 (f := .free "tuple") rfl)
  have g0_PARTIES := He.str_ok X G (c.fact 35 (f := .str "PARTIES" "abcdef") rfl)
  obtain ⟨tok_PARTIES, g_PARTIES⟩ := g0_PARTIES
  have e := hfa.symm.trans g_law
  cases e
  have b := FunD.bindsA (ps := ["_law_script"]) F_law fun _ _ _ _ _ _ us hl => match us, hl with | [_], _ => rfl
  refine ⟨fd_law, fun s v => b s [v] rfl, fun base _ _ => ?_⟩
  have c_cell : Cal P w K mg base 1 "_law_cell" (spCell K) := cal_of F_cell g_cell b_cell (ok_cell F_cell m_len m_int)
  have c_draws : Cal P w K mg base 1 "_law_draws" spDraws := cal_of F_draws g_draws b_draws (ok_draws F_draws m_int m_abs m_range)
  have c_take : Cal P w K mg base 1 "_law_take" (spTake K) := cal_of F_take g_take b_take (ok_take F_take m_len)
  have c_is_transfer : Cal P w K mg base 1 "is_transfer" spIsTr := cal_of F_is_transfer g_is_transfer b_is_transfer (ok_is_transfer F_is_transfer m_len)
  have c_amount_of : Cal P w K mg base 1 "amount_of" spAmt := cal_of F_amount_of g_amount_of b_amount_of (ok_amount_of F_amount_of m_int)
  have c_is_party : Cal P w K mg base 1 "is_party" spParty := cal_of F_is_party g_is_party b_is_party (ok_is_party F_is_party m_len tok_PARTIES g_PARTIES)
  have c_is_pair : Cal P w K mg base 2 "is_pair" spPair := cal_of F_is_pair g_is_pair b_is_pair (ok_is_pair F_is_pair m_len c_is_party)
  have c_check_debts : Cal P w K mg base 3 "check_debts" spCheck := cal_of F_check_debts g_check_debts b_check_debts (ok_check_debts F_check_debts m_list c_is_pair)
  have c_tidy : Cal P w K mg base 1 "tidy" spTidy := cal_of F_tidy g_tidy b_tidy (ok_tidy F_tidy m_list m_sorted)
  have c_owed : Cal P w K mg base 2 "owed" (spOwed K) := cal_of F_owed g_owed b_owed (ok_owed F_owed c_is_transfer c_amount_of c_tidy)
  have c_net : Cal P w K mg base 4 "net" spNet := cal_of F_net g_net b_net (ok_net F_net m_tuple tok_PARTIES g_PARTIES c_check_debts)
  have c_wide : Cal P w K mg base 2 "_law_wide" (spWide K) := cal_of F_wide g_wide b_wide (ok_wide F_wide m_range c_take)
  have c_coins : Cal P w K mg base 3 "_law_coins" (spCoins K) := cal_of F_coins g_coins b_coins (ok_coins F_coins m_int c_take c_wide)
  have c_parties : Cal P w K mg base 2 "_law_parties" (spParties K) := cal_of F_parties g_parties b_parties (ok_parties F_parties m_int m_len m_range c_take)
  have c_sum : Cal P w K mg base 1 "_law_sum" (spSum K) := cal_of F_sum g_sum b_sum (ok_sum F_sum m_sum)
  have c_rows : Cal P w K mg base 4 "_law_rows" (spRows K) := cal_of F_rows g_rows b_rows (ok_rows F_rows m_len m_int m_range m_str c_take c_coins c_sum)
  have c_sums : Cal P w K mg base 2 "_law_sums" (spSums K) := cal_of F_sums g_sums b_sums (ok_sums F_sums c_sum)
  have c_law_net : Cal P w K mg base 1 "_law_net" (spLNet K) := cal_of F_law_net g_law_net b_law_net (ok_law_net F_law_net m_sum)
  have c_is_integer : Cal P w K mg base 1 "_law_is_integer" spInt := cal_of F_is_integer g_is_integer b_is_integer (ok_is_integer F_is_integer m_isinstance m_int m_bool)
  have c_same_row : Cal P w K mg base 2 "_law_same_row" (spSameRow K) := cal_of F_same_row g_same_row b_same_row (ok_same_row F_same_row m_isinstance m_tuple m_len m_range c_is_integer)
  have c_same_debts : Cal P w K mg base 2 "_law_same_debts" (spSameD K) := cal_of F_same_debts g_same_debts b_same_debts (ok_same_debts F_same_debts m_isinstance m_dict m_str m_list m_len m_range c_is_integer)
  have c_nets_right : Cal P w K mg base 5 "_law_nets_right" (spNetsR K) := cal_of F_nets_right g_nets_right b_nets_right (ok_nets_right F_nets_right m_list m_len m_range c_sum c_law_net c_net c_same_row c_sums)
  exact ok_law F_law m_int m_list m_tuple m_len m_str c_cell c_draws c_take c_parties c_rows c_sums c_owed c_net c_same_debts c_same_row c_nets_right c_law_net
end Z
open PySem PySem.W PySem.Calls PyProof.Rows
theorem PySem.Challenge.cw_signedpacts_k69_owed_and_net_holds : PySem.Challenge.rw_signedpacts_k69_owed_and_net.Holds := by
  w_on; o_law
  refine HandSHeadRun.head_any (r := OpenLaw.row PySem.Challenge.rw_signedpacts_k69_owed_and_net) (q := view (OpenLaw.row PySem.Challenge.rw_signedpacts_k69_owed_and_net).prog [31]) (H := Z.hk) (ob := Z.ob) (M := 8000) (loose := Z.loose) (d := HandSHeadRun.topDef (OpenLaw.row PySem.Challenge.rw_signedpacts_k69_owed_and_net).prog 31) (kwd := []) Z.ob_eq
    (by kernel_rfl) (fun s => by kernel_rfl) Z.run (by kernel_rfl) (by kernel_rfl) (by kernel_rfl) (by rfl) (by first | assumption | decide +kernel) (by decide +kernel) ⟨rfl, rfl, rfl, rfl, rfl, by decide +kernel⟩ ?hw ?hc
  case hw => w_witness2
  case hc =>
    refine L2.walk_ofE (l := PySem.Challenge.rw_signedpacts_k69_owed_and_net) (n := 63) (k := 6) (x := "_law_script") (CX := L2.CX0) rfl (by decide) (by kernel_rfl) ⟨rfl, by decide, by decide⟩ ?F (fun _ _ _ _ z => z)
    intro w mg fa h Y G hmg0
    obtain ⟨K, KX, c⟩ := Y
    have hmg : mg ("law" : PySem.Str) = some (.ref fa) := by
      have e : (HandSHeadRun.topDef (OpenLaw.row PySem.Challenge.rw_signedpacts_k69_owed_and_net).prog 31).name = ("law" : PySem.Str) := by kernel_rfl
      rw [← e]
      exact hmg0
    obtain ⟨fd, hb, hF⟩ := Z.facts (P := (PySem.Challenge.rw_signedpacts_k69_owed_and_net).prog) (w := w) KX G hmg c
    exact ⟨K, fd, Z.spLaw K, KX, hb, fun H a ns hl _ hS => ⟨a, ns, rfl, hS, hl, fun _ => rfl⟩, hF⟩
