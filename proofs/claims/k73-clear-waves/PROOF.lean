import PyProof.Rows.All
import Wide.All
import OpenK.AllK
import Wide.FinOn
import HandS.ForMost
import HandS.Zip
import HandS.TupMul
import HandS.Codes
import KE.GoesMore
import KE.GoesEnum
import HandS.Defaults
import HandS.IsInst
import HandS.Wide
import HandS.WideBits
import HandS.NoneIn
import HandS.OwnEq
import HandS.Star
import HandS.SetTxtIn
import HandS.DictComp
import HandS.Comp
import KE.GoesZip
import HandS.Dict
import HandS.Iter
import KE.KDictList
import HandS.Sort
import HandS.ListItems
import HandS.Conv
import HandS.List
import HandS.TupAny
import HandS.Head0
import HandS.Head1
import HandS.Head2
import HandS.HeadEnd
import HandS.HeadHook1
import HandS.HeadHook2
import PySem.Challenge.RW_signedpacts_k73_clear_waves
set_option Elab.async false
set_option linter.all false
set_option maxRecDepth 100000
set_option maxHeartbeats 4000000
namespace Z
open PySem PySem.Spec PyProof.Rows L2
/-! ### zip over two sequences, each a list (true) or a tuple (false) -/
def SqK (b : Bool) (K : PySem.W.Frag) (H : Hp) (a : Addr) (xs : List V) : Prop := match b with
  | true => SqL K H a xs
  | false => SqT K H a xs
def ItK (b : Bool) (h : Heap) (it l : Addr) (i : Nat) : Prop := match b with
  | true => h.IsListIter it l i
  | false => h.IsTupleIter it l i
def IsK (b : Bool) (h : Heap) (l : Addr) (xs : Array Value) : Prop := match b with
  | true => h.IsList l xs
  | false => h.IsTuple l xs
theorem ItK.at' {b : Bool} {h h' : Heap} {it l : Addr} {i : Nat} (x : ItK b h it l i) (k : ∀ o, h.get? it = some o → h'.get? it = some o) : ItK b h' it l i := by
  cases b
  · exact Heap.IsTupleIter.at x k
  · exact Heap.IsListIter.at x k
theorem ItK.obj {b : Bool} {h : Heap} {it l : Addr} {i : Nat} (x : ItK b h it l i) : ∃ o, h.get? it = some o ∧ ∀ v, o.data ≠ .cell v := by
  cases b
  · obtain ⟨o, e, _, d⟩ := (show h.IsTupleIter it l i from x)
    exact ⟨o, e, fun v q => by rw [d] at q; cases q⟩
  · obtain ⟨o, e, _, d⟩ := (show h.IsListIter it l i from x)
    exact ⟨o, e, fun v q => by rw [d] at q; cases q⟩
theorem sqk_is {X : Cx} {pins : List (Addr × Obj)} {σ : L2.St} {H : Hp} {s : Shared} {b : Bool} {a : Addr} {xs : List V} (I : Inv X pins σ H s) (h : SqK b X.K H a xs) :
    ∃ its : List Value, Vals xs its ∧ IsK b s.heap a its.toArray ∧ a < s.heap.objs.size := by
  cases b
  · obtain ⟨its, r, p, _⟩ := I.tuple h
    obtain ⟨o, ho, _⟩ := id p
    exact ⟨its, r, p, Heap.lt_size ho⟩
  · obtain ⟨its, r, p, _⟩ := I.list h
    exact ⟨its, r, p.isList, p.lt⟩
theorem sqk_inj {X : Cx} {pins : List (Addr × Obj)} {σ : L2.St} {H : Hp} {s : Shared} {b : Bool} {a : Addr} {xs ys : List V} (I : Inv X pins σ H s) (h : SqK b X.K H a xs) (h' : SqK b X.K H a ys) : xs = ys := by
  cases b
  · exact I.tuple_inj h h'
  · exact I.list_inj h h'
theorem drawsK {prog : Program} {w : World} {A : Around} (b : Bool) (hh : A.handled = none) (it l : Addr) (hne : l ≠ it) (items : Array Value) :
    Draws prog w A it [it, l] items.size (fun i v => items[i]? = some v) (fun i h => ItK b h it l i ∧ IsK b h l items) := by
  cases b
  · exact Draws.tuple hh it l hne items
  · exact Draws.list hh it l hne items
def ItzM (p q : Bool) (K : PySem.W.Frag) (a b : Addr) : It :=
  ⟨fun i H => ∃ (xs ys : List V) (x y : V), SqK p K H a xs ∧ SqK q K H b ys ∧ xs[i]? = some x ∧ ys[i]? = some y,
   fun i H v H' => ∃ T x y, v = .ref T ∧ H T = none ∧ H' = upd H T (.tup [x, y]) ∧ (∀ xs, SqK p K H a xs → xs[i]? = some x) ∧ (∀ ys, SqK q K H b ys → ys[i]? = some y),
   fun i H => ∃ xs ys : List V, SqK p K H a xs ∧ SqK q K H b ys ∧ (xs.length ≤ i ∨ ys.length ≤ i) ∧ i ≤ xs.length ∧ i ≤ ys.length⟩
theorem zsep {z TI TO i1 i2 a b : Addr} (D : ZipApart z TI TO i1 i2 a b) : ZipSep2 z TI TO i1 i2 [i1, a] [i2, b] where
  TIz := D.TIz
  TOz := D.TOz
  TITO := D.TITO
  TIi1 := D.TIi1
  mem1 := List.mem_cons_self
  zf1 := fun h => by rcases List.mem_cons.mp h with e | h; exact D.i1z e.symm; exact D.l1z (List.mem_singleton.mp h).symm
  Tf1 := fun h => by rcases List.mem_cons.mp h with e | h; exact D.TOi1 e; exact D.l1TO (List.mem_singleton.mp h).symm
  TIi2 := D.TIi2
  mem2 := List.mem_cons_self
  zf2 := fun h => by rcases List.mem_cons.mp h with e | h; exact D.i2z e.symm; exact D.l2z (List.mem_singleton.mp h).symm
  Tf2 := fun h => by rcases List.mem_cons.mp h with e | h; exact D.TOi2 e; exact D.l2TO (List.mem_singleton.mp h).symm
  sep1_2 := fun h => by rcases List.mem_cons.mp h with e | h; exact D.i12 e; exact D.l2i1 (List.mem_singleton.mp h).symm
  sep2_1 := fun h => by rcases List.mem_cons.mp h with e | h; exact D.i12 e.symm; exact D.l1i2 (List.mem_singleton.mp h).symm
theorem five {c z TI TO i1 i2 : Addr} {Pr : Addr → Prop} (hc : c ∈ [z, TI, TO, i1, i2]) (a : Pr z) (b : Pr TI) (d : Pr TO) (e : Pr i1) (f : Pr i2) : Pr c := by
  have q : c = z ∨ c = TI ∨ c = TO ∨ c = i1 ∨ c = i2 := by simpa using hc
  rcases q with rfl | rfl | rfl | rfl | rfl <;> assumption
theorem turn_zipM {p q : Bool} {P : Program} {w : World} {K : PySem.W.Frag} {elts : List Expr} {kk : Nat} {tpos : Pos} {a b z TI TO i1 i2 : Addr} (D : ZipApart z TI TO i1 i2 a b) :
    Turn P w K (.Tuple elts kk tpos) (ItzM p q K a b) [z, TI, TO, i1, i2] z (fun i h => IsZip h z TI TO .none ∧ IsTupOf2 h TI (.ref i1) (.ref i2) ∧ (∃ x y, IsTupOf2 h TO x y) ∧ ItK p h i1 a i ∧ ItK q h i2 b i) where
  mem := by simp
  obj := fun i h st c hc => by
    obtain ⟨hz, hI, ⟨x, y, hO⟩, h1, h2⟩ := st
    exact five (Pr := fun c => ∃ o, h.get? c = some o ∧ ∀ v, o.data ≠ .cell v) hc ⟨_, hz, fun v q => nomatch q⟩ ⟨_, hI, fun v q => nomatch q⟩ ⟨_, hO, fun v q => nomatch q⟩ h1.obj h2.obj
  keep := fun i h h' st k => by
    obtain ⟨hz, hI, ⟨x, y, hO⟩, h1, h2⟩ := st
    exact ⟨k z (by simp) _ hz, k TI (by simp) _ hI, ⟨x, y, k TO (by simp) _ hO⟩, h1.at' (fun o e => k i1 (by simp) o e), h2.at' (fun o e => k i2 (by simp) o e)⟩
  item := by
    intro X hP hw hK hc i pins s σ H E I hf st hg
    subst hP hw hK
    obtain ⟨hz, hI, ⟨x0, y0, hO⟩, h1, h2⟩ := st
    obtain ⟨xs, ys, x, y, qx, qy, ex, ey⟩ := hg
    obtain ⟨us, rx, kx, _⟩ := sqk_is I qx
    obtain ⟨vs, ry, ky, _⟩ := sqk_is I qy
    obtain ⟨u, eu, ru⟩ := rx.get ex
    obtain ⟨v, ev, rv⟩ := ry.get ey
    have hzl : z < s.heap.objs.size := Heap.lt_size hz
    have lu : i < us.toArray.size := by simpa using (List.getElem?_eq_some_iff.mp eu).1
    have lv : i < vs.toArray.size := by simpa using (List.getElem?_eq_some_iff.mp ev).1
    have hh : X.A.in1.handled = none := I.ok.hd hc
    refine wpAny_pyNext_zipD2_item (zsep D) (drawsK p hh i1 a D.l1i1 us.toArray) (drawsK q hh i2 b D.l2i2 vs.toArray) hz hI hO ⟨h1, kx⟩ ⟨h2, ky⟩ lu lv fun m1 m2 g tk p1 p2 gz gO g1 g2 gT gs gk => ?_
    have e1 : m1 = u := by
      have t1 : us.toArray[i]? = some u := by simpa using eu
      exact Option.some.inj (p1.symm.trans t1)
    have e2 : m2 = v := by
      have t1 : vs.toArray[i]? = some v := by simpa using ev
      exact Option.some.inj (p2.symm.trans t1)
    subst e1 e2
    refine ⟨_, rfl, wpAny_letOwnedTupleGo_zip (s := { s with heap := g, toks := tk }) gz fun g' gz' sb => ?_⟩
    have gT' : g'.get? s.heap.objs.size = some { cls := .type "tuple", data := .seq #[m1, m2] } := (sb.2 _ (Nat.ne_of_gt hzl)).trans gT
    have nw : ObjOk X.prog X.w (upd H s.heap.objs.size (.tup [x, y])) g' s.heap.objs.size (.tup [x, y]) := ⟨by show 2 ≤ sizeLine; decide, [m1, m2], .cons ru (.cons rv .nil), ⟨_, gT', rfl, _, rfl⟩⟩
    have I1 : Inv X pins σ (upd H s.heap.objs.size (.tup [x, y])) { s with heap := g', toks := tk } :=
      I.turnedNew (t' := tk) (ch := [z, TI, TO, i1, i2]) (fun c o nb e => (sb.2 c (fun w => nb (by simp [w]))).trans (gk c o (fun w => nb (by simp [w])) (fun w => nb (by simp [w])) (fun w => nb (by simp [w])) (fun w => nb (by simp [w])) e)) hf (Nat.le_refl _) nw
    refine ⟨.ref s.heap.objs.size, _, I1, rfl, ⟨_, x, y, rfl, I.hok.fresh (Nat.le_refl _), rfl, fun l hl => by rw [sqk_inj I hl qx]; exact ex, fun l hl => by rw [sqk_inj I hl qy]; exact ey⟩, ⟨gz', ?_, ⟨m1, m2, ?_⟩, ?_, ?_⟩, fun c hcm => ?_⟩
    · exact (sb.2 _ D.TIz).trans (gk _ _ D.TIz D.TITO D.TIi1 D.TIi2 hI)
    · exact (sb.2 _ D.TOz).trans gO
    · exact ItK.at' g1.1 (fun o e => (sb.2 _ D.i1z).trans e)
    · exact ItK.at' g2.1 (fun o e => (sb.2 _ D.i2z).trans e)
    · have lt : c < s.heap.objs.size := by
        obtain ⟨o1, q1, _⟩ := h1.obj
        obtain ⟨o2, q2, _⟩ := h2.obj
        exact five (Pr := fun c => c < s.heap.objs.size) hcm hzl (Heap.lt_size hI) (Heap.lt_size hO) (Heap.lt_size q1) (Heap.lt_size q2)
      rw [upd_ne (Nat.ne_of_lt lt)]
      exact (hf c hcm).1
  done := by
    intro X hP hw hK hc i pins s σ H E I hf st hg
    subst hP hw hK
    obtain ⟨hz, hI, ⟨x0, y0, hO⟩, h1, h2⟩ := st
    obtain ⟨xs, ys, qx, qy, hend, le1, le2⟩ := hg
    obtain ⟨us, rx, kx, _⟩ := sqk_is I qx
    obtain ⟨vs, ry, ky, _⟩ := sqk_is I qy
    have l1 := rx.length
    have l2 := ry.length
    have n1 : us.toArray.size = us.length := by simp
    have n2 : vs.toArray.size = vs.length := by simp
    have hh : X.A.in1.handled = none := I.ok.hd hc
    refine wpAny_pyNext_zipD2_end (i := i) (zsep D) (drawsK p hh i1 a D.l1i1 us.toArray) (drawsK q hh i2 b D.l2i2 vs.toArray) hz hI hO ⟨h1, kx⟩ ⟨h2, ky⟩ (by omega) (by omega) (by omega) fun g tk gk => ?_
    exact ⟨rfl, I.turnedL (t' := tk) (ch := [z, TI, TO, i1, i2]) (fun c o nb e => gk c o (fun w => nb (by simp [w])) (fun w => nb (by simp [w])) (fun w => nb (by simp [w])) (fun w => nb (by simp [w])) e) hf⟩
  self := fun A i s Q E st h => wpAny_pyIter_zip st.1 h
def iZipM (K : PySem.W.Frag) (ta : TA) : TI := fun σ H R => ta σ H fun vs H1 => ∃ p q a b xs ys, vs = [.ref a, .ref b] ∧ SqK p K H1 a xs ∧ SqK q K H1 b ys ∧ R (ItzM p q K a b) H1
theorem begK {p : Bool} {h : Heap} {a : Addr} {xs : Array Value} (k : IsK p h a xs) : ∃ o Hp', Begins (.ref a) o Hp' ∧ Hp' h ∧ ∀ h' it, h'.get? it = some o → ItK p h' it a 0 := by
  cases p
  · exact ⟨_, _, begins_tuple a xs, k, fun h' it e => ⟨_, e, rfl, rfl⟩⟩
  · exact ⟨_, _, begins_list a xs, k, fun h' it e => ⟨_, e, rfl, rfl⟩⟩
theorem pi_zipM {X : Cx} {e e2 : Expr} {ta : TA} {p pos tpos : Pos} {elts : List Expr} {kk : Nat} (hg : Gl X "zip") (hm : X.mg "zip" = none) (ha : PA X [e, e2] ta)
    (hs : starEach [e, e2] X.env = (false, eval e X.env) :: starEach [e2] X.env := by rfl) (hpl : (backTo pos (starEach [e2] X.env)).any (·.1) = false := by rfl) :
    PI X (.Tuple elts kk tpos) (.Call (.Name "zip" p) [e, e2] [] pos) (iZipM X.K ta) := by
  constructor
  intro pins s σ H R I h
  refine Call_ (ld_blt I hg hm PyProof.Rows.boot_zip (PyProof.Rows.callWith_type1 (thn (ha.run pos pins s σ H _ I h) fun us s1 ⟨vs, H1, I1, r1, q1⟩ => ?_) hs hpl))
  obtain ⟨k1, k2, a, b, xs, ys, ex, qx, qy, q⟩ := q1
  subst ex
  obtain ⟨u, v, rfl, ru, rv⟩ := Vals.two r1
  cases ru
  cases rv
  obtain ⟨i1, _, p1, lt1⟩ := sqk_is I1 qx
  obtain ⟨i2, _, p2, lt2⟩ := sqk_is I1 qy
  obtain ⟨o1, G1, B1, g1, w1⟩ := begK p1
  obtain ⟨o2, G2, B2, g2, w2⟩ := begK p2
  refine zip_begins2 B1 B2 g1 g2 fun h' hz hI hO e1 e2 hsz hk => wpAny_pyIter_zip hz ?_
  have I2 : Inv X pins σ H1 { s1 with heap := h' } := I1.kept (t' := s1.toks) hk
  refine ⟨s1.heap.objs.size + 4, [s1.heap.objs.size + 4, s1.heap.objs.size + 2, s1.heap.objs.size + 3, s1.heap.objs.size, s1.heap.objs.size + 1], _, _, H1, rfl, I2, turn_zipM (PySem.W.ktu_apart s1.heap.objs.size a b lt1 lt2), ⟨hz, hI, ⟨_, _, hO⟩, w1 _ _ e1, w2 _ _ e2⟩, fun c hcm => ?_, q⟩
  have hle : s1.heap.objs.size ≤ c := five (Pr := fun c => s1.heap.objs.size ≤ c) hcm (Nat.le_add_right _ _) (Nat.le_add_right _ _) (Nat.le_add_right _ _) (Nat.le_refl _) (Nat.le_add_right _ _)
  exact I1.fpOk hle (I1.hok.fresh hle)
end Z
set_option Elab.async false
set_option linter.all false
set_option maxRecDepth 100000
set_option maxHeartbeats 4000000
namespace Z
open PySem PySem.Spec PyProof.Rows L2
/-! ### (v,) * k for 0 ≤ k -/
theorem tmul0 (l : Addr) (v : Value) (n : Nat) (dd : Option Addr) (sl : Array (Option Value)) (u : Tok) :
    Meets (Builtin.«tuple.__mul__» ⟨[.ref l, .int 0 u], []⟩) (fun _ R s => s.heap.get? l = some { cls := .type "tuple", dict := dd, data := .seq #[v] n, slots := sl } ∧
      R (.ok (.ret (Value.ref s.heap.objs.size))) { s with heap := s.heap.push { cls := Value.type "tuple", data := Data.seq #[] }, toks := s.toks }) :=
  .of_wp fun prog w A R s h => by
    obtain ⟨hp, g, d, tk, os⟩ := s
    obtain ⟨hl, h⟩ := h
    have f1 := AutoSeq1.idx_int
    wp_walk using AutoSeq1.wpAny_loadPart' hl
    exact ⟨_, rfl, h⟩
theorem tmul1 (l : Addr) (items : Array Value) (n : Nat) (dd : Option Addr) (sl : Array (Option Value)) (u : Tok) :
    Meets (Builtin.«tuple.__mul__» ⟨[.ref l, .int 1 u], []⟩) (fun _ R s => s.heap.get? l = some { cls := .type "tuple", dict := dd, data := .seq items n, slots := sl } ∧ R (.ok (.ret (Value.ref l))) s) :=
  .of_wp fun prog w A R s h => by
    obtain ⟨hp, g, d, tk, os⟩ := s
    obtain ⟨hl, h⟩ := h
    have f1 := AutoSeq1.idx_int
    wp_walk using AutoSeq1.wpAny_loadPart' hl
    exact ⟨_, rfl, h⟩
theorem same_new {H : Hp} {p : Addr} {o : HO} (h : H p = none) : Same H (upd H p o) := fun b x e => by
  rw [upd_ne (ne_of_none e h)]
  exact e
def rRepU : R2 := fun x y H Q => ∃ l k v, x = .ref l ∧ y = .int k ∧ H l = some (.tup [v]) ∧ 0 ≤ k ∧ k ≤ 1000 ∧ ∀ p H', Same H H' → H' p = some (.tup (List.replicate k.toNat v)) → Q (.ref p) H'
theorem op_repU {X : Cx} : OpR X (binaryOp .Mult) rRepU := by
  intro pins s σ H x y vv uu Q I rx ry h
  obtain ⟨l, k, v, rfl, rfl, hT, h0, h1, q⟩ := id h
  by_cases k2 : 2 ≤ k
  · refine op_repT pins s σ H _ _ vv uu Q I rx ry ⟨l, k, [v], rfl, rfl, .inl (.inl hT), by simp, k2, h1, by simp, fun p np => q p _ (same_new np) ?_⟩
    rw [upd_same]
    congr 2
    generalize k.toNat = m
    induction m with
    | zero => rfl
    | succ m ih => rw [List.replicate_succ, List.flatten_cons, ih, List.replicate_succ]; rfl
  · cases rx
    obtain ⟨t, rfl⟩ := ry
    obtain ⟨its, r, ⟨⟨cls, dd, data, sl⟩, ho, hc, n, hd⟩, hs⟩ := I.tuple (.inl (.inl hT) : SqT X.K H l [v])
    simp only at hc hd
    subst hc hd
    obtain ⟨u, rfl, ru⟩ := Vals.one r
    by_cases k1 : k = 1
    · subst k1
      refine wpAny_binaryOp_repeat_ref (T := "tuple") (U := "int") (by decide) ⟨_, ho, rfl⟩ (fun s' => typeIs_int s' 1 t) noFill_tuple_mul F.fills_int_mul F.slot_int_rmul repeat_tuple F.slot_int_index.lookup
        (call_meets F.slot_int_rmul (typeIs_int s 1 t) F.entry_int_rmul (F.args_int_rmul_2 _ _) (int_rmul_tuple 1 t l [u].toArray n dd sl)
          ⟨ho, rfl, ⟨_, ho, rfl⟩, call_meets F.slot_tuple_mul ⟨_, ho, rfl⟩ F.entry_tuple_mul (F.args_tuple_mul_2 _ _) (tmul1 l [u].toArray n dd sl t) ⟨ho, ?_⟩⟩)
      exact ⟨.ref l, H, I, rfl, q l H (Same.refl H) hT⟩
    · have k0 : k = 0 := by omega
      subst k0
      refine wpAny_binaryOp_repeat_ref (T := "tuple") (U := "int") (by decide) ⟨_, ho, rfl⟩ (fun s' => typeIs_int s' 0 t) noFill_tuple_mul F.fills_int_mul F.slot_int_rmul repeat_tuple F.slot_int_index.lookup
        (call_meets F.slot_int_rmul (typeIs_int s 0 t) F.entry_int_rmul (F.args_int_rmul_2 _ _) (int_rmul_tuple 0 t l [u].toArray n dd sl)
          ⟨ho, rfl, ⟨_, ho, rfl⟩, call_meets F.slot_tuple_mul ⟨_, ho, rfl⟩ F.entry_tuple_mul (F.args_tuple_mul_2 _ _) (tmul0 l u n dd sl t) ⟨ho, ?_⟩⟩)
      refine ⟨.ref s.heap.objs.size, _, I.laid (t' := s.toks) (o := .tup []) (fun b ob z => Heap.get?_push_of_some _ z) (Nat.le_refl _) ?_, rfl, q _ _ (same_new (I.hok.fresh (Nat.le_refl _))) upd_same⟩
      exact ⟨Nat.zero_le _, [], .nil, IsTup.new _ _⟩
/-! ### loops and comprehensions over any iterator -/
def forW (J : It) (g : TG) (tb : TS) (D : Ends) (σ : L2.St) (H : Hp) : Prop := ∃ W : Nat → Nat → L2.St → Hp → Prop, (∃ m, W 0 m σ H) ∧ ∀ i m σ H, W i m σ H →
  (J.stop i H ∧ D.nx σ H) ∨ (J.go i H ∧ ∃ N : L2.St → Hp → Prop, (∀ σ' H', N σ' H' → ∃ m', m' < m ∧ W (i + 1) m' σ' H') ∧ ∀ x H', J.yld i H x H' → g x σ H' fun σ2 H2 => tb { D with nx := N, ct := N, bk := D.nx } σ2 H2)
theorem for_gen {J : It} {n : Nat} {g : TG} {tb : TS} {D : Ends} {σ : L2.St} {H : Hp} (Pv : Nat → L2.St → Hp → Prop) (h0 : Pv 0 σ H) (hgo : ∀ i σ H, i < n → Pv i σ H → J.go i H) (hst : ∀ σ H, Pv n σ H → J.stop n H)
    (hs : ∀ i σ H x H', i < n → Pv i σ H → J.yld i H x H' → g x σ H' fun σ2 H2 => tb { D with nx := Pv (i + 1), ct := Pv (i + 1), bk := D.nx } σ2 H2) (hd : ∀ σ H, Pv n σ H → D.nx σ H) : forW J g tb D σ H := by
  refine ⟨fun i m σ H => m = n - i ∧ i ≤ n ∧ Pv i σ H, ⟨n, by omega, Nat.zero_le _, h0⟩, fun i m σ H w => ?_⟩
  obtain ⟨rfl, hi, p⟩ := w
  by_cases hlt : i < n
  · exact .inr ⟨hgo i σ H hlt p, Pv (i + 1), fun σ' H' z => ⟨n - (i + 1), by omega, rfl, hlt, z⟩, fun x H' y => hs i σ H x H' hlt p y⟩
  · have e : i = n := by omega
    subst e
    exact .inl ⟨hst σ H p, hd σ H p⟩
def lcW (J : It) (g : TG) (tt : TT) (te : TE) (vs : List Nat) (σ : L2.St) (D : Addr) (Qd : Hp → Prop) (H1 : Hp) : Prop := ∃ W : Nat → Nat → Hp → Prop, (∃ m, W 0 m (upd H1 D (.lst []))) ∧ ∀ i m H, W i m H →
  (J.stop i H ∧ Qd H) ∨ (J.go i H ∧ ∃ Nx : Hp → Prop, (∀ H', Nx H' → ∃ m', m' < m ∧ W (i + 1) m' H') ∧ ∀ x H', J.yld i H x H' → g x (wipe σ vs) H' fun σ2 H2 => wipe σ2 vs = wipe σ vs ∧ tt σ2 H2 fun b H3 =>
    if b = true then te σ2 H3 fun y H4 => ∃ acc, H4 D = some (.lst acc) ∧ acc.length < sizeLine ∧ Nx (upd H4 D (.lst (acc ++ [y]))) else Nx H3)
theorem lc_gen {J : It} {n : Nat} {g : TG} {tt : TT} {te : TE} {vs : List Nat} {σ : L2.St} {H1 : Hp} {D : Addr} {Qd : Hp → Prop} (Pv : Nat → Hp → Prop) (h0 : Pv 0 (upd H1 D (.lst []))) (hgo : ∀ i H, i < n → Pv i H → J.go i H) (hst : ∀ H, Pv n H → J.stop n H)
    (hs : ∀ i H x H', i < n → Pv i H → J.yld i H x H' → g x (wipe σ vs) H' fun σ2 H2 => wipe σ2 vs = wipe σ vs ∧ tt σ2 H2 fun b H3 =>
      if b = true then te σ2 H3 fun y H4 => ∃ acc, H4 D = some (.lst acc) ∧ acc.length < sizeLine ∧ Pv (i + 1) (upd H4 D (.lst (acc ++ [y]))) else Pv (i + 1) H3) (hd : ∀ H, Pv n H → Qd H) : lcW J g tt te vs σ D Qd H1 := by
  refine ⟨fun i m H => m = n - i ∧ i ≤ n ∧ Pv i H, ⟨n, by omega, Nat.zero_le _, h0⟩, fun i m H w => ?_⟩
  obtain ⟨rfl, hi, p⟩ := w
  by_cases hlt : i < n
  · exact .inr ⟨hgo i H hlt p, Pv (i + 1), fun H' z => ⟨n - (i + 1), by omega, rfl, hlt, z⟩, fun x H' y => hs i H x H' hlt p y⟩
  · have e : i = n := by omega
    subst e
    exact .inl ⟨hst H p, hd H p⟩
/-! ### a def of the module that may be called by its name -/
structure Cal (P : Program) (w : World) (K : PySem.W.Frag) (mg : Str → Option Value) (base : Heap) (k : Nat) (x : Str) (sp : Sp) : Prop where
  ex : ∃ (f : Addr) (fd : FuncData) (ps : List Str), FnOk P w K mg base CX0 k f fd ps sp ∧ mg x = some (.ref f) ∧ PySem.W.keepIn K (.ref f) = true ∧ Binds K fd ps []
section
variable {X : Cx} {k j : Nat} {x : Str} {sp : Sp} {p pos : Pos} {e : Expr} {es : List Expr} {t : TA}
theorem pe_cl (c : Cal X.prog X.w X.K X.mg X.base k x sp) (hr : Room j X.A) (hk : k ≤ j) (hg : Gl X x) (ha : PA X (e :: es) t)
    (hdb : (x == ("__debug__" : Str)) = false := by decide) (he : starEach (e :: es) X.env = (false, eval e X.env) :: starEach es X.env := by rfl) (hpl : (backTo pos (starEach es X.env)).any (·.1) = false := by rfl) : PE X (.Call (.Name x p) (e :: es) [] pos) (tCall sp [] E0 t) := by
  obtain ⟨f, fd, ps, F, hm, kp, b⟩ := c.ex
  exact pe_call F (hr.mono hk) hg hm kp b .nil pass0 ha hdb he hpl
end
structure CalK (P : Program) (w : World) (K : PySem.W.Frag) (mg : Str → Option Value) (base : Heap) (k : Nat) (x : Str) (n : Nat) (ks : List Str) (gV : List V → List V → List V) (sp : Sp) : Prop where
  ex : ∃ (f : Addr) (fd : FuncData) (ps : List Str) (g : List Value → List Value → List Value), FnOk P w K mg base CX0 k f fd ps sp ∧ mg x = some (.ref f) ∧ PySem.W.keepIn K (.ref f) = true ∧ KBn K fd ps n ks g gV
section
variable {X : Cx} {k j n : Nat} {x : Str} {sp : Sp} {ks : List Str} {gV : List V → List V → List V} {p pos : Pos} {e : Expr} {es : List Expr} {kws : List Keyword} {t tk : TA}
theorem pe_clK (c : CalK X.prog X.w X.K X.mg X.base k x n ks gV sp) (hr : Room j X.A) (hk : k ≤ j) (hg : Gl X x) (ha : PA X (e :: es) t) (hkw : PK X kws tk)
    (hall : (backToKw pos (keywordEach kws X.env)).all (·.1.isSome) = true := by rfl) (hks : (backToKw pos (keywordEach kws X.env)).filterMap (·.1) = ks := by rfl) (hdb : (x == ("__debug__" : Str)) = false := by decide)
    (he : starEach (e :: es) X.env = (false, eval e X.env) :: starEach es X.env := by rfl) (hpl : ((backTo pos (starEach (e :: es) X.env)).any (·.1) || (backToKw pos (keywordEach kws X.env)).any (·.1.isNone)) = false := by rfl) :
    PE X (.Call (.Name x p) (e :: es) kws pos) (tCallN n ks.length sp gV E0 t tk) := by
  obtain ⟨f, fd, ps, g, F, hm, kp, b⟩ := c.ex
  exact pe_callN F (hr.mono hk) hg hm kp b pass0 ha hkw hall hks hdb he hpl
end
/-! ### heaps -/
/-- all but p stands -/
def SB (p : Addr) (H H' : Hp) : Prop := ∀ b o, b ≠ p → H b = some o → H' b = some o
theorem Same.sb {p : Addr} {H H' : Hp} (s : Same H H') : SB p H H' := fun b o _ h => s b o h
theorem SB.trans {p : Addr} {H H1 H2 : Hp} (a : SB p H H1) (b : SB p H1 H2) : SB p H H2 := fun c o n h => b c o n (a c o n h)
theorem SB.upd {p : Addr} {H H' : Hp} {o : HO} (s : SB p H H') : SB p H (upd H' p o) := fun b u n h => by
  rw [upd_ne n]
  exact s b u n h
theorem SB.same {p : Addr} {H H' : Hp} (s : SB p H H') (n : H p = none) : Same H H' := fun b o h => s b o (ne_of_none h n) h
theorem Same.mut {p : Addr} {H H' : Hp} {o : HO} (s : Same H H') (n : H p = none) : Same H (L2.upd H' p o) := fun b u h => by
  rw [upd_ne (ne_of_none h n)]
  exact s b u h
theorem SB.sq {K : PySem.W.Frag} {p a : Addr} {H H' : Hp} {xs : List V} (s : SB p H H') (n : a ≠ p) (h : SqL K H a xs) : SqL K H' a xs := by
  rcases h with (h | ⟨o, h⟩) | h
  · exact .inl (.inl (s _ _ n h))
  · exact .inl (.inr ⟨o, s _ _ n h⟩)
  · exact .inr h
theorem Same.sqT {K : PySem.W.Frag} {a : Addr} {H H' : Hp} {xs : List V} (s : Same H H') (h : SqT K H a xs) : SqT K H' a xs := by
  rcases h with (h | ⟨o, h⟩) | h
  · exact .inl (.inl (s _ _ h))
  · exact .inl (.inr ⟨o, s _ _ h⟩)
  · exact .inr h
theorem Same.sqK {b : Bool} {K : PySem.W.Frag} {a : Addr} {H H' : Hp} {xs : List V} (s : Same H H') (h : SqK b K H a xs) : SqK b K H' a xs := by
  cases b
  · exact Z.Same.sqT s h
  · exact s.seq h
theorem at_map {α : Type} {f : α → V} {xs : List α} {i : Nat} {x : α} (h : xs[i]? = some x) : atI (xs.map f) (i : Int) = some (f x) := atI_nat (by rw [List.getElem?_map, h]; rfl)
theorem of_map {α : Type} {f : α → V} {xs : List α} {i : Nat} {v : V} (h : (xs.map f)[i]? = some v) : ∃ x, xs[i]? = some x ∧ v = f x := by
  rw [List.getElem?_map] at h
  cases e : xs[i]? with
  | none => rw [e] at h; cases h
  | some x => rw [e] at h; exact ⟨x, rfl, (Option.some.inj h).symm⟩
end Z
set_option Elab.async false
set_option linter.all false
set_option maxRecDepth 100000
set_option maxHeartbeats 4000000
namespace Z
open PySem PySem.Spec PyProof.Rows L2
/-! ### data -/
def sqD (b : Bool) (ds : List PyData) : PyData := match b with
  | true => .list ds
  | false => .tuple ds
def intsD (b : Bool) (ns : List Int) : PyData := sqD b (ns.map PyData.int)
def matD (b : Bool) (rs : List (List Int)) : PyData := sqD b (rs.map (intsD b))
theorem dp_sq {b : Bool} {K : PySem.W.Frag} {H : Hp} {a : Addr} {xs : List V} {ds : List PyData} (h : SqK b K H a xs) (d : DpAll K H xs ds) : Dp K H (.ref a) (sqD b ds) := by
  cases b
  · exact .tup h d
  · exact .lst h d
theorem dpa_ints {K : PySem.W.Frag} {H : Hp} : ∀ ns : List Int, DpAll K H (ns.map V.int) (ns.map PyData.int)
  | [] => .nil
  | n :: r => .cons (.int n) (dpa_ints r)
theorem dp_ints {b : Bool} {K : PySem.W.Frag} {H : Hp} {a : Addr} {ns : List Int} (h : SqK b K H a (ns.map V.int)) : Dp K H (.ref a) (intsD b ns) := dp_sq h (dpa_ints ns)
/-- a matrix: a list (or tuple) of lists (or tuples) of ints, at ps -/
def Mat (b : Bool) (K : PySem.W.Frag) (H : Hp) (a : Addr) (ps : List Addr) (rs : List (List Int)) : Prop := SqK b K H a (ps.map V.ref) ∧ ps.length = rs.length ∧ ∀ (i : Nat) (p : Addr) (r : List Int), ps[i]? = some p → rs[i]? = some r → SqK b K H p (r.map V.int)
theorem Mat.mono {b : Bool} {K : PySem.W.Frag} {H H' : Hp} {a : Addr} {ps : List Addr} {rs : List (List Int)} (s : Same H H') (m : Mat b K H a ps rs) : Mat b K H' a ps rs := ⟨Z.Same.sqK s m.1, m.2.1, fun i p r h1 h2 => Z.Same.sqK s (m.2.2 i p r h1 h2)⟩
theorem dpa_mat {b : Bool} {K : PySem.W.Frag} {H : Hp} : ∀ (ps : List Addr) (rs : List (List Int)), ps.length = rs.length → (∀ (i : Nat) (p : Addr) (r : List Int), ps[i]? = some p → rs[i]? = some r → SqK b K H p (r.map V.int)) → DpAll K H (ps.map V.ref) (rs.map (intsD b))
  | [], [], _, _ => .nil
  | p :: ps, r :: rs, hl, h => .cons (dp_ints (h 0 p r rfl rfl)) (dpa_mat ps rs (by simpa using hl) fun i q s h1 h2 => h (i + 1) q s h1 h2)
theorem Mat.dp {b : Bool} {K : PySem.W.Frag} {H : Hp} {a : Addr} {ps : List Addr} {rs : List (List Int)} (m : Mat b K H a ps rs) : Dp K H (.ref a) (matD b rs) := dp_sq m.1 (dpa_mat ps rs m.2.1 m.2.2)
theorem lay_ints : ∀ ns : List Int, PyData.canLayAll0 (ns.map PyData.int) = true
  | [] => rfl
  | n :: r => by
    rw [List.map_cons, PyData.canLayAll0, lay_ints r]
    rfl
theorem dep_ints : ∀ ns : List Int, PyData.depthAll (ns.map PyData.int) = 0
  | [] => rfl
  | n :: r => by
    rw [List.map_cons, PyData.depthAll, dep_ints r]
    rfl
theorem shaped_ints (b : Bool) (ns : List Int) : SeqAt.shaped (intsD b ns) = true := by
  unfold SeqAt.shaped intsD
  cases b
  · show (PyData.canLayAll0 (ns.map PyData.int) && decide (PyData.depthAll (ns.map PyData.int) + 1 ≤ 64)) = true
    rw [lay_ints, dep_ints]
    rfl
  · show (PyData.canLayAll0 (ns.map PyData.int) && decide (PyData.depthAll (ns.map PyData.int) + 1 ≤ 64)) = true
    rw [lay_ints, dep_ints]
    rfl
theorem lay_mat (b : Bool) : ∀ rs : List (List Int), PyData.canLayAll0 (rs.map (intsD b)) = true
  | [] => rfl
  | n :: r => by
    rw [List.map_cons, PyData.canLayAll0, lay_mat b r, SeqAt.canLay_of_shaped (shaped_ints b n)]
    rfl
theorem dep_mat (b : Bool) : ∀ rs : List (List Int), PyData.depthAll (rs.map (intsD b)) ≤ 1
  | [] => Nat.zero_le _
  | n :: r => by
    rw [List.map_cons, PyData.depthAll]
    have h := dep_mat b r
    have h2 : (intsD b n).depth = 1 := by
      cases b
      · show PyData.depthAll (n.map PyData.int) + 1 = 1
        rw [dep_ints]
      · show PyData.depthAll (n.map PyData.int) + 1 = 1
        rw [dep_ints]
    omega
theorem shaped_mat (b : Bool) (rs : List (List Int)) : SeqAt.shaped (matD b rs) = true := by
  have h := dep_mat b rs
  unfold SeqAt.shaped matD
  cases b
  · show (PyData.canLayAll0 (rs.map (intsD false)) && decide (PyData.depthAll (rs.map (intsD false)) + 1 ≤ 64)) = true
    rw [lay_mat, decide_eq_true (by omega)]
    rfl
  · show (PyData.canLayAll0 (rs.map (intsD true)) && decide (PyData.depthAll (rs.map (intsD true)) + 1 ≤ 64)) = true
    rw [lay_mat, decide_eq_true (by omega)]
    rfl
theorem same2 {K : PySem.W.Frag} {H : Hp} {x y : V} {d : PyData} {R : PyData → PyData → Prop} (hx : Dp K H x d) (hy : Dp K H y d) (hs : SeqAt.shaped d = true) (q : R d d) : ∃ d' e', Dp K H x d' ∧ Dp K H y e' ∧ SeqAt.shaped d' = true ∧ SeqAt.shaped e' = true ∧ R d' e' := ⟨d, d, hx, hy, hs, hs, q⟩
theorem eqv_same {d : PyData} (hs : SeqAt.shaped d = true) : PyData.eqv d d = true := SeqAt.eqv_refl d (SeqAt.canLay_of_shaped hs)
/-! ### a target that is one of two kinds -/
def gOr (t u : TG) : TG := fun v σ H Q => t v σ H Q ∨ u v σ H Q
theorem pg_or {X : Cx} {e : Expr} {t u : TG} (h1 : PG X e t) (h2 : PG X e u) : PG X e (gOr t u) := by
  refine ⟨fun pins s σ H v uu Q I r hw => ?_⟩
  rcases hw with h | h
  · exact h1.run pins s σ H v uu Q I r h
  · exact h2.run pins s σ H v uu Q I r h
/-! ### isinstance of built-in kinds -/
theorem isi {K : PySem.W.Frag} {H : Hp} {x : V} {T c : String} {b : Bool} {R : Bool → Prop} (t : TyOf K H x (.type T)) (h : kitB T c = some b) (q : R b) : ∃ (x' c' : V) (t' u' : Value) (b' : Bool), [x, .ty c] = [x', c'] ∧ ClsV c' u' ∧ TyX K H x' t' ∧ PySem.W.kitOne K t' u' = some b' ∧ R b' :=
  ⟨x, .ty c, .type T, .type c, b, rfl, .ty c, .base t, kit_ty h, q⟩
/-! ### rules by the written part itself (within a comprehension's block) -/
section
variable {X : Cx} {K : PySem.W.Frag}
theorem ix_list_K (h : X.K = K) : IxR X (rIxL K) := by subst h; exact ix_list
theorem ix_tup_K (h : X.K = K) : IxR X (rIxT K) := by subst h; exact ix_tup
theorem ix_seq_K (h : X.K = K) : IxR X (rIx K) := by subst h; exact ix_seq
theorem call_len_seq_K (h : X.K = K) : CallR X (.builtin "len") (fun xs H Q => ∃ p ys, xs = [.ref p] ∧ (SqL K H p ys ∨ SqT K H p ys) ∧ Q (.int ys.length) H) := by subst h; exact call_len_seq
theorem call_list_of_K (h : X.K = K) : CallR X (.type "list") (fun xs H Q => ∃ p ys, xs = [.ref p] ∧ (SqL K H p ys ∨ SqT K H p ys) ∧ ∀ l, H l = none → Q (.ref l) (upd H l (.lst ys))) := by subst h; exact call_list_of
theorem call_tuple_of_K (h : X.K = K) : CallR X (.type "tuple") (fun xs H Q => ∃ p ys, xs = [.ref p] ∧ ((SqL K H p ys ∧ ∀ l, H l = none → Q (.ref l) (upd H l (.tup ys))) ∨ (SqT K H p ys ∧ Q (.ref p) H))) := by subst h; exact call_tuple_of
theorem op_in_seq_K (h : X.K = K) : OpR X (compareOp .In) (rIn K false) := by subst h; exact op_in_seq
theorem op_notIn_seq_K (h : X.K = K) : OpR X (compareOp .NotIn) (rIn K true) := by subst h; exact op_notIn_seq
theorem op_eqD_K (h : X.K = K) (hu : X.A.units + 64 < cLine) : OpR X (compareOp .Eq) (rEqD K) := by subst h; exact op_eqD hu
theorem op_neD_K (h : X.K = K) (hu : X.A.units + 64 < cLine) : OpR X (compareOp .NotEq) (rNeD K) := by subst h; exact op_neD hu
theorem call_isi_K (h : X.K = K) : CallR X (.builtin "isinstance") (rIsi K) := by subst h; exact call_isi
end
/-! ### great products -/
theorem big_mul {i j : Int} (hi : i.natAbs < 2 ^ 4000) (hj : j.natAbs < 2 ^ 4000) : CMulX i j := mulx_ok hi hj (by decide)
/-! ### sums of multiples of rows -/
def combN (rs : List (List Int)) (fs : List Int) (w : Nat) : Nat → List Int
  | 0 => List.replicate w 0
  | n + 1 => List.zipWith (fun a b => a + fs.getD n 0 * b) (combN rs fs w n) (rs.getD n [])
theorem combN_len {rs : List (List Int)} {fs : List Int} {w : Nat} (h : ∀ r ∈ rs, r.length = w) : ∀ n, n ≤ rs.length → (combN rs fs w n).length = w
  | 0, _ => List.length_replicate
  | n + 1, hn => by
    rw [combN, List.length_zipWith, combN_len h n (by omega), List.getD_eq_getElem?_getD, List.getElem?_eq_getElem (by omega), Option.getD_some, h _ (List.getElem_mem _)]
    omega
theorem combN_at {rs : List (List Int)} {fs : List Int} {w i c : Nat} (hi : i < rs.length) (hf : i < fs.length) (c1 : c < (combN rs fs w i).length) (c2 : c < rs[i].length) : (combN rs fs w (i + 1))[c]? = some ((combN rs fs w i)[c] + fs[i] * rs[i][c]) := by
  have g1 : fs.getD i 0 = fs[i] := by rw [List.getD_eq_getElem?_getD, List.getElem?_eq_getElem hf]; rfl
  have g2 : rs.getD i [] = rs[i] := by rw [List.getD_eq_getElem?_getD, List.getElem?_eq_getElem hi]; rfl
  rw [combN, List.getElem?_zipWith, g1, g2, List.getElem?_eq_getElem c1, List.getElem?_eq_getElem c2]
end Z
set_option Elab.async false
set_option linter.all false
set_option maxRecDepth 100000
set_option maxHeartbeats 4000000
namespace Z
open PySem PySem.Spec PyProof.Rows L2
open C8 (pss_cut tCut)
local macro_rules | `(tactic| walk_at "num") => `(tactic| first | omega | decide | exact ⟨by omega, by omega⟩ | exact ⟨by omega, by omega, by omega⟩ | exact ⟨by decide, by decide, by decide⟩ | exact Or.inl ⟨by omega, by omega⟩ | exact Or.inr ⟨by omega, by omega⟩)
local macro_rules | `(tactic| walk_at "go") => `(tactic| repeat (first | refine ⟨_, rfl, ?_⟩ | refine ⟨_, _, rfl, rfl, ?_⟩ | refine ⟨_, _, rfl, rfl, (by walk_at "num"), ?_⟩ | refine Or.inl ⟨_, rfl, ?_⟩ | refine ⟨rfl, ?_⟩ | refine And.intro (by walk_at "num") ?_))
def topS (i : Nat) : Stmt := PySem.Challenge.pw_signedpacts_k73_clear_waves.main.body.getD i (.Pass ⟨0, 0, 0, 0⟩)
abbrev s_cell : Stmt := topS 31
abbrev N_cell : List Str := ["_law_script", "_law_k"]
abbrev P_cell : List Str := ["_law_script", "_law_k"]
theorem sc_cell : FnScope N_cell P_cell (defScope s_cell) := ⟨rfl, rfl, rfl, by decide +kernel, rfl, by decide +kernel, by decide +kernel⟩
abbrev s_draws : Stmt := topS 32
abbrev N_draws : List Str := ["_law_cell_here", "_law_many", "_law_rest", "_law_large", "_law_seed", "_law_found", "_law_k"]
abbrev P_draws : List Str := ["_law_cell_here", "_law_many"]
theorem sc_draws : FnScope N_draws P_draws (defScope s_draws) := ⟨rfl, rfl, rfl, by decide +kernel, rfl, by decide +kernel, by decide +kernel⟩
abbrev s_take : Stmt := topS 33
abbrev N_take : List Str := ["_law_draws_here", "_law_place"]
abbrev P_take : List Str := ["_law_draws_here", "_law_place"]
theorem sc_take : FnScope N_take P_take (defScope s_take) := ⟨rfl, rfl, rfl, by decide +kernel, rfl, by decide +kernel, by decide +kernel⟩
abbrev FnP (K : PySem.W.Frag) (x : Str) (st : Stmt) (f : Addr) (fd : FuncData) : Prop := FunD K x x (defArgs st) (defBody st) (defScope st) [] [] f fd
section
variable {P : Program} {w : World} {K : PySem.W.Frag} {mg : Str → Option Value} {base : Heap} {f : Addr} {fd : FuncData}
theorem cal_of {k : Nat} {x : Str} {st : Stmt} {ps : List Str} {sp : Sp} (F : FnP K x st f fd) (g : mg x = some (.ref f)) (b : Binds K fd ps []) (h : FnOk P w K mg base CX0 k f fd ps sp) : Cal P w K mg base k x sp := ⟨f, fd, ps, h, g, F.kp, b⟩
/-! ### _law_cell -/
def spCell (K : PySem.W.Frag) : Sp := fun vs H Q _ => ∃ (a : Addr) (ns : List Int) (k : Nat), vs = [.ref a, .int (k : Int)] ∧ SqL K H a (ns.map V.int) ∧ Q (.int (ns.getD k 0)) H
theorem ok_cell (F : FnP K "_law_cell" s_cell f fd) (m_len : mg "len" = none) (m_int : mg "int" = none) : FnOk P w K mg base CX0 1 f fd P_cell (spCell K) := by
  refine F.ok sc_cell (fun vs H Q E h => ?_) (fun cdv A outer s H vs Q E hr h => ?_)
  · obtain ⟨a, ns, k, rfl, _⟩ := h
    rfl
  · obtain ⟨a, ns, k, rfl, hS, q⟩ := h
    refine ⟨_, PSs.nox (pss_cons (ps_if (pt_cmpR op_lt (pv 1) (pe_callB call_len_seq (by rfl) m_len PySem.boot_len (pa_cons (pv 0) pa_nil)) (nomark _)) (pss_one (ps_ret (pe_callTy call_int1 (by rfl) m_int (by decide +kernel) (pa_cons (pe_ix ix_list (pv 0) (pv 1) (fun _ _ => rfl)) pa_nil)))) pss_nil)
      (pss_one (ps_ret pe_int))), ?_⟩
    walk_at "go"
    refine ⟨a, _, rfl, .inl hS, ?_⟩
    walk_at "go"
    rw [List.length_map]
    refine ite2 (fun e => ?_) (fun e => ?_)
    · have hk : k < ns.length := by have := of_decide_eq_true e; omega
      walk_at "go"
      refine ⟨a, _, _, _, rfl, rfl, hS, at_map (List.getElem?_eq_getElem hk), ?_⟩
      walk_at "go"
      rw [List.getD_eq_getElem?_getD, List.getElem?_eq_getElem hk] at q
      exact q
    · have hk : ¬ k < ns.length := fun z => e (decide_eq_true (by omega))
      rw [List.getD_eq_getElem?_getD, List.getElem?_eq_none (by omega)] at q
      exact q
/-! ### _law_draws -/
def Dr (n : Nat) (ds : List Int) : Prop := ds.length = n ∧ ∀ d ∈ ds, 0 ≤ d ∧ d < 1000000
def spDraws : Sp := fun vs H Q _ => ∃ (c : Int) (n : Nat), vs = [.int c, .int (n : Int)] ∧ n ≤ 100000 ∧ ∀ p ds, H p = none → Dr n ds → Q (.ref p) (upd H p (.lst (ds.map V.int)))
theorem ok_draws (F : FnP K "_law_draws" s_draws f fd) (m_int : mg "int" = none) (m_abs : mg "abs" = none) (m_range : mg "range" = none) : FnOk P w K mg base CX0 1 f fd P_draws spDraws := by
  refine F.ok sc_draws (fun vs H Q E h => ?_) (fun cdv A outer s H vs Q E hr h => ?_)
  · obtain ⟨c, n, rfl, _⟩ := h
    rfl
  · obtain ⟨c, n, rfl, hn, q⟩ := h
    refine ⟨_, PSs.nox (pss_cons (ps_set (i := 2) sc_draws.nd rfl (by first | exact .inl rfl | exact .inr rfl) (pe_callB call_abs (by rfl) m_abs (by decide +kernel) (pa_cons (pe_callTy call_int1 (by rfl) m_int (by decide +kernel) (pa_cons (pv 0) pa_nil)) pa_nil)))
      (pss_cons (ps_set (i := 3) sc_draws.nd rfl (by first | exact .inl rfl | exact .inr rfl) (pe_cmpR op_ge (pv 2) (pe_op op_pow pe_int pe_int) (nomark _)))
      (pss_cons (ps_set (i := 4) sc_draws.nd rfl (by first | exact .inl rfl | exact .inr rfl) (pe_op op_mod (pe_callTy call_int1 (by rfl) m_int (by decide +kernel) (pa_cons (pv 2) pa_nil)) pe_int))
      (pss_cons (ps_set (i := 5) sc_draws.nd rfl (by first | exact .inl rfl | exact .inr rfl) (pe_lst pa_nil))
      (pss_cons (ps_for PassesOwn.never rfl (pi_range1 (by rfl) m_range (pa_cons (pv 1) pa_nil)) (pg_name (i := 6) sc_draws.nd rfl (by first | exact .inl rfl | exact .inr rfl))
        (pss_cons (ps_set (i := 4) sc_draws.nd rfl (by first | exact .inl rfl | exact .inr rfl) (pe_op op_mod (pe_callTy call_int1 (by rfl) m_int (by decide +kernel) (pa_cons (pe_op op_add (pe_op op_add (pe_op op_mul (pv 4) pe_int) (pe_op op_mul pe_int (pv 6))) pe_int) pa_nil)) pe_int))
      (pss_one (ps_if (PW.pt (pw_and (pt_val (pv 3)) (pw_and1 (pt_cmpR op_gt (pv 2) pe_int (nomark _))))) (pss_cons (ps_expr (pe_bm PySem.F.plainAttrs_list PySem.F.slot_list_append PySem.F.type_list_append mt_append (pv 5) (pa_cons (pe_op op_mod (pe_callTy call_int1 (by rfl) m_int (by decide +kernel) (pa_cons (pv 2) pa_nil)) pe_int) pa_nil)))
      (pss_one (ps_set (i := 2) sc_draws.nd rfl (by first | exact .inl rfl | exact .inr rfl) (pe_op op_fdiv (pv 2) pe_int)))) (pss_one (ps_expr (pe_bm PySem.F.plainAttrs_list PySem.F.slot_list_append PySem.F.type_list_append mt_append (pv 5) (pa_cons (pe_op op_mod (pe_callTy call_int1 (by rfl) m_int (by decide +kernel) (pa_cons (pe_op op_fdiv (pe_op op_mod (pe_callTy call_int1 (by rfl) m_int (by decide +kernel) (pa_cons (pe_op op_add (pe_op op_mul (pv 4) pe_int) (pe_op op_mul pe_int (pv 6))) pa_nil)) pe_int) pe_int) pa_nil)) pe_int) pa_nil))))))))
      (pss_one (ps_ret (pv 5)))))))), ?_⟩
    walk_at "go"
    intro p np
    walk_at "go"
    refine for_gen (n := n) (fun i σ H1 => ∃ (r : Int) (z : Int) (ds : List Int) (v : Option V), 0 ≤ r ∧ 0 ≤ z ∧ z < 2147483647 ∧ Dr i ds ∧ H1 = upd H p (.lst (ds.map V.int)) ∧
      σ = [some (.int c), some (.int (n : Int)), some (.int r), some (.bl (decide ((10 : Int) ^ 18 ≤ (if c < 0 then -c else c)))), some (.int z), some (.ref p), v]) ?_ ?_ ?_ ?_ ?_
    · refine ⟨_, _, [], none, ?_, ?_, ?_, ⟨rfl, fun d hd => nomatch hd⟩, rfl, rfl⟩
      · split <;> omega
      · omega
      · omega
    · intro i σ H1 hi _
      show i < (n : Int).toNat
      omega
    · intro σ H1 _
      show (n : Int).toNat ≤ n
      omega
    · rintro i σ H1 x H' hi ⟨r, z, ds, v, hr0, hz0, hz1, hd, rfl, rfl⟩ ⟨rfl, rfl⟩
      have hlen : (ds.map V.int).length < sizeLine := by
        rw [List.length_map, hd.1]
        exact Nat.lt_of_lt_of_le hi (Nat.le_trans hn (by decide))
      have fin : ∀ (r' z' d : Int) (u : Option V), 0 ≤ r' → 0 ≤ z' → z' < 2147483647 → 0 ≤ d → d < 1000000 → ∃ (r : Int) (z : Int) (es : List Int) (v : Option V), 0 ≤ r ∧ 0 ≤ z ∧ z < 2147483647 ∧ Dr (i + 1) es ∧ upd (upd H p (.lst (ds.map V.int))) p (.lst (ds.map V.int ++ [.int d])) = upd H p (.lst (es.map V.int)) ∧
          [some (.int c), some (.int (n : Int)), some (.int r'), some (.bl (decide ((10 : Int) ^ 18 ≤ (if c < 0 then -c else c)))), some (.int z'), some (.ref p), u] = [some (.int c), some (.int (n : Int)), some (.int r), some (.bl (decide ((10 : Int) ^ 18 ≤ (if c < 0 then -c else c)))), some (.int z), some (.ref p), v] := by
        intro r' z' d u a1 a2 a3 a4 a5
        refine ⟨r', z', ds ++ [d], u, a1, a2, a3, ⟨by rw [List.length_append, hd.1]; rfl, fun x hx => ?_⟩, ?_, rfl⟩
        · rcases List.mem_append.mp hx with h | h
          · exact hd.2 x h
          · rw [List.mem_singleton.mp h]
            exact ⟨a4, a5⟩
        · rw [upd_upd, List.map_append]
          rfl
      walk_at "go"
      refine ite2 (fun e => ?_) (fun e => ?_)
      · walk_at "go"
        refine ite2 (fun e2 => ?_) (fun e2 => ?_)
        · walk_at "go"
          refine ⟨.inl ⟨rfl, _, .inl (.inl upd_same)⟩, ?_⟩
          walk_at "go"
          refine ⟨_, _, _, rfl, rfl, upd_same, hlen, ?_⟩
          walk_at "go"
          exact fin _ _ _ _ (by omega) (by omega) (by omega) (by omega) (by omega)
        · walk_at "go"
          refine ⟨.inl ⟨rfl, _, .inl (.inl upd_same)⟩, ?_⟩
          walk_at "go"
          refine ⟨_, _, _, rfl, rfl, upd_same, hlen, ?_⟩
          walk_at "go"
          exact fin _ _ _ _ (by omega) (by omega) (by omega) (by omega) (by omega)
      · walk_at "go"
        refine ⟨.inl ⟨rfl, _, .inl (.inl upd_same)⟩, ?_⟩
        walk_at "go"
        refine ⟨_, _, _, rfl, rfl, upd_same, hlen, ?_⟩
        walk_at "go"
        exact fin _ _ _ _ (by omega) (by omega) (by omega) (by omega) (by omega)
    · rintro σ H1 ⟨r, z, ds, v, hr0, hz0, hz1, hd, rfl, rfl⟩
      walk_at "go"
      exact q p ds np hd
/-! ### _law_take -/
def spTake (K : PySem.W.Frag) : Sp := fun vs H Q _ => ∃ (a p : Addr) (n m : Nat) (ds : List Int), vs = [.ref a, .ref p] ∧ SqL K H a (ds.map V.int) ∧ Dr n ds ∧ H p = some (.lst [.int (m : Int)]) ∧ a ≠ p ∧ ∀ r : Int, 0 ≤ r → r < 1000000 → Q (.int r) (upd H p (.lst [.int ((m + 1 : Nat) : Int)]))
theorem ok_take (F : FnP K "_law_take" s_take f fd) (m_len : mg "len" = none) : FnOk P w K mg base CX0 1 f fd P_take (spTake K) := by
  refine F.ok sc_take (fun vs H Q E h => ?_) (fun cdv A outer s H vs Q E hr h => ?_)
  · obtain ⟨a, p, n, m, ds, rfl, _⟩ := h
    rfl
  · obtain ⟨a, p, n, m, ds, rfl, hS, hd, hp, ne, q⟩ := h
    refine ⟨_, PSs.nox (pss_cons (ps_asg (pe_op op_add (pe_ix ix_list (pv 1) pe_int (fun _ _ => rfl)) pe_int) (pg_sub (pv 1) pe_int set_list))
      (pss_cons (ps_if (pt_cmpR op_gt (pe_ix ix_list (pv 1) pe_int (fun _ _ => rfl)) (pe_callB call_len_seq (by rfl) m_len PySem.boot_len (pa_cons (pv 0) pa_nil)) (nomark _)) (pss_one (ps_ret pe_int)) pss_nil)
      (pss_one (ps_ret (pe_ix ix_list (pv 0) (pe_op op_sub (pe_ix ix_list (pv 1) pe_int (fun _ _ => rfl)) pe_int) (fun _ _ => rfl)))))), ?_⟩
    have sb : SB p H (upd H p (.lst [.int ((m + 1 : Nat) : Int)])) := SB.upd (Z.Same.sb (Same.refl H))
    have hS' := sb.sq ne hS
    walk_at "go"
    refine ⟨p, _, 0, _, rfl, rfl, SqL.of hp, rfl, ?_⟩
    walk_at "go"
    refine ⟨p, _, 0, 0, rfl, rfl, hp, rfl, ?_⟩
    show tSeq _ _ _ _ (upd H p (.lst [.int ((m : Int) + 1)]))
    rw [show ((m : Int) + 1) = ((m + 1 : Nat) : Int) by omega]
    walk_at "go"
    refine ⟨p, _, 0, _, rfl, rfl, SqL.of upd_same, rfl, ?_⟩
    walk_at "go"
    refine ⟨a, _, rfl, .inl hS', ?_⟩
    walk_at "go"
    rw [List.length_map]
    refine ite2 (fun e => ?_) (fun e => ?_)
    · exact q 0 (by omega) (by omega)
    · have hk : m < ds.length := by
        apply Decidable.byContradiction
        intro z
        exact e (decide_eq_true (by omega))
      walk_at "go"
      refine ⟨p, _, 0, _, rfl, rfl, SqL.of upd_same, rfl, ?_⟩
      walk_at "go"
      refine ⟨a, _, _, _, rfl, rfl, hS', at_of (by omega) (show (ds.map V.int)[m]? = some (.int ds[m]) by rw [List.getElem?_map, List.getElem?_eq_getElem hk]; rfl), ?_⟩
      have h1 := hd.2 ds[m] (List.getElem_mem hk)
      exact q _ h1.1 h1.2
end
end Z
set_option Elab.async false
set_option linter.all false
set_option maxRecDepth 100000
set_option maxHeartbeats 4000000
namespace Z
open PySem PySem.Spec PyProof.Rows L2
/-! ### own classes: making, methods, calls of instances, == -/
structure Mak (P : Program) (w : World) (K : PySem.W.Frag) (mg : Str → Option Value) (base : Heap) (k : Nat) (x : Str) (sp : Sp) : Prop where
  ex : ∃ (C f : Addr) (fd : FuncData) (ps : List Str) (si : Sp), Mk K C f ∧ FnOk P w K mg base CX0 k f fd ps si ∧ mg x = some (.ref C) ∧ Binds K fd ps [] ∧
    ∀ vs H Q E, sp vs H Q E → ∀ n dx, H n = none → H dx = none → dx ≠ n → si (.ref n :: vs) (upd (upd H dx (.own n)) n (.ins C dx [])) (fun v H2 => v = .non ∧ Q (.ref n) H2) E
structure Met (P : Program) (w : World) (K : PySem.W.Frag) (mg : Str → Option Value) (base : Heap) (k : Nat) (C : Addr) (m : Str) (sp : Sp) : Prop where
  ex : ∃ (f : Addr) (fd : FuncData) (ps : List Str), Cls K C ∧ Meth K C m f ∧ FnOk P w K mg base CX0 k f fd ps sp ∧ Binds K fd ps []
section
variable {X : Cx} {k j : Nat} {x m : Str} {sp : Sp} {C : Addr} {p pos apos : Pos} {e o : Expr} {es : List Expr} {t : TA} {ta : TE}
theorem pe_mk (c : Mak X.prog X.w X.K X.mg X.base k x sp) (hr : Room j X.A) (hk : k + 1 ≤ j) (hg : Gl X x) (ha : PA X (e :: es) t)
    (hdb : (x == ("__debug__" : Str)) = false := by decide) (he : starEach (e :: es) X.env = (false, eval e X.env) :: starEach es X.env := by rfl) (hpl : (backTo pos (starEach es X.env)).any (·.1) = false := by rfl) : PE X (.Call (.Name x p) (e :: es) [] pos) (tCall sp [] E0 t) := by
  obtain ⟨C, f, fd, ps, si, M, F, hm, b, imp⟩ := c.ex
  constructor
  intro pins s σ H Q I h
  refine wpAny_Call_Name_kw (ld_glob I hg hm ?_ hdb)
  refine PySem.W.callWith_K (h₀ := X.base) I.ok.mod.kin M.kp (thn (ha.run pos pins s σ H _ I h) fun us s1 ⟨vs, H1, I1, r, q⟩ => ⟨I1.kIn, ?_⟩) he hpl
  have q2 : sp vs H1 Q E0 := by
    have z : sp (vs ++ []) H1 Q E0 := q
    rw [List.append_nil] at z
    exact z
  refine run_make (dvs := []) M F (hr.mono hk) b .nil pass0 I1 r (fun n dx n1 n2 n3 => ?_)
  rw [List.append_nil]
  exact imp _ _ _ _ q2 n dx n1 n2 n3
theorem pe_me {pl : Sem Bool} (c : Met X.prog X.w X.K X.mg X.base k C m sp) (he : PE X o ta) (hr : Room j X.A) (hk : k ≤ j) (ha : PA X (e :: es) t)
    (hst : starEach (e :: es) X.env = (false, eval e X.env) :: starEach es X.env := by rfl) (hpl : (backTo pos (starEach es X.env)).any (·.1) = false := by rfl)
    (ht : eval (.Call (.Attribute o m apos) (e :: es) [] pos) X.env = (do
      let ov ← eval o X.env
      standAt apos.atName
      let (f, first) ← holding [ov] (getMethod ov m pl)
      callWith pos f first (backTo pos (starEach (e :: es) X.env)) (backToKw pos (keywordEach [] X.env))) := by rfl) : PE X (.Call (.Attribute o m apos) (e :: es) [] pos) (tMeth C m sp [] E0 ta t) := by
  obtain ⟨f, fd, ps, cl, me, F, b⟩ := c.ex
  exact pe_meth he cl me F (hr.mono hk) b .nil pass0 ha hst hpl ht
theorem pe_me0 {pl : Sem Bool} (c : Met X.prog X.w X.K X.mg X.base k C m sp) (he : PE X o ta) (hr : Room j X.A) (hk : k ≤ j)
    (ht : eval (.Call (.Attribute o m apos) [] [] pos) X.env = (do
      let ov ← eval o X.env
      standAt apos.atName
      let (f, first) ← holding [ov] (getMethod ov m pl)
      callWith pos f first (backTo pos (starEach [] X.env)) (backToKw pos (keywordEach [] X.env))) := by rfl) : PE X (.Call (.Attribute o m apos) [] [] pos) (tMeth C m sp [] E0 ta tNil) := by
  obtain ⟨f, fd, ps, cl, me, F, b⟩ := c.ex
  exact pe_meth0 he cl me F (hr.mono hk) b .nil pass0 ht
end
/-! ### f(e, ..), f an instance of C -/
structure Cob (P : Program) (w : World) (K : PySem.W.Frag) (mg : Str → Option Value) (base : Heap) (k : Nat) (C : Addr) (sp : Sp) : Prop where
  ex : ∃ g : Addr, StX.CallO K C g ∧ FnR P w K mg base CX0 k g sp
def tCo (C : Addr) (sp : Sp) (tf : TE) (t : TA) : TE := fun σ H Q => tf σ H fun y H1 => ∃ a, y = V.ref a ∧ t σ H1 fun vs H2 => (∃ dx fs, H2 a = some (.ins C dx fs)) ∧ sp (V.ref a :: vs) H2 Q E0
section
variable {X : Cx} {k j : Nat} {sp : Sp} {C : Addr} {pos : Pos} {e fe : Expr} {es : List Expr} {t : TA} {tf : TE}
theorem pe_co (c : Cob X.prog X.w X.K X.mg X.base k C sp) (hf : PE X fe tf) (hr : Room j X.A) (hk : k ≤ j) (ha : PA X (e :: es) t)
    (ht : eval (.Call fe (e :: es) [] pos) X.env = (do callWith pos (← eval fe X.env) [] (backTo pos (starEach (e :: es) X.env)) (backToKw pos (keywordEach [] X.env))) := by rfl)
    (he : starEach (e :: es) X.env = (false, eval e X.env) :: starEach es X.env := by rfl) (hpl : (backTo pos (starEach es X.env)).any (·.1) = false := by rfl) : PE X (.Call fe (e :: es) [] pos) (tCo C sp tf t) := by
  obtain ⟨g, co, F⟩ := c.ex
  constructor
  intro pins s σ H Q I h
  refine Call_ (thn (hf.run pins s σ H _ I h) fun u s1 ⟨y, H1, I1, ry, a, ey, q⟩ => ?_) ht
  subst ey
  obtain rfl : u = Value.ref a := ry
  refine StX.callO_with (thn (ha.run pos pins s1 σ H1 _ I1 q) fun us s2 ⟨vs, H2, I2, r, hi, q2⟩ => ?_) he hpl
  have hi2 : StX.InsC X H2 a C := .inr hi
  obtain ⟨ox, od, J, hd⟩ := StX.insC_at I2 hi2
  exact ⟨⟨C, ox, od, J, hd⟩, StX.run_callO co F (hr.mono hk) pass0 I2 hi2 r q2⟩
end
/-! ### a == b by the class's own __eq__ -/
structure Eqo (P : Program) (w : World) (K : PySem.W.Frag) (mg : Str → Option Value) (base : Heap) (k : Nat) (C : Addr) (sp : Sp) : Prop where
  ex : ∃ (f : Addr) (fd : FuncData) (ps : List Str), FnOk P w K mg base CX0 k f fd ps sp ∧ PySem.W.findIn K (.ref C) "__eq__" = some (some (.ref f)) ∧ PySem.W.isFn K (.ref f) = true ∧ Binds K fd ps []
def rOwn (C : Addr) (sp : Sp) : R2 := fun x y H Q => ∃ a b dx dy fs gs, x = .ref a ∧ y = .ref b ∧ H a = some (.ins C dx fs) ∧ H b = some (.ins C dy gs) ∧ sp [.ref a, .ref b] H (fun v H' => ∃ r, v = .bl r ∧ Q v H') E0
theorem op_own {X : Cx} {k j : Nat} {C : Addr} {sp : Sp} (c : Eqo X.prog X.w X.K X.mg X.base k C sp) (hr : Room j X.A) (hk : k ≤ j) : OpR X (compareOp .Eq) (rOwn C sp) := by
  intro pins s σ H x y v u Q I rx ry hq
  obtain ⟨f, fd, ps, F, hs, hf, hb⟩ := c.ex
  obtain ⟨a, b, dx, dy, fs, gs, rfl, rfl, ha, hb', q⟩ := hq
  cases rx
  cases ry
  obtain ⟨mA, J, _⟩ := ins_get I.hok ha
  obtain ⟨mB, J', _⟩ := ins_get I.hok hb'
  obtain ⟨od, J, _⟩ := J.look
  obtain ⟨od', J', _⟩ := J'.look
  obtain ⟨m, hF⟩ := I.fr
  show wpAny (model X.prog X.w) X.A (richCompare .Eq (Value.ref a) (Value.ref b)) (EP X pins σ Q) X.xe s
  refine PySem.W.cmp_K (op := .Eq) (tb := .ref C) (hr.mono hk).units0 hF I.ok.mod.kin J J'.type (by simp [PySem.W.notFirst]) hs hf ?_
  have r2 : Vals [V.ref a, V.ref b] [Value.ref a, Value.ref b] := .cons rfl (.cons rfl .nil)
  refine thn (run_fn (dvs := []) F (hr.mono hk) hb .nil pass0 I r2 q) fun r s' z => ?_
  obtain ⟨v, H', I', rv, b', rfl, q'⟩ := z
  cases rv
  exact ⟨.bl b', H', I', rfl, q'⟩
end Z
set_option Elab.async false
set_option linter.all false
set_option maxRecDepth 100000
set_option maxHeartbeats 4000000
namespace Z
open PySem PySem.Spec PyProof.Rows L2
/-! ### comprehensions that give ints, over a list of ints and over a range -/
theorem lc_ofs {K : PySem.W.Frag} {J : It} {D : Addr} {n : Nat} {H0 : Hp} {i : Nat} {te : TE} {vs : List Nat} {σ : L2.St} {Qd : Hp → Prop} (g : Nat → Int) (xv : Nat → V) (hn : n ≤ 1000000) (nD : H0 D = none)
    (hgo : ∀ k H1, k < n → Same H0 H1 → J.go k H1) (hst : ∀ H1, Same H0 H1 → J.stop n H1) (hy : ∀ k H1 x H2, k < n → Same H0 H1 → J.yld k H1 x H2 → H2 = H1 ∧ x = xv k)
    (hw : ∀ k, wipe ((wipe σ vs).set i (some (xv k))) vs = wipe σ vs)
    (ht : ∀ k H1 (Q : VK), k < n → Same H0 H1 → (∀ H2, Same H1 H2 → Q (.int (g k)) H2) → te ((wipe σ vs).set i (some (xv k))) H1 Q)
    (hd : ∀ H1, Same H0 H1 → H1 D = some (.lst (((List.range n).map g).map V.int)) → Qd H1) : lcW J (gName i) tYes te vs σ D Qd H0 := by
  refine lc_gen (n := n) (fun k H1 => Same H0 H1 ∧ H1 D = some (.lst (((List.range k).map g).map V.int))) ⟨same_new nD, upd_same⟩ (fun k H1 hk p => hgo k H1 hk p.1) (fun H1 p => hst H1 p.1) ?_ (fun H1 p => hd H1 p.1 p.2)
  rintro k H1 x H2 hk ⟨s, e⟩ y
  obtain ⟨rfl, rfl⟩ := hy k H1 x H2 hk s y
  refine ⟨hw k, ?_⟩
  refine ht k _ _ hk s (fun H3 s3 => ⟨_, s3 _ _ e, ?_, Z.Same.mut (s.trans s3) nD, ?_⟩)
  · rw [List.length_map, List.length_map, List.length_range]
    exact Nat.lt_of_lt_of_le hk (Nat.le_trans hn (by decide))
  · rw [upd_same, List.range_succ, List.map_append, List.map_append]
    rfl
theorem lc_rng {K : PySem.W.Frag} {lo : Int} {D : Addr} {n : Nat} {H0 : Hp} {i : Nat} {te : TE} {vs : List Nat} {σ : L2.St} {Qd : Hp → Prop} (g : Nat → Int) (hn : n ≤ 1000000) (nD : H0 D = none) (hw : ∀ k : Nat, wipe ((wipe σ vs).set i (some (.int (lo + k)))) vs = wipe σ vs)
    (ht : ∀ (k : Nat) H1 (Q : VK), k < n → Same H0 H1 → (∀ H2, Same H1 H2 → Q (.int (g k)) H2) → te ((wipe σ vs).set i (some (.int (lo + k)))) H1 Q)
    (hd : ∀ H1, Same H0 H1 → H1 D = some (.lst (((List.range n).map g).map V.int)) → Qd H1) : lcW (Itr lo n) (gName i) tYes te vs σ D Qd H0 :=
  lc_ofs (K := K) g (fun k => .int (lo + k)) hn nD (fun k H1 hk _ => hk) (fun H1 _ => Nat.le_refl _) (fun k H1 x H2 _ _ y => y) hw ht hd
theorem lc_lst {K : PySem.W.Frag} {a D : Addr} {xs : List Int} {H0 : Hp} {i : Nat} {te : TE} {vs : List Nat} {σ : L2.St} {Qd : Hp → Prop} (hS : SqL K H0 a (xs.map V.int)) (g : Int → Int) (hn : xs.length ≤ 1000000) (nD : H0 D = none) (hw : ∀ x : Int, wipe ((wipe σ vs).set i (some (.int x))) vs = wipe σ vs)
    (ht : ∀ x H1 (Q : VK), x ∈ xs → Same H0 H1 → (∀ H2, Same H1 H2 → Q (.int (g x)) H2) → te ((wipe σ vs).set i (some (.int x))) H1 Q)
    (hd : ∀ H1, Same H0 H1 → H1 D = some (.lst ((xs.map g).map V.int)) → Qd H1) : lcW (Itl K a) (gName i) tYes te vs σ D Qd H0 := by
  have ex : ∀ k, k < xs.length → (xs.map V.int)[k]? = some (.int (xs.getD k 0)) := fun k hk => by
    rw [List.getElem?_map, List.getD_eq_getElem?_getD, List.getElem?_eq_getElem hk]
    rfl
  refine lc_ofs (K := K) (n := xs.length) (fun k => g (xs.getD k 0)) (fun k => .int (xs.getD k 0)) hn nD (fun k H1 hk s => ⟨_, _, s.seq hS, ex k hk⟩) (fun H1 s => ⟨_, s.seq hS, by rw [List.length_map]; exact Nat.le_refl _⟩) (fun k H1 x H2 hk s y => ⟨y.1, Option.some.inj ((y.2 _ (s.seq hS)).symm.trans (ex k hk))⟩) (fun k => hw _) (fun k H1 Q hk s q => ht _ H1 Q ?_ s q) (fun H1 s e => hd H1 s ?_)
  · rw [List.getD_eq_getElem?_getD, List.getElem?_eq_getElem hk]
    exact List.getElem_mem hk
  · rw [e]
    congr 2
    congr 1
    apply List.ext_getElem
    · rw [List.length_map, List.length_map, List.length_range]
    · intro k h1 h2
      rw [List.length_map] at h2
      rw [List.getElem_map, List.getElem_map, List.getElem_range, List.getD_eq_getElem?_getD, List.getElem?_eq_getElem h2]
      rfl
/-- for x in xs, ints -/
theorem for_lst {K : PySem.W.Frag} {a : Addr} {xs : List Int} {H0 H : Hp} {i : Nat} {tb : TS} {D : Ends} {σ : L2.St} (hS : SqL K H0 a (xs.map V.int)) (Pv : Nat → L2.St → Hp → Prop) (h0 : Pv 0 σ H) (hq : ∀ k σ H1, Pv k σ H1 → Same H0 H1)
    (hs : ∀ (k : Nat) (x : Int) (σ : L2.St) (H1 : Hp), xs[k]? = some x → Pv k σ H1 → tb { D with nx := Pv (k + 1), ct := Pv (k + 1), bk := D.nx } (σ.set i (some (.int x))) H1)
    (hd : ∀ σ H1, Pv xs.length σ H1 → D.nx σ H1) : forW (Itl K a) (gName i) tb D σ H := by
  have ex : ∀ k, k < xs.length → (xs.map V.int)[k]? = some (.int (xs.getD k 0)) := fun k hk => by
    rw [List.getElem?_map, List.getD_eq_getElem?_getD, List.getElem?_eq_getElem hk]
    rfl
  refine for_gen (n := xs.length) Pv h0 (fun k σ H1 hk p => ⟨_, _, (hq k σ H1 p).seq hS, ex k hk⟩) (fun σ H1 p => ⟨_, (hq _ σ H1 p).seq hS, by rw [List.length_map]; exact Nat.le_refl _⟩) ?_ hd
  intro k σ H1 x H2 hk p y
  obtain ⟨rfl, e⟩ := y
  have e2 := Option.some.inj ((e _ ((hq k σ _ p).seq hS)).symm.trans (ex k hk))
  subst e2
  refine hs k _ σ _ ?_ p
  rw [List.getD_eq_getElem?_getD, List.getElem?_eq_getElem hk]
  rfl
/-- for x in xs, any values -/
theorem for_vs {K : PySem.W.Frag} {a : Addr} {xs : List V} {H0 H : Hp} {i : Nat} {tb : TS} {D : Ends} {σ : L2.St} (hS : SqL K H0 a xs) (Pv : Nat → L2.St → Hp → Prop) (h0 : Pv 0 σ H) (hq : ∀ k σ H1, Pv k σ H1 → Same H0 H1)
    (hs : ∀ (k : Nat) (x : V) (σ : L2.St) (H1 : Hp), xs[k]? = some x → Pv k σ H1 → tb { D with nx := Pv (k + 1), ct := Pv (k + 1), bk := D.nx } (σ.set i (some x)) H1)
    (hd : ∀ σ H1, Pv xs.length σ H1 → D.nx σ H1) : forW (Itl K a) (gName i) tb D σ H := by
  refine for_gen (n := xs.length) Pv h0 (fun k σ H1 hk p => ⟨_, _, (hq k σ H1 p).seq hS, List.getElem?_eq_getElem hk⟩) (fun σ H1 p => ⟨_, (hq _ σ H1 p).seq hS, Nat.le_refl _⟩) ?_ hd
  intro k σ H1 x H2 hk p y
  obtain ⟨rfl, e⟩ := y
  exact hs k x σ _ (e _ ((hq k σ _ p).seq hS)) p
theorem pe_fld_K {X : Cx} {K : PySem.W.Frag} {e : Expr} {f : Str} {pos : Pos} {ta : TE} (h : X.K = K) (he : PE X e ta) (hb : attributeBase e f X.env (eval e X.env) = eval e X.env) : PE X (.Attribute e f pos) (tFld K ta f) := by
  subst h
  exact pe_fld he hb
/-! ### reads -/
theorem at_nat {xs : List Int} {i : Int} (h0 : 0 ≤ i) (h1 : i < xs.length) : atI (xs.map V.int) i = some (.int (xs.getD i.toNat 0)) := by
  have hk : i.toNat < xs.length := by omega
  rw [show i = ((i.toNat : Nat) : Int) by omega, List.getD_eq_getElem?_getD, Int.toNat_natCast, List.getElem?_eq_getElem hk]
  exact at_map (List.getElem?_eq_getElem hk)
theorem rd_at {K : PySem.W.Frag} {H : Hp} {a : Addr} {xs : List Int} {i : Int} {R : V → Prop} (h : SqL K H a (xs.map V.int)) (h0 : 0 ≤ i) (h1 : i < xs.length) (q : R (.int (xs.getD i.toNat 0))) : ∃ a' ys j v, V.ref a = .ref a' ∧ V.int i = .int j ∧ SqL K H a' ys ∧ atI ys j = some v ∧ R v := ⟨a, _, i, _, rfl, rfl, h, at_nat h0 h1, q⟩
theorem rd_atT {K : PySem.W.Frag} {H : Hp} {a : Addr} {xs : List Int} {i : Int} {R : V → Prop} (h : SqT K H a (xs.map V.int)) (h0 : 0 ≤ i) (h1 : i < xs.length) (q : R (.int (xs.getD i.toNat 0))) : ∃ a' ys j v, V.ref a = .ref a' ∧ V.int i = .int j ∧ SqT K H a' ys ∧ atI ys j = some v ∧ R v := ⟨a, _, i, _, rfl, rfl, h, at_nat h0 h1, q⟩
end Z
set_option Elab.async false
set_option linter.all false
set_option maxRecDepth 100000
set_option maxHeartbeats 4000000
namespace Z
open PySem PySem.Spec PyProof.Rows L2
/-! ### enumerate(x) of one argument: x a list, a tuple or a text -/
theorem enum_new1 {v : Value} {o : Obj} {G : Heap → Prop} (B : Begins v o G) :
    Meets (Builtin.«enumerate.__new__» ⟨[.type "enumerate", v], []⟩) (fun _ R s => G s.heap ∧
      R (.ok (.ret (.ref (s.heap.push o).objs.size))) { s with heap := (s.heap.push o).push { cls := .type "enumerate", data := .fields #[.none, .bool false, .ref s.heap.objs.size, rawInt 0, .none, .none] } }) :=
  .of_wp fun prog w A R s h => by
    obtain ⟨hp, gl, dd, tok, oo⟩ := s
    obtain ⟨g1, h⟩ := h
    have hsub := sub_enumerate
    have step : ∀ {A' : Around} {E : Value → Shared → Prop} {Q : Value → Shared → Prop}, Q (.ref hp.objs.size) ⟨hp.push o, gl, dd, tok, oo⟩ → wpAny (model prog w) A' (pyIter v) Q E ⟨hp, gl, dd, tok, oo⟩ := fun z => B.iter prog w _ _ ⟨hp, gl, dd, tok, oo⟩ _ g1 z
    wp_walk using step
    refine wpAny_stack_any fun _ => wpAny_pure ?_
    split
    · rename_i cc _ _ _ _ _
      cases (cc == Value.type "enumerate") <;>
        (wp_walk using step
         exact ⟨_, rfl, h⟩)
    · wp_walk using step
      exact ⟨_, rfl, h⟩
section
variable {prog : Program} {w : World} {A : Around} {E : Value → Shared → Prop} {s : Shared}
theorem enum_begins1 {v : Value} {o : Obj} {G : Heap → Prop} {Q : Value → Shared → Prop} (B : Begins v o G) (g : G s.heap)
    (h : ∀ h', IsEnum h' (s.heap.objs.size + 1) s.heap.objs.size 0 .none → h'.get? s.heap.objs.size = some o → (∀ b ob, s.heap.get? b = some ob → h'.get? b = some ob) → Q (.ref (s.heap.objs.size + 1)) { s with heap := h' }) :
    wpAny (model prog w) A (call (.type "enumerate") [v]) Q E s := by
  refine callType_new F.called_enumerate (by decide) (F.typeCall_enumerate_1 v) (F.newCall_enumerate_1 v) (fun ob => F.args_object_init_2 ob _) F.entry_enumerate_new (enum_new1 B) ⟨g, ?_⟩
  have sz : (s.heap.push o).objs.size = s.heap.objs.size + 1 := Heap.size_push ..
  show _ ∧ _
  rw [sz]
  have ie : IsEnum ((s.heap.push o).push { cls := .type "enumerate", data := .fields #[.none, .bool false, .ref s.heap.objs.size, rawInt 0, .none, .none] }) (s.heap.objs.size + 1) s.heap.objs.size 0 .none := by
    have z := Heap.get?_push_size (s.heap.push o) (o := { cls := .type "enumerate", data := .fields #[.none, .bool false, .ref s.heap.objs.size, rawInt 0, .none, .none] }) rfl
    rw [sz] at z
    exact z
  exact ⟨⟨_, ie, rfl⟩, h _ ie (Heap.get?_push_of_some _ (Heap.get?_push_size _ B.free)) fun b ob z => Heap.get?_push_of_some _ (Heap.get?_push_of_some _ z)⟩
end
/-- pairs of a turn's number and its item -/
def ItEM (p : Bool) (K : PySem.W.Frag) (a : Addr) : It :=
  ⟨fun i H => ∃ (xs : List V) (x : V), SqK p K H a xs ∧ xs[i]? = some x,
   fun i H v H' => ∃ T x, v = .ref T ∧ H T = none ∧ H' = upd H T (.tup [.int (i : Nat), x]) ∧ (∀ xs, SqK p K H a xs → xs[i]? = some x),
   fun i H => ∃ xs : List V, SqK p K H a xs ∧ xs.length = i⟩
def ItES (z : Str) : It :=
  ⟨fun i _ => i < z.cps.size,
   fun i H v H' => ∃ T c, v = .ref T ∧ H T = none ∧ H' = upd H T (.tup [.int (i : Nat), .str ⟨#[c]⟩]) ∧ z.cps[i]? = some c,
   fun i _ => z.cps.size = i⟩
theorem enum_item {X : Cx} {pins : List (Addr × Obj)} {σ : L2.St} {H : Hp} {s : Shared} {e it : Addr} {fp : List Addr} {n i : Nat} {Pi : Nat → Value → Prop} {Si : Nat → Heap → Prop} {old : Value} {elts : List Expr} {kk : Nat} {tpos : Pos} {E : Value → Shared → Prop}
    (I : Inv X pins σ H s) (hf : ∀ b ∈ [e, it], FpOk X pins H b) (D : Draws X.prog X.w X.A.in1 it fp n Pi Si) (he : IsEnum s.heap e it ((i : Nat) : Int) old) (st : Si i s.heap) (lt : i < n) (ne : e ≠ it) (ef : e ∉ fp)
    (x : V) (ru : ∀ v, Pi i v → L2.RelV x v) :
    wpAny (model X.prog X.w) X.A (pyNext (.ref e)) (fun r s1 => ∃ u, r = some u ∧ wpAny (model X.prog X.w) X.A (letOwnedTupleGo (.Tuple elts kk tpos) (.ref e) u) (fun _ s2 => ∃ T, u = .ref T ∧ H T = none ∧ Inv X pins σ (upd H T (.tup [.int (i : Nat), x])) s2 ∧ (∃ o, IsEnum s2.heap e it ((i + 1 : Nat) : Int) o) ∧ Si (i + 1) s2.heap ∧ ∀ b ∈ [e, it], upd H T (.tup [.int (i : Nat), x]) b = none) E s1) E s := by
  have el : e < s.heap.objs.size := Heap.lt_size he
  have il : it < s.heap.objs.size := by
    obtain ⟨_, z⟩ := D.live _ _ st
    exact Heap.lt_size z
  refine wpAny_pyNext_enum_itemC D he st lt ne ef fun v g tk pv go st' gT gs gk => ?_
  refine ⟨_, rfl, wpAny_letOwnedTupleGo_enum (s := { s with heap := g, toks := tk + 1 }) go fun g2 ge sb => ?_⟩
  have gT2 : g2.get? s.heap.objs.size = some { cls := .type "tuple", data := .seq #[.int i tk, v] } := (sb.2 _ (Nat.ne_of_gt el)).trans gT
  have nw : ObjOk X.prog X.w (upd H s.heap.objs.size (.tup [.int (i : Nat), x])) g2 s.heap.objs.size (.tup [.int (i : Nat), x]) := ⟨by show 2 ≤ sizeLine; decide, [.int i tk, v], .cons ⟨tk, rfl⟩ (.cons (ru v pv) .nil), ⟨_, gT2, rfl, _, rfl⟩⟩
  have I1 : Inv X pins σ (upd H s.heap.objs.size (.tup [.int (i : Nat), x])) { s with heap := g2, toks := tk + 1 } :=
    I.turnedNew (t' := tk + 1) (ch := [e, it]) (fun b ob nb z => (sb.2 b (fun w => nb (by simp [w]))).trans (gk b ob (fun w => nb (by simp [w])) (fun w => nb (by simp [w])) z)) hf (Nat.le_refl _) nw
  refine ⟨_, rfl, I.hok.fresh (Nat.le_refl _), I1, ⟨v, ?_⟩, D.frame _ _ _ st' fun b hb o z => (sb.2 b fun w => ef (w ▸ hb)).trans z, fun b hb => ?_⟩
  · rw [show ((i + 1 : Nat) : Int) = (i : Int) + 1 by omega]
    exact ge
  · have lb : b < s.heap.objs.size := by
      rcases (show b = e ∨ b = it by simpa using hb) with z | z
      · rw [z]
        exact el
      · rw [z]
        exact il
    rw [upd_ne (Nat.ne_of_lt lb)]
    exact (hf b hb).1
theorem enum_done {X : Cx} {pins : List (Addr × Obj)} {σ : L2.St} {H : Hp} {s : Shared} {e it : Addr} {fp : List Addr} {n : Nat} {Pi : Nat → Value → Prop} {Si : Nat → Heap → Prop} {old : Value} {c : Int} {E : Value → Shared → Prop}
    (I : Inv X pins σ H s) (hf : ∀ b ∈ [e, it], FpOk X pins H b) (D : Draws X.prog X.w X.A.in1 it fp n Pi Si) (he : IsEnum s.heap e it c old) (st : Si n s.heap) :
    wpAny (model X.prog X.w) X.A (pyNext (.ref e)) (fun r s1 => r = none ∧ Inv X pins σ H s1) E s := by
  obtain ⟨f0, f1, f2, f3, f4, f5⟩ := hf it (by simp)
  exact wpAny_pyNext_enum_endD D he st fun g gk => ⟨rfl, I.turned (t' := s.toks) (fun b o hb z => gk b o hb z) f0 f1 f3 f4 f5⟩
theorem turn_enumM {p : Bool} {P : Program} {w : World} {K : PySem.W.Frag} {elts : List Expr} {kk : Nat} {tpos : Pos} (a e it : Addr) (ea : e ≠ a) (ia : a ≠ it) :
    Turn P w K (.Tuple elts kk tpos) (ItEM p K a) [e, it] e (fun i h => (∃ old, IsEnum h e it ((i : Nat) : Int) old) ∧ ItK p h it a i ∧ e ≠ it) where
  mem := by simp
  obj := fun i h st b hb => by
    obtain ⟨⟨old, he⟩, hi, _⟩ := st
    rcases (show b = e ∨ b = it by simpa using hb) with z | z
    · rw [z]
      exact ⟨_, he, fun v q => nomatch q⟩
    · rw [z]
      exact hi.obj
  keep := fun i h h' st k => by
    obtain ⟨⟨old, he⟩, hi, ne⟩ := st
    exact ⟨⟨old, k e (by simp) _ he⟩, hi.at' (fun o z => k it (by simp) o z), ne⟩
  item := by
    intro X hP hw hK hc i pins s σ H E I hf st hg
    subst hP hw hK
    obtain ⟨⟨old, he⟩, hi, ne⟩ := st
    obtain ⟨xs, x, qx, ex⟩ := hg
    obtain ⟨us, rx, kx, _⟩ := sqk_is I qx
    obtain ⟨u, eu, ru⟩ := rx.get ex
    have lu : i < us.toArray.size := by simpa using (List.getElem?_eq_some_iff.mp eu).1
    have hh : X.A.in1.handled = none := I.ok.hd hc
    have key : ∀ v, us.toArray[i]? = some v → L2.RelV x v := fun v pv => by
      have t1 : us.toArray[i]? = some u := by simpa using eu
      have t2 : u = v := Option.some.inj (t1.symm.trans pv)
      exact t2 ▸ ru
    refine thn (enum_item (elts := elts) (kk := kk) (tpos := tpos) (E := E) I hf (drawsK p hh it a ia us.toArray) he ⟨hi, kx⟩ lu ne (by simp [ne, ea]) x key) fun r s1 hr => ?_
    obtain ⟨v, er, hv⟩ := hr
    refine ⟨v, er, thn hv fun _ s2 z => ?_⟩
    obtain ⟨T, eT, nT, I2, ie, si, fr⟩ := z
    subst eT
    exact ⟨.ref T, _, I2, rfl, ⟨T, x, rfl, nT, rfl, fun l hl => by rw [sqk_inj I hl qx]; exact ex⟩, ⟨ie, si.1, ne⟩, fr⟩
  done := by
    intro X hP hw hK hc i pins s σ H E I hf st hg
    subst hP hw hK
    obtain ⟨⟨old, he⟩, hi, ne⟩ := st
    obtain ⟨xs, qx, el⟩ := hg
    obtain ⟨us, rx, kx, _⟩ := sqk_is I qx
    have lx := rx.length
    have hh : X.A.in1.handled = none := I.ok.hd hc
    have hn : us.toArray.size = i := by
      rw [List.size_toArray]
      omega
    exact enum_done I hf (drawsK p hh it a ia us.toArray) he (by rw [hn]; exact ⟨hi, kx⟩)
  self := fun A i s Q E st h => by
    obtain ⟨⟨_, he⟩, _⟩ := st
    exact wpAny_pyIter_enum he h
def iEnumM (K : PySem.W.Frag) (ta : TA) : TI := fun σ H R => ta σ H fun vs H1 => ∃ p a xs, vs = [.ref a] ∧ SqK p K H1 a xs ∧ R (ItEM p K a) H1
theorem pi_enumM {X : Cx} {e : Expr} {ta : TA} {p pos tpos : Pos} {elts : List Expr} {kk : Nat} (hg : Gl X "enumerate") (hm : X.mg "enumerate" = none) (ha : PA X [e] ta) (hs : starEach [e] X.env = [(false, eval e X.env)] := by rfl) :
    PI X (.Tuple elts kk tpos) (.Call (.Name "enumerate" p) [e] [] pos) (iEnumM X.K ta) := by
  constructor
  intro pins s σ H R I h
  refine Call_ (ld_blt I hg hm PyProof.Rows.boot_enumerate (PyProof.Rows.callWith_type1 (thn (ha.run pos pins s σ H _ I h) fun us s1 ⟨vs, H1, I1, r1, q1⟩ => ?_) hs rfl))
  obtain ⟨k1, a, xs, ex, qx, q⟩ := q1
  subst ex
  cases r1 with
  | cons r rr =>
    cases rr
    cases r
    obtain ⟨i1, _, p1, lt1⟩ := sqk_is I1 qx
    obtain ⟨o1, G1, B1, g1, w1⟩ := begK p1
    refine enum_begins1 B1 g1 fun h' he e1 hk => wpAny_pyIter_enum he ?_
    have I2 : Inv X pins σ H1 { s1 with heap := h' } := I1.kept (t' := s1.toks) hk
    refine ⟨s1.heap.objs.size + 1, [s1.heap.objs.size + 1, s1.heap.objs.size], _, _, H1, rfl, I2, turn_enumM a (s1.heap.objs.size + 1) s1.heap.objs.size (Nat.ne_of_gt (Nat.lt_succ_of_lt lt1)) (Nat.ne_of_lt lt1), ⟨⟨.none, he⟩, w1 _ _ e1, Nat.succ_ne_self _⟩, fun b hb => ?_, q⟩
    have lb : s1.heap.objs.size ≤ b := by
      rcases (show b = s1.heap.objs.size + 1 ∨ b = s1.heap.objs.size by simpa using hb) with z | z
      · rw [z]
        exact Nat.le_add_right _ _
      · rw [z]
        exact Nat.le_refl _
    exact I1.fpOk lb (I1.hok.fresh lb)
/-! over a text -/
theorem drawsS {prog : Program} {w : World} {A : Around} (hh : A.handled = none) (it : Addr) (z : Str) (t : Tok) :
    Draws prog w A it [it] z.cps.size (fun i v => ∃ c u, z.cps[i]? = some c ∧ v = .str ⟨#[c]⟩ u) (fun i h => h.IsStrIter it (strIterType z) z t i) := by
  unfold strIterType
  cases z.cps.all (· < 128)
  · exact Draws.strWide hh it z t
  · exact Draws.strAscii hh it z t
theorem turn_enumS {P : Program} {w : World} {K : PySem.W.Frag} {elts : List Expr} {kk : Nat} {tpos : Pos} (z : Str) (t : Tok) (e it : Addr) :
    Turn P w K (.Tuple elts kk tpos) (ItES z) [e, it] e (fun i h => (∃ old, IsEnum h e it ((i : Nat) : Int) old) ∧ h.IsStrIter it (strIterType z) z t i ∧ e ≠ it) where
  mem := by simp
  obj := fun i h st b hb => by
    obtain ⟨⟨old, he⟩, ⟨o, eo, _, d⟩, _⟩ := st
    rcases (show b = e ∨ b = it by simpa using hb) with y | y
    · rw [y]
      exact ⟨_, he, fun v q => nomatch q⟩
    · rw [y]
      exact ⟨o, eo, fun v q => by rw [d] at q; cases q⟩
  keep := fun i h h' st k => by
    obtain ⟨⟨old, he⟩, ⟨o, eo, r⟩, ne⟩ := st
    exact ⟨⟨old, k e (by simp) _ he⟩, ⟨o, k it (by simp) o eo, r⟩, ne⟩
  item := by
    intro X hP hw hK hc i pins s σ H E I hf st hg
    subst hP hw hK
    obtain ⟨⟨old, he⟩, hi, ne⟩ := st
    have lt : i < z.cps.size := hg
    have hh : X.A.in1.handled = none := I.ok.hd hc
    have ec : z.cps[i]? = some z.cps[i] := Array.getElem?_eq_getElem lt
    refine thn (enum_item (elts := elts) (kk := kk) (tpos := tpos) (E := E) I hf (drawsS hh it z t) he hi lt ne (by simp [ne]) (.str ⟨#[z.cps[i]]⟩) (fun v pv => ?_)) fun r s1 hr => ?_
    · obtain ⟨c, u, e1, e2⟩ := pv
      rw [ec] at e1
      cases e1
      subst e2
      exact ⟨u, rfl⟩
    obtain ⟨v, er, hv⟩ := hr
    refine ⟨v, er, thn hv fun _ s2 y => ?_⟩
    obtain ⟨T, eT, nT, I2, ie, si, fr⟩ := y
    subst eT
    exact ⟨.ref T, _, I2, rfl, ⟨T, _, rfl, nT, rfl, ec⟩, ⟨ie, si, ne⟩, fr⟩
  done := by
    intro X hP hw hK hc i pins s σ H E I hf st hg
    subst hP hw hK
    obtain ⟨⟨old, he⟩, hi, ne⟩ := st
    have el : z.cps.size = i := hg
    have hh : X.A.in1.handled = none := I.ok.hd hc
    exact enum_done I hf (drawsS hh it z t) he (by rw [el]; exact hi)
  self := fun A i s Q E st h => by
    obtain ⟨⟨_, he⟩, _⟩ := st
    exact wpAny_pyIter_enum he h
def iEnumS (ta : TA) : TI := fun σ H R => ta σ H fun vs H1 => ∃ z, vs = [.str z] ∧ R (ItES z) H1
theorem pi_enumS {X : Cx} {e : Expr} {ta : TA} {p pos tpos : Pos} {elts : List Expr} {kk : Nat} (hg : Gl X "enumerate") (hm : X.mg "enumerate" = none) (ha : PA X [e] ta) (hs : starEach [e] X.env = [(false, eval e X.env)] := by rfl) :
    PI X (.Tuple elts kk tpos) (.Call (.Name "enumerate" p) [e] [] pos) (iEnumS ta) := by
  constructor
  intro pins s σ H R I h
  refine Call_ (ld_blt I hg hm PyProof.Rows.boot_enumerate (PyProof.Rows.callWith_type1 (thn (ha.run pos pins s σ H _ I h) fun us s1 ⟨vs, H1, I1, r1, q1⟩ => ?_) hs rfl))
  obtain ⟨z, ex, q⟩ := q1
  subst ex
  cases r1 with
  | cons r rr =>
    cases rr
    obtain ⟨t, rfl⟩ := r
    refine enum_begins1 (begins_text z t) trivial fun h' he e1 hk => wpAny_pyIter_enum he ?_
    have I2 : Inv X pins σ H1 { s1 with heap := h' } := I1.kept (t' := s1.toks) hk
    refine ⟨s1.heap.objs.size + 1, [s1.heap.objs.size + 1, s1.heap.objs.size], _, _, H1, rfl, I2, turn_enumS z t (s1.heap.objs.size + 1) s1.heap.objs.size, ⟨⟨.none, he⟩, ⟨_, e1, rfl, rfl⟩, Nat.succ_ne_self _⟩, fun b hb => ?_, q⟩
    have lb : s1.heap.objs.size ≤ b := by
      rcases (show b = s1.heap.objs.size + 1 ∨ b = s1.heap.objs.size by simpa using hb) with y | y
      · rw [y]
        exact Nat.le_add_right _ _
      · rw [y]
        exact Nat.le_refl _
    exact I1.fpOk lb (I1.hok.fresh lb)
end Z
set_option Elab.async false
set_option linter.all false
set_option maxRecDepth 100000
set_option maxHeartbeats 4000000
namespace Z
open PySem PySem.Spec PyProof.Rows L2
/-! ### walks over a list (true) or a tuple (false) -/
inductive SeqOr (A B : Prop) : Prop
  | l : A → SeqOr A B
  | r : B → SeqOr A B
def iSeq (K : PySem.W.Frag) (tl : TE) : TI := fun σ H R => SeqOr (iList K tl σ H R) (iTup K tl σ H R)
theorem pi_sq {X : Cx} {tg l : Expr} {tl : TE} (he : PE X l tl) : PI X tg l (iSeq X.K tl) := by
  constructor
  intro pins s σ H R I h
  rcases h with h | h
  · exact (pi_list he).run pins s σ H R I h
  · exact (pi_tup he).run pins s σ H R I h
theorem pi_sq_K {X : Cx} {K : PySem.W.Frag} {tg l : Expr} {tl : TE} (h : X.K = K) (he : PE X l tl) : PI X tg l (iSeq K tl) := by
  subst h
  exact pi_sq he
theorem pi_list_K {X : Cx} {K : PySem.W.Frag} {tg l : Expr} {tl : TE} (h : X.K = K) (he : PE X l tl) : PI X tg l (iList K tl) := by
  subst h
  exact pi_list he
theorem pi_tup_K {X : Cx} {K : PySem.W.Frag} {tg l : Expr} {tl : TE} (h : X.K = K) (he : PE X l tl) : PI X tg l (iTup K tl) := by
  subst h
  exact pi_tup he
def ItQ (b : Bool) (K : PySem.W.Frag) (a : Addr) : It := match b with
  | true => Itl K a
  | false => Itt K a
theorem itq_go {b : Bool} {K : PySem.W.Frag} {H : Hp} {a : Addr} {xs : List V} {i : Nat} {x : V} (h : SqK b K H a xs) (e : xs[i]? = some x) : (ItQ b K a).go i H := by
  cases b <;> exact ⟨_, _, h, e⟩
theorem itq_stop {b : Bool} {K : PySem.W.Frag} {H : Hp} {a : Addr} {xs : List V} {i : Nat} (h : SqK b K H a xs) (e : xs.length ≤ i) : (ItQ b K a).stop i H := by
  cases b <;> exact ⟨_, h, e⟩
theorem itq_yld {b : Bool} {K : PySem.W.Frag} {H H' : Hp} {a : Addr} {xs : List V} {i : Nat} {x : V} (h : SqK b K H a xs) (y : (ItQ b K a).yld i H x H') : H' = H ∧ xs[i]? = some x := by
  cases b <;> exact ⟨y.1, y.2 _ h⟩
theorem rd_sq {b : Bool} {K : PySem.W.Frag} {σ : L2.St} {H : Hp} {i : Nat} {a : Addr} {xs : List V} {R : It → Hp → Prop} (e : σ[i]? = some (some (.ref a))) (h : SqK b K H a xs) (r : R (ItQ b K a) H) : iSeq K (tVar i) σ H R := by
  cases b
  · exact .r ⟨_, e, a, rfl, ⟨xs, h⟩, r⟩
  · exact .l ⟨_, e, a, rfl, ⟨xs, h⟩, r⟩
theorem lc_sq {b : Bool} {K : PySem.W.Frag} {a D : Addr} {xs : List Int} {H0 : Hp} {i : Nat} {te : TE} {vs : List Nat} {σ : L2.St} {Qd : Hp → Prop} (hS : SqK b K H0 a (xs.map V.int)) (g : Int → Int) (hn : xs.length ≤ 1000000) (nD : H0 D = none) (hw : ∀ x : Int, wipe ((wipe σ vs).set i (some (.int x))) vs = wipe σ vs)
    (ht : ∀ x H1 (Q : VK), x ∈ xs → Same H0 H1 → (∀ H2, Same H1 H2 → Q (.int (g x)) H2) → te ((wipe σ vs).set i (some (.int x))) H1 Q)
    (hd : ∀ H1, Same H0 H1 → H1 D = some (.lst ((xs.map g).map V.int)) → Qd H1) : lcW (ItQ b K a) (gName i) tYes te vs σ D Qd H0 := by
  have ex : ∀ k, k < xs.length → (xs.map V.int)[k]? = some (.int (xs.getD k 0)) := fun k hk => by
    rw [List.getElem?_map, List.getD_eq_getElem?_getD, List.getElem?_eq_getElem hk]
    rfl
  refine lc_ofs (K := K) (n := xs.length) (fun k => g (xs.getD k 0)) (fun k => .int (xs.getD k 0)) hn nD (fun k H1 hk s => itq_go (Z.Same.sqK s hS) (ex k hk)) (fun H1 s => itq_stop (Z.Same.sqK s hS) (by rw [List.length_map]; exact Nat.le_refl _)) (fun k H1 x H2 hk s y => ?_) (fun k => hw _) (fun k H1 Q hk s q => ht _ H1 Q ?_ s q) (fun H1 s e => hd H1 s ?_)
  · obtain ⟨e1, e2⟩ := itq_yld (Z.Same.sqK s hS) y
    exact ⟨e1, Option.some.inj (e2.symm.trans (ex k hk))⟩
  · rw [List.getD_eq_getElem?_getD, List.getElem?_eq_getElem hk]
    exact List.getElem_mem hk
  · rw [e]
    congr 2
    congr 1
    apply List.ext_getElem
    · rw [List.length_map, List.length_map, List.length_range]
    · intro k h1 h2
      rw [List.length_map] at h2
      rw [List.getElem_map, List.getElem_map, List.getElem_range, List.getD_eq_getElem?_getD, List.getElem?_eq_getElem h2]
      rfl
/-- for x in xs, any values -/
theorem for_sq {b : Bool} {K : PySem.W.Frag} {a : Addr} {xs : List V} {H0 H : Hp} {i : Nat} {tb : TS} {D : Ends} {σ : L2.St} (hS : SqK b K H0 a xs) (Pv : Nat → L2.St → Hp → Prop) (h0 : Pv 0 σ H) (hq : ∀ k σ H1, Pv k σ H1 → Same H0 H1)
    (hs : ∀ (k : Nat) (x : V) (σ : L2.St) (H1 : Hp), xs[k]? = some x → Pv k σ H1 → tb { D with nx := Pv (k + 1), ct := Pv (k + 1), bk := D.nx } (σ.set i (some x)) H1)
    (hd : ∀ σ H1, Pv xs.length σ H1 → D.nx σ H1) : forW (ItQ b K a) (gName i) tb D σ H := by
  refine for_gen (n := xs.length) Pv h0 (fun k σ H1 hk p => itq_go (Z.Same.sqK (hq k σ H1 p) hS) (List.getElem?_eq_getElem hk)) (fun σ H1 p => itq_stop (Z.Same.sqK (hq _ σ H1 p) hS) (Nat.le_refl _)) ?_ hd
  intro k σ H1 x H2 hk p y
  obtain ⟨rfl, e⟩ := itq_yld (Z.Same.sqK (hq k σ H1 p) hS) y
  exact hs k x σ _ e p
/-- for i, x in enumerate(xs) -/
theorem for_enum {b : Bool} {K : PySem.W.Frag} {a : Addr} {xs : List V} {H0 H : Hp} {i j : Nat} {tb : TS} {D : Ends} {σ : L2.St} (hS : SqK b K H0 a xs) (Pv : Nat → L2.St → Hp → Prop) (h0 : Pv 0 σ H) (hq : ∀ k σ H1, Pv k σ H1 → Same H0 H1)
    (hs : ∀ (k : Nat) (x : V) (σ : L2.St) (H1 H2 : Hp), xs[k]? = some x → Pv k σ H1 → Same H1 H2 → tb { D with nx := Pv (k + 1), ct := Pv (k + 1), bk := D.nx } ((σ.set i (some (.int (k : Nat)))).set j (some x)) H2)
    (hd : ∀ σ H1, Pv xs.length σ H1 → D.nx σ H1) : forW (ItEM b K a) (gTup K 2 (gCons (gName i) (gCons (gName j) gNil))) tb D σ H := by
  refine for_gen (n := xs.length) Pv h0 (fun k σ H1 hk p => ⟨xs, _, Z.Same.sqK (hq k σ H1 p) hS, List.getElem?_eq_getElem hk⟩) (fun σ H1 p => ⟨xs, Z.Same.sqK (hq _ σ H1 p) hS, rfl⟩) ?_ hd
  intro k σ H1 x H2 hk p y
  obtain ⟨T, z, rfl, nT, rfl, e⟩ := y
  exact ⟨T, _, rfl, SqT.of upd_same, rfl, _, _, rfl, _, _, rfl, rfl, hs k z σ H1 _ (e _ (Z.Same.sqK (hq k σ H1 p) hS)) p (same_new nT)⟩
/-- for i, c in enumerate(text) -/
theorem for_enumS {K : PySem.W.Frag} {z : Str} {H : Hp} {i j : Nat} {tb : TS} {D : Ends} {σ : L2.St} (Pv : Nat → L2.St → Hp → Prop) (h0 : Pv 0 σ H)
    (hs : ∀ (k : Nat) (c : Nat) (σ : L2.St) (H1 H2 : Hp), z.cps[k]? = some c → Pv k σ H1 → Same H1 H2 → tb { D with nx := Pv (k + 1), ct := Pv (k + 1), bk := D.nx } ((σ.set i (some (.int (k : Nat)))).set j (some (.str ⟨#[c]⟩))) H2)
    (hd : ∀ σ H1, Pv z.cps.size σ H1 → D.nx σ H1) : forW (ItES z) (gTup K 2 (gCons (gName i) (gCons (gName j) gNil))) tb D σ H := by
  refine for_gen (n := z.cps.size) Pv h0 (fun k σ H1 hk p => hk) (fun σ H1 p => rfl) ?_ hd
  intro k σ H1 x H2 hk p y
  obtain ⟨T, c, rfl, nT, rfl, e⟩ := y
  exact ⟨T, _, rfl, SqT.of upd_same, rfl, _, _, rfl, _, _, rfl, rfl, hs k c σ H1 _ e p (same_new nT)⟩
/-! ### built-ins within a comprehension's block -/
theorem cr_min_K {X : Cx} {K : PySem.W.Frag} (h : X.K = K) (hc : X.calm = true) : CallR X (.builtin "min") (rMin K) := by
  subst h
  exact cr_min hc
theorem cr_max_K {X : Cx} {K : PySem.W.Frag} (h : X.K = K) (hc : X.calm = true) : CallR X (.builtin "max") (rMax K) := by
  subst h
  exact cr_max hc
theorem cr_sum_K {X : Cx} {K : PySem.W.Frag} (h : X.K = K) (hc : X.calm = true) : CallR X (.builtin "sum") (rSum K) := by
  subst h
  exact cr_sum hc
theorem cr_all_K {X : Cx} {K : PySem.W.Frag} (h : X.K = K) (hc : X.calm = true) : CallR X (.builtin "all") (rAll K) := by
  subst h
  exact cr_all hc
theorem cr_any_K {X : Cx} {K : PySem.W.Frag} (h : X.K = K) (hc : X.calm = true) : CallR X (.builtin "any") (rAny K) := by
  subst h
  exact cr_any hc
/-! ### comprehensions with a test, any values -/
def fltL (kb : Nat → Bool) (g : Nat → V) (n : Nat) : List V := ((List.range n).filter kb).map g
theorem flt_succ (kb : Nat → Bool) (g : Nat → V) (n : Nat) : fltL kb g (n + 1) = fltL kb g n ++ (if kb n then [g n] else []) := by
  unfold fltL
  rw [List.range_succ, List.filter_append, List.map_append]
  cases e : kb n <;> simp [e]
theorem flt_len (kb : Nat → Bool) (g : Nat → V) (n : Nat) : (fltL kb g n).length ≤ n := by
  unfold fltL
  rw [List.length_map]
  exact Nat.le_trans (List.length_filter_le ..) (by rw [List.length_range]; exact Nat.le_refl _)
theorem lc_flt {J : It} {D : Addr} {n : Nat} {H0 : Hp} {i : Nat} {tt : TT} {te : TE} {vs : List Nat} {σ : L2.St} {Qd : Hp → Prop} (xv : Nat → V) (kb : Nat → Bool) (g : Nat → V) (hn : n ≤ 1000000) (nD : H0 D = none)
    (hgo : ∀ k H1, k < n → Same H0 H1 → J.go k H1) (hst : ∀ H1, Same H0 H1 → J.stop n H1) (hy : ∀ k H1 x H2, k < n → Same H0 H1 → J.yld k H1 x H2 → Same H1 H2 ∧ x = xv k)
    (hw : ∀ k, wipe ((wipe σ vs).set i (some (xv k))) vs = wipe σ vs)
    (hb : ∀ k H1 (Q : Bool → Hp → Prop), k < n → Same H0 H1 → (∀ H2, Same H1 H2 → Q (kb k) H2) → tt ((wipe σ vs).set i (some (xv k))) H1 Q)
    (ht : ∀ k H1 (Q : VK), k < n → kb k = true → Same H0 H1 → (∀ H2, Same H1 H2 → Q (g k) H2) → te ((wipe σ vs).set i (some (xv k))) H1 Q)
    (hd : ∀ H1, Same H0 H1 → H1 D = some (.lst (fltL kb g n)) → Qd H1) : lcW J (gName i) tt te vs σ D Qd H0 := by
  refine lc_gen (n := n) (fun k H1 => Same H0 H1 ∧ H1 D = some (.lst (fltL kb g k))) ⟨same_new nD, upd_same⟩ (fun k H1 hk p => hgo k H1 hk p.1) (fun H1 p => hst H1 p.1) ?_ (fun H1 p => hd H1 p.1 p.2)
  rintro k H1 x H2 hk ⟨s, e⟩ y
  obtain ⟨s2, rfl⟩ := hy k H1 x H2 hk s y
  refine ⟨hw k, ?_⟩
  refine hb k _ _ hk (s.trans s2) (fun H3 s3 => ?_)
  cases eb : kb k
  · rw [if_neg (by decide)]
    refine ⟨s.trans (s2.trans s3), ?_⟩
    rw [flt_succ, eb]
    simpa using s3 _ _ (s2 _ _ e)
  · rw [if_pos rfl]
    refine ht k _ _ hk eb (s.trans (s2.trans s3)) (fun H4 s4 => ⟨_, s4 _ _ (s3 _ _ (s2 _ _ e)), ?_, Z.Same.mut (s.trans (s2.trans (s3.trans s4))) nD, ?_⟩)
    · exact Nat.lt_of_le_of_lt (flt_len kb g k) (Nat.lt_of_lt_of_le hk (Nat.le_trans hn (by decide)))
    · rw [upd_same, flt_succ, eb]
      rfl
end Z
set_option Elab.async false
set_option linter.all false
set_option maxRecDepth 100000
set_option maxHeartbeats 4000000
namespace L2
open PySem PySem.Spec PyProof.Rows
section
variable {X : Cx}
/-- name = {..} on one line, the name a local -/
theorem ps_setDc {i : Nat} {y : Str} {py : Pos} {kx vx tg iter : Expr} {ifs : List Expr} {scope : Scope} {own : List (Str × Nat)} {pos spos : Pos} {wi : TI} {g : TG} {tt : TT} {tk tv : TE} (hc : X.calm = true) (hN : X.N.Nodup) (hy : X.N[i]? = some y) (hyl : X.env.scope.names.lookup y = some .local)
    (hsw : swapsWith (.DictComp kx vx [⟨tg, iter, ifs, 0⟩] scope pos) (some (.Name y py)) spos.line X.env = pure true) (hi : PI X tg iter wi) (ok : BlkOk X.N X.env.scope scope own)
    (hg : ∀ (s : Shared) (H : Hp) (C : Addr) (cl : List (Str × Addr)) (fp : List Addr), PG (X.blk s H scope (compEnvC scope cl C X.env) fp) tg g) (ht : ∀ (s : Shared) (H : Hp) (C : Addr) (cl : List (Str × Addr)) (fp : List Addr), PTs (X.blk s H scope (compEnvC scope cl C X.env) fp) ifs tt)
    (hk : ∀ (s : Shared) (H : Hp) (C : Addr) (cl : List (Str × Addr)) (fp : List Addr), PE (X.blk s H scope (compEnvC scope cl C X.env) fp) kx tk)
    (he : ∀ (s : Shared) (H : Hp) (C : Addr) (cl : List (Str × Addr)) (fp : List Addr), PE (X.blk s H scope (compEnvC scope cl C X.env) fp) vx tv) (hs : ∀ x, foldedSetIterable iter X.env x = pure x := by intro _; rfl) :
    PS X (.Assign [.Name y py] (.DictComp kx vx [⟨tg, iter, ifs, 0⟩] scope pos) spos) (tAsg (tDc wi g tt tk tv (own.map (·.2))) (gName i)) := by
  refine ⟨fun pins s σ H D I h => ?_⟩
  rw [exec_Assign_Name_used _ _ _ _ hsw]
  refine wpAny_bind (wpAny_standAt (wpAny_bind ?_))
  show wpAny _ X.A (do let _ ← comprehension (.DictComp kx vx [⟨tg, iter, ifs, 0⟩] scope pos) scope X.env (firstIterPos [⟨tg, iter, ifs, 0⟩] pos) newDict false (eval iter X.env) (some (assign (.Name y py) X.env))) _ _ s
  have h : tDc wi g tt tk tv (own.map (·.2)) σ H (fun x H1 => gName i x σ H1 D.nx) := h
  refine wpAny_bind (thn (dc_core (Qf := fun _ s' => SP X pins D .next s') hc hN I hi ok hg ht hk he hs h fun L C s' m H' I' q hn f => ?_) fun _ s' hq => wpAny_pure (wpAny_pure hq))
  show wpAny _ _ (assign (.Name y py) X.env (.ref L)) _ _ _
  refine wpAny_assign_Name (store_ok2 (v := V.ref L) I' hN hy (.inl hyl) rfl (fun s2 I2 ⟨a, sb, ha⟩ => ?_) (.inr hyl))
  obtain ⟨f0, f1, f2, f3, f4, f5⟩ := f
  have haC : C ≠ a := by
    rcases ha with z | z
    · rw [z]; exact f1
    · exact fun e => f4 y a z e.symm
  refine ⟨m, hn.sameBut sb haC, fun h3 sb3 => ?_⟩
  exact ⟨_, H', I2.turned (t' := s2.toks) (fun b o hb e => (sb3.2 b hb).trans e) f0 f1 f3 f4 f5, q⟩
theorem sw_trueD {kx vx : Expr} {gs : List Comprehension} {scope : Scope} {pos py : Pos} {y : Str} {l : Nat} {env : Env} (hk : env.scope.kind = .function) (hy : env.scope.names.lookup y = some .local) (hl : (py.line == pos.line) = true)
    (ha : (scope.names.any fun (n, k) => n == y && (k == .local || k == .cell)) = false) : swapsWith (.DictComp kx vx gs scope pos) (some (.Name y py)) l env = pure true := by
  have ky : env.kindOf y = some .local := hy
  have hb : env.blockKind = .function := by unfold Env.blockKind; rw [hk]; rfl
  unfold swapsWith
  simp only [hb, ky, ha, Expr.pos, hl]
  rfl
end
end L2
set_option Elab.async false
set_option linter.all false
set_option maxRecDepth 100000
set_option maxHeartbeats 4000000
namespace Z
open PySem PySem.Spec PyProof.Rows L2
/-! ### zip(text, sequence) -/
def ItzS (z : Str) (q : Bool) (K : PySem.W.Frag) (b : Addr) : It :=
  ⟨fun i H => ∃ (ys : List V) (c : Nat) (y : V), z.cps[i]? = some c ∧ SqK q K H b ys ∧ ys[i]? = some y,
   fun i H v H' => ∃ T c y, v = .ref T ∧ H T = none ∧ H' = upd H T (.tup [.str ⟨#[c]⟩, y]) ∧ z.cps[i]? = some c ∧ (∀ ys, SqK q K H b ys → ys[i]? = some y),
   fun i H => ∃ ys : List V, SqK q K H b ys ∧ (z.cps.size ≤ i ∨ ys.length ≤ i) ∧ i ≤ z.cps.size ∧ i ≤ ys.length⟩
theorem zsepS {z TI TO i1 i2 a b : Addr} (D : ZipApart z TI TO i1 i2 a b) : ZipSep2 z TI TO i1 i2 [i1] [i2, b] where
  TIz := D.TIz
  TOz := D.TOz
  TITO := D.TITO
  TIi1 := D.TIi1
  mem1 := List.mem_cons_self
  zf1 := fun h => D.i1z (List.mem_singleton.mp h).symm
  Tf1 := fun h => D.TOi1 (List.mem_singleton.mp h)
  TIi2 := D.TIi2
  mem2 := List.mem_cons_self
  zf2 := fun h => by rcases List.mem_cons.mp h with e | h; exact D.i2z e.symm; exact D.l2z (List.mem_singleton.mp h).symm
  Tf2 := fun h => by rcases List.mem_cons.mp h with e | h; exact D.TOi2 e; exact D.l2TO (List.mem_singleton.mp h).symm
  sep1_2 := fun h => by rcases List.mem_cons.mp h with e | h; exact D.i12 e; exact D.l2i1 (List.mem_singleton.mp h).symm
  sep2_1 := fun h => D.i12 (List.mem_singleton.mp h).symm
theorem str_obj {h : Heap} {it : Addr} {ty : String} {x : Str} {t : Tok} {i : Nat} (st : h.IsStrIter it ty x t i) : ∃ o, h.get? it = some o ∧ ∀ v, o.data ≠ .cell v := by
  obtain ⟨o, e, _, d⟩ := st
  exact ⟨o, e, fun v q => by rw [d] at q; cases q⟩
theorem str_keep {h h' : Heap} {it : Addr} {ty : String} {x : Str} {t : Tok} {i : Nat} (st : h.IsStrIter it ty x t i) (k : ∀ o, h.get? it = some o → h'.get? it = some o) : h'.IsStrIter it ty x t i := by
  obtain ⟨o, e, r⟩ := st
  exact ⟨o, k o e, r⟩
theorem turn_zipS {q : Bool} {P : Program} {w : World} {K : PySem.W.Frag} {elts : List Expr} {kk : Nat} {tpos : Pos} {tx : Str} {tt : Tok} {a b z TI TO i1 i2 : Addr} (D : ZipApart z TI TO i1 i2 a b) :
    Turn P w K (.Tuple elts kk tpos) (ItzS tx q K b) [z, TI, TO, i1, i2] z (fun i h => IsZip h z TI TO .none ∧ IsTupOf2 h TI (.ref i1) (.ref i2) ∧ (∃ x y, IsTupOf2 h TO x y) ∧ h.IsStrIter i1 (strIterType tx) tx tt i ∧ ItK q h i2 b i) where
  mem := by simp
  obj := fun i h st c hc => by
    obtain ⟨hz, hI, ⟨x, y, hO⟩, h1, h2⟩ := st
    exact five (Pr := fun c => ∃ o, h.get? c = some o ∧ ∀ v, o.data ≠ .cell v) hc ⟨_, hz, fun v q => nomatch q⟩ ⟨_, hI, fun v q => nomatch q⟩ ⟨_, hO, fun v q => nomatch q⟩ (str_obj h1) h2.obj
  keep := fun i h h' st k => by
    obtain ⟨hz, hI, ⟨x, y, hO⟩, h1, h2⟩ := st
    exact ⟨k z (by simp) _ hz, k TI (by simp) _ hI, ⟨x, y, k TO (by simp) _ hO⟩, str_keep h1 (fun o e => k i1 (by simp) o e), h2.at' (fun o e => k i2 (by simp) o e)⟩
  item := by
    intro X hP hw hK hc i pins s σ H E I hf st hg
    subst hP hw hK
    obtain ⟨hz, hI, ⟨x0, y0, hO⟩, h1, h2⟩ := st
    obtain ⟨ys, c0, y, ex, qy, ey⟩ := hg
    obtain ⟨vs, ry, ky, _⟩ := sqk_is I qy
    obtain ⟨v, ev, rv⟩ := ry.get ey
    have hzl : z < s.heap.objs.size := Heap.lt_size hz
    have lu : i < tx.cps.size := by
      have := (Array.getElem?_eq_some_iff.mp ex).1
      exact this
    have lv : i < vs.toArray.size := by simpa using (List.getElem?_eq_some_iff.mp ev).1
    have hh : X.A.in1.handled = none := I.ok.hd hc
    refine wpAny_pyNext_zipD2_item (zsepS D) (Draws.text hh i1 tx tt) (drawsK q hh i2 b D.l2i2 vs.toArray) hz hI hO h1 ⟨h2, ky⟩ lu lv fun m1 m2 g tk p1 p2 gz gO g1 g2 gT gs gk => ?_
    obtain ⟨c1, u1, e1, rfl⟩ := p1
    obtain rfl : c1 = c0 := Option.some.inj (e1.symm.trans ex)
    have e2 : m2 = v := by
      have t1 : vs.toArray[i]? = some v := by simpa using ev
      exact Option.some.inj (p2.symm.trans t1)
    subst e2
    refine ⟨_, rfl, wpAny_letOwnedTupleGo_zip (s := { s with heap := g, toks := tk }) gz fun g' gz' sb => ?_⟩
    have gT' : g'.get? s.heap.objs.size = some { cls := .type "tuple", data := .seq #[.str ⟨#[c1]⟩ u1, m2] } := (sb.2 _ (Nat.ne_of_gt hzl)).trans gT
    have nw : ObjOk X.prog X.w (upd H s.heap.objs.size (.tup [.str ⟨#[c1]⟩, y])) g' s.heap.objs.size (.tup [.str ⟨#[c1]⟩, y]) := ⟨by show 2 ≤ sizeLine; decide, [.str ⟨#[c1]⟩ u1, m2], .cons ⟨_, rfl⟩ (.cons rv .nil), ⟨_, gT', rfl, _, rfl⟩⟩
    have I1 : Inv X pins σ (upd H s.heap.objs.size (.tup [.str ⟨#[c1]⟩, y])) { s with heap := g', toks := tk } :=
      I.turnedNew (t' := tk) (ch := [z, TI, TO, i1, i2]) (fun c o nb e => (sb.2 c (fun w => nb (by simp [w]))).trans (gk c o (fun w => nb (by simp [w])) (fun w => nb (by simp [w])) (fun w => nb (by simp [w])) (fun w => nb (by simp [w])) e)) hf (Nat.le_refl _) nw
    refine ⟨.ref s.heap.objs.size, _, I1, rfl, ⟨_, c1, y, rfl, I.hok.fresh (Nat.le_refl _), rfl, ex, fun l hl => by rw [sqk_inj I hl qy]; exact ey⟩, ⟨gz', ?_, ⟨.str ⟨#[c1]⟩ u1, m2, ?_⟩, ?_, ?_⟩, fun c hcm => ?_⟩
    · exact (sb.2 _ D.TIz).trans (gk _ _ D.TIz D.TITO D.TIi1 D.TIi2 hI)
    · exact (sb.2 _ D.TOz).trans gO
    · exact str_keep g1 (fun o e => (sb.2 _ D.i1z).trans e)
    · exact ItK.at' g2.1 (fun o e => (sb.2 _ D.i2z).trans e)
    · have lt : c < s.heap.objs.size := by
        obtain ⟨o1, q1, _⟩ := str_obj h1
        obtain ⟨o2, q2, _⟩ := h2.obj
        exact five (Pr := fun c => c < s.heap.objs.size) hcm hzl (Heap.lt_size hI) (Heap.lt_size hO) (Heap.lt_size q1) (Heap.lt_size q2)
      rw [upd_ne (Nat.ne_of_lt lt)]
      exact (hf c hcm).1
  done := by
    intro X hP hw hK hc i pins s σ H E I hf st hg
    subst hP hw hK
    obtain ⟨hz, hI, ⟨x0, y0, hO⟩, h1, h2⟩ := st
    obtain ⟨ys, qy, hend, le1, le2⟩ := hg
    obtain ⟨vs, ry, ky, _⟩ := sqk_is I qy
    have l2 := ry.length
    have n2 : vs.toArray.size = vs.length := by simp
    have hh : X.A.in1.handled = none := I.ok.hd hc
    refine wpAny_pyNext_zipD2_end (i := i) (zsepS D) (Draws.text hh i1 tx tt) (drawsK q hh i2 b D.l2i2 vs.toArray) hz hI hO h1 ⟨h2, ky⟩ (by omega) (by omega) (by omega) fun g tk gk => ?_
    exact ⟨rfl, I.turnedL (t' := tk) (ch := [z, TI, TO, i1, i2]) (fun c o nb e => gk c o (fun w => nb (by simp [w])) (fun w => nb (by simp [w])) (fun w => nb (by simp [w])) (fun w => nb (by simp [w])) e) hf⟩
  self := fun A i s Q E st h => wpAny_pyIter_zip st.1 h
def iZipS (K : PySem.W.Frag) (ta : TA) : TI := fun σ H R => ta σ H fun vs H1 => ∃ z q b ys, vs = [.str z, .ref b] ∧ SqK q K H1 b ys ∧ R (ItzS z q K b) H1
theorem pi_zipS {X : Cx} {e e2 : Expr} {ta : TA} {p pos tpos : Pos} {elts : List Expr} {kk : Nat} (hg : Gl X "zip") (hm : X.mg "zip" = none) (ha : PA X [e, e2] ta)
    (hs : starEach [e, e2] X.env = (false, eval e X.env) :: starEach [e2] X.env := by rfl) (hpl : (backTo pos (starEach [e2] X.env)).any (·.1) = false := by rfl) :
    PI X (.Tuple elts kk tpos) (.Call (.Name "zip" p) [e, e2] [] pos) (iZipS X.K ta) := by
  constructor
  intro pins s σ H R I h
  refine Call_ (ld_blt I hg hm PyProof.Rows.boot_zip (PyProof.Rows.callWith_type1 (thn (ha.run pos pins s σ H _ I h) fun us s1 ⟨vs, H1, I1, r1, q1⟩ => ?_) hs hpl))
  obtain ⟨tx, k2, b, ys, ex, qy, q⟩ := q1
  subst ex
  obtain ⟨u, v, rfl, ru, rv⟩ := Vals.two r1
  obtain ⟨tt, rfl⟩ := ru
  cases rv
  obtain ⟨i2, _, p2, lt2⟩ := sqk_is I1 qy
  obtain ⟨o2, G2, B2, g2, w2⟩ := begK p2
  refine zip_begins2 (begins_text tx tt) B2 trivial g2 fun h' hz hI hO e1 e2 hsz hk => wpAny_pyIter_zip hz ?_
  have I2 : Inv X pins σ H1 { s1 with heap := h' } := I1.kept (t' := s1.toks) hk
  refine ⟨s1.heap.objs.size + 4, [s1.heap.objs.size + 4, s1.heap.objs.size + 2, s1.heap.objs.size + 3, s1.heap.objs.size, s1.heap.objs.size + 1], _, _, H1, rfl, I2, turn_zipS (tt := tt) (PySem.W.ktu_apart s1.heap.objs.size b b lt2 lt2), ⟨hz, hI, ⟨_, _, hO⟩, ⟨_, e1, rfl, rfl⟩, w2 _ _ e2⟩, fun c hcm => ?_, q⟩
  have hle : s1.heap.objs.size ≤ c := five (Pr := fun c => s1.heap.objs.size ≤ c) hcm (Nat.le_add_right _ _) (Nat.le_add_right _ _) (Nat.le_add_right _ _) (Nat.le_refl _) (Nat.le_add_right _ _)
  exact I1.fpOk hle (I1.hok.fresh hle)
end Z
set_option Elab.async false
set_option linter.all false
set_option maxRecDepth 100000
set_option maxHeartbeats 4000000
namespace Z
open PySem PySem.Spec PyProof.Rows L2
open SX (S S_inj S_len S_cat)
theorem none_of {H J : Hp} {p : Addr} (s : Same H J) (n : J p = none) : H p = none := by
  cases e : H p with
  | none => rfl
  | some o =>
    have := s p o e
    rw [n] at this
    cases this
/-! ### pairs of parties as texts, k = 6 * debtor + creditor -/
def kyL (k : Nat) : List Nat := [97 + k / 6, 97 + k % 6]
def ky (k : Nat) : Str := S (kyL k)
def lt1 (i : Nat) : Str := S [97 + i]
theorem ky_inj {j k : Nat} (h : ky j = ky k) : j = k := by
  have e := S_inj h
  unfold kyL at e
  injection e with e1 e2
  injection e2 with e2 _
  omega
theorem lt1_inj {j k : Nat} (h : lt1 j = lt1 k) : j = k := by
  have e := S_inj h
  injection e with e1 _
  omega
def tab (key : Nat → Str) (ks : List Nat) (g : Nat → Int) : List (Key × V) := ks.map fun k => (Sum.inr (key k), V.int (g k))
theorem tab_len (key : Nat → Str) (ks : List Nat) (g : Nat → Int) : (tab key ks g).length = ks.length := List.length_map ..
theorem tab_at {key : Nat → Str} {ks : List Nat} {g : Nat → Int} {i : Nat} (h : i < ks.length) : (tab key ks g)[i]? = some (Sum.inr (key ks[i]), V.int (g ks[i])) := by
  unfold tab
  rw [List.getElem?_map, List.getElem?_eq_getElem h]
  rfl
theorem tab_val {key : Nat → Str} (inj : ∀ a b, key a = key b → a = b) (g : Nat → Int) (k : Nat) : ∀ ks : List Nat, valV (tab key ks g) (Sum.inr (key k)) = if k ∈ ks then some (.int (g k)) else none := by
  intro ks
  induction ks with
  | nil => rfl
  | cons j r ih =>
    by_cases e : j = k
    · subst e
      rw [if_pos List.mem_cons_self]
      exact valV_pos rfl
    · have ne : ¬ (Sum.inr (key j) : Key) = Sum.inr (key k) := fun z => e (inj _ _ (Sum.inr.inj z))
      show valV ((Sum.inr (key j), V.int (g j)) :: tab key r g) _ = _
      rw [valV_neg ne, ih]
      by_cases m : k ∈ r
      · rw [if_pos m, if_pos (List.mem_cons_of_mem _ m)]
      · rw [if_neg m, if_neg (fun z => (List.mem_cons.mp z).elim (fun z => e z.symm) m)]
theorem tab_congr {key : Nat → Str} {ks : List Nat} {g h : Nat → Int} (e : ∀ k ∈ ks, g k = h k) : tab key ks g = tab key ks h :=
  List.map_congr_left fun k hk => by rw [e k hk]
theorem tab_put {key : Nat → Str} (inj : ∀ a b, key a = key b → a = b) (ks : List Nat) (g : Nat → Int) (k : Nat) (v : Int) : putK (tab key ks g) (Sum.inr (key k)) (.int v) = tab key (if k ∈ ks then ks else ks ++ [k]) (fun j => if j = k then v else g j) := by
  unfold putK
  rw [valV_any, tab_val inj]
  by_cases m : k ∈ ks
  · rw [if_pos m, if_pos m]
    rw [if_pos (by rfl)]
    unfold tab
    rw [List.map_map]
    refine List.map_congr_left fun j hj => ?_
    show (if (Sum.inr (key j) : Key) = Sum.inr (key k) then ((Sum.inr (key j) : Key), V.int v) else (Sum.inr (key j), V.int (g j))) = _
    by_cases e : j = k
    · subst e
      rw [if_pos rfl]
      dsimp only
      rw [if_pos rfl]
    · rw [if_neg (fun z => e (inj _ _ (Sum.inr.inj z)))]
      dsimp only
      rw [if_neg e]
  · rw [if_neg m, if_neg m]
    rw [if_neg (by simp)]
    show tab key ks g ++ [(Sum.inr (key k), V.int v)] = _
    rw [tab_congr (h := fun j => if j = k then v else g j) (fun j hj => by rw [if_neg (fun z : j = k => m (z ▸ hj))])]
    unfold tab
    rw [List.map_append, List.map_singleton]
    dsimp only
    rw [if_pos rfl]
theorem tab_filter {key : Nat → Str} (ks : List Nat) (g : Nat → Int) : (tab key ks g).map (fun kv => kV kv.1) = ks.map fun k => V.str (key k) := by
  unfold tab
  rw [List.map_map]
  rfl
/-! ### the order of the texts is the order of the numbers -/
theorem lt_ky {j k : Nat} : ltCps (ky j).cps.toList (ky k).cps.toList = decide (j < k) := by
  show ltCps [97 + j / 6, 97 + j % 6] [97 + k / 6, 97 + k % 6] = _
  unfold ltCps ltCps ltCps
  rw [Bool.eq_iff_iff]
  simp
  omega
theorem rising_ky : ∀ (ks : List Nat) (j : Nat), risingS (ky j) (ks.map ky) = true → (j :: ks).Pairwise (· ≤ ·)
  | [], j, _ => List.pairwise_singleton ..
  | k :: r, j, h => by
    have h' : (!ltCps (ky k).cps.toList (ky j).cps.toList && risingS (ky k) (r.map ky)) = true := h
    rw [lt_ky, Bool.and_eq_true] at h'
    have a : j ≤ k := by
      have := h'.1
      simp at this
      exact this
    have z := rising_ky r k h'.2
    refine List.pairwise_cons.mpr ⟨fun x hx => ?_, z⟩
    rcases List.mem_cons.mp hx with rfl | hx
    · exact a
    · exact Nat.le_trans a ((List.pairwise_cons.mp z).1 x hx)
theorem sorted_ky {ks : List Nat} (h : sortedS (ks.map ky) = true) : ks.Pairwise (· ≤ ·) := by
  cases ks with
  | nil => exact .nil
  | cons k r => exact rising_ky r k h
theorem asc_of_nodup {ks : List Nat} (h : ks.Pairwise (· ≤ ·)) (nd : ks.Nodup) : ks.Pairwise (· < ·) :=
  (h.and nd).imp fun {a b} z => Nat.lt_of_le_of_ne z.1 z.2
theorem asc_extN : ∀ {l m : List Nat}, l.Pairwise (· < ·) → m.Pairwise (· < ·) → (∀ x, x ∈ l ↔ x ∈ m) → l = m
  | [], [], _, _, _ => rfl
  | [], y :: m, _, _, h => absurd ((h y).mpr List.mem_cons_self) (by simp)
  | x :: l, [], _, _, h => absurd ((h x).mp List.mem_cons_self) (by simp)
  | x :: l, y :: m, p, q, h => by
    have p2 := List.pairwise_cons.mp p
    have q2 := List.pairwise_cons.mp q
    have e : x = y := by
      rcases List.mem_cons.mp ((h x).mp List.mem_cons_self) with a | a
      · exact a
      · rcases List.mem_cons.mp ((h y).mpr List.mem_cons_self) with b | b
        · exact b.symm
        · have := q2.1 x a
          have := p2.1 y b
          omega
    subst e
    refine congrArg _ (asc_extN p2.2 q2.2 fun z => ⟨fun hz => ?_, fun hz => ?_⟩)
    · rcases List.mem_cons.mp ((h z).mp (List.mem_cons_of_mem _ hz)) with a | a
      · have := p2.1 z hz
        omega
      · exact a
    · rcases List.mem_cons.mp ((h z).mpr (List.mem_cons_of_mem _ hz)) with a | a
      · have := q2.1 z hz
        omega
      · exact a
theorem perm_ky {ys : List Str} {ks : List Nat} (h : ys.Perm (ks.map ky)) : ∃ js : List Nat, ys = js.map ky ∧ js.Perm ks := by
  obtain ⟨js, p, e⟩ : ∃ js : List Nat, js.Perm ks ∧ ys = js.map ky := by
    generalize e : ks.map ky = zs at h
    induction h generalizing ks with
    | nil =>
      have : ks = [] := by simpa using e
      exact ⟨[], this ▸ .nil, rfl⟩
    | cons x p ih =>
      cases ks with
      | nil => cases e
      | cons k r =>
        injection e with e1 e2
        obtain ⟨js, p', e'⟩ := ih e2
        exact ⟨k :: js, .cons k p', by rw [e', ← e1]; rfl⟩
    | swap x y l =>
      match ks, e with
      | a :: b :: r, e =>
        injection e with e1 e2
        injection e2 with e2 e3
        exact ⟨b :: a :: r, .swap .., by rw [← e1, ← e2, ← e3]; rfl⟩
    | trans p1 p2 ih1 ih2 =>
      obtain ⟨js, q, e'⟩ := ih2 e
      obtain ⟨is, q', e2⟩ := ih1 e'.symm
      exact ⟨is, q'.trans q, e2⟩
  exact ⟨js, e, p⟩
/-! ### sums over rows: a row is a pair (or none) and coins -/
abbrev Rows : Type := List (Option Nat × Int)
def tot (P : Nat → Bool) : Rows → Int
  | [] => 0
  | r :: t => (match r.1 with
    | some k => if P k then r.2 else 0
    | none => 0) + tot P t
def sm (rs : Rows) (k : Nat) : Int := tot (fun j => decide (j = k)) rs
def rcv (rs : Rows) (p : Nat) : Int := tot (fun j => decide (j % 6 = p)) rs
def gvn (rs : Rows) (p : Nat) : Int := tot (fun j => decide (j / 6 = p)) rs
def nt (rs : Rows) (p : Nat) : Int := rcv rs p - gvn rs p
def fP (P : Nat → Bool) (r : Option Nat × Int) : Bool := match r.1 with
  | some k => P k
  | none => false
theorem tot_filter (P : Nat → Bool) : ∀ rs : Rows, ((rs.filter (fP P)).map (·.2)).sum = tot P rs
  | [] => rfl
  | r :: t => by
    have ih := tot_filter P t
    obtain ⟨k, c⟩ := r
    cases k with
    | none =>
      show (((t.filter (fP P)).map (·.2)).sum) = 0 + tot P t
      rw [ih, Int.zero_add]
    | some k =>
      show _ = (if P k then c else 0) + tot P t
      cases e : P k
      · rw [List.filter_cons_of_neg (by show ¬ P k = true; rw [e]; decide), ih, if_neg (by decide), Int.zero_add]
      · rw [List.filter_cons_of_pos (by show P k = true; exact e), if_pos rfl, List.map_cons, List.sum_cons, ih]
theorem tot_append (P : Nat → Bool) : ∀ a b : Rows, tot P (a ++ b) = tot P a + tot P b
  | [], b => by rw [List.nil_append]; show _ = 0 + _; rw [Int.zero_add]
  | r :: t, b => by
    show _ + tot P (t ++ b) = _ + tot P t + tot P b
    rw [tot_append P t b, Int.add_assoc]
theorem tot_nonneg {P : Nat → Bool} : ∀ {rs : Rows}, (∀ r ∈ rs, 0 ≤ r.2) → 0 ≤ tot P rs
  | [], _ => Int.le_refl _
  | r :: t, h => by
    have ih := tot_nonneg (P := P) (rs := t) fun x hx => h x (List.mem_cons_of_mem _ hx)
    have h0 := h r List.mem_cons_self
    obtain ⟨k, c⟩ := r
    cases k with
    | none => show 0 ≤ 0 + tot P t; omega
    | some k =>
      show 0 ≤ (if P k then c else 0) + tot P t
      dsimp only at h0
      split <;> omega
theorem tot_le {P : Nat → Bool} {B : Int} (b0 : 0 ≤ B) : ∀ {rs : Rows}, (∀ r ∈ rs, 0 ≤ r.2 ∧ r.2 ≤ B) → tot P rs ≤ rs.length * B
  | [], _ => by show (0 : Int) ≤ ((0 : Nat) : Int) * B; simp
  | r :: t, h => by
    have ih := tot_le (P := P) b0 (rs := t) fun x hx => h x (List.mem_cons_of_mem _ hx)
    have h0 := h r List.mem_cons_self
    have e : (((r :: t).length : Nat) : Int) * B = (t.length : Int) * B + B := by
      rw [List.length_cons]
      have : ((t.length + 1 : Nat) : Int) = (t.length : Int) + 1 := by omega
      rw [this, Int.add_mul, Int.one_mul]
    rw [e]
    obtain ⟨k, c⟩ := r
    cases k with
    | none => show 0 + tot P t ≤ _; omega
    | some k =>
      show (if P k then c else 0) + tot P t ≤ _
      dsimp only at h0
      split <;> omega
def ent (ks : List Nat) (g : Nat → Int) : Rows := ks.map fun k => (some k, g k)
theorem tot_ent_add (P : Nat → Bool) (g h : Nat → Int) : ∀ ks : List Nat, tot P (ent ks fun k => g k + h k) = tot P (ent ks g) + tot P (ent ks h)
  | [] => rfl
  | k :: r => by
    have ih := tot_ent_add P g h r
    show (if P k then g k + h k else 0) + tot P (ent r fun k => g k + h k) = ((if P k then g k else 0) + tot P (ent r g)) + ((if P k then h k else 0) + tot P (ent r h))
    rw [ih]
    split <;> omega
theorem tot_ent_one (P : Nat → Bool) (j : Nat) (c : Int) : ∀ ks : List Nat, ks.Nodup → tot P (ent ks fun k => if j = k then c else 0) = if j ∈ ks then (if P j then c else 0) else 0
  | [], _ => rfl
  | k :: r, nd => by
    have nd2 := List.nodup_cons.mp nd
    have ih := tot_ent_one P j c r nd2.2
    show (if P k then (if j = k then c else 0) else 0) + tot P (ent r fun k => if j = k then c else 0) = _
    rw [ih]
    by_cases e : j = k
    · subst e
      rw [if_neg nd2.1, if_pos List.mem_cons_self, if_pos rfl, Int.add_zero]
    · rw [if_neg e]
      have z : (if P k = true then (0 : Int) else 0) = 0 := by split <;> rfl
      rw [z, Int.zero_add]
      by_cases m : j ∈ r
      · rw [if_pos m, if_pos (List.mem_cons_of_mem _ m)]
      · rw [if_neg m, if_neg fun z => (List.mem_cons.mp z).elim e m]
theorem tot_ent_zero (P : Nat → Bool) : ∀ ks : List Nat, tot P (ent ks fun _ => 0) = 0
  | [] => rfl
  | k :: r => by
    show (if P k then (0 : Int) else 0) + tot P (ent r fun _ => 0) = 0
    rw [tot_ent_zero P r]
    split <;> rfl
/-- rows summed by pair have the totals of the rows -/
theorem tot_ent (P : Nat → Bool) {ks : List Nat} (nd : ks.Nodup) : ∀ {rs : Rows}, (∀ r ∈ rs, ∀ k, r.1 = some k → k ∈ ks ∨ r.2 = 0) → tot P (ent ks (sm rs)) = tot P rs
  | [], _ => tot_ent_zero P ks
  | r :: t, h => by
    have ih := tot_ent P nd (rs := t) fun x hx => h x (List.mem_cons_of_mem _ hx)
    have h0 := h r List.mem_cons_self
    obtain ⟨k, c⟩ := r
    cases k with
    | none =>
      have e : sm ((none, c) :: t) = sm t := funext fun k => by
        show 0 + tot _ t = tot _ t
        rw [Int.zero_add]
      rw [e, ih]
      show _ = 0 + tot P t
      rw [Int.zero_add]
    | some j =>
      have e : sm ((some j, c) :: t) = fun k => (if j = k then c else 0) + sm t k := funext fun k => by
        show (if decide (j = k) = true then c else 0) + tot _ t = _
        by_cases z : j = k
        · rw [if_pos (decide_eq_true z), if_pos z]
          rfl
        · rw [if_neg (by simpa using z), if_neg z]
          rfl
      rw [e, tot_ent_add, ih, tot_ent_one P j c ks nd]
      show _ = (if P j then c else 0) + tot P t
      rcases h0 j rfl with m | z
      · rw [if_pos m]
      · have z : c = 0 := z
        subst z
        have q : (if P j = true then (0 : Int) else 0) = 0 := by split <;> rfl
        rw [q]
        split <;> rfl
theorem tot_congr (P : Nat → Bool) {g h : Nat → Int} : ∀ {ks : List Nat}, (∀ k ∈ ks, g k = h k) → tot P (ent ks g) = tot P (ent ks h)
  | [], _ => rfl
  | k :: r, e => by
    show (if P k then g k else 0) + tot P (ent r g) = (if P k then h k else 0) + tot P (ent r h)
    rw [e k List.mem_cons_self, tot_congr P fun x hx => e x (List.mem_cons_of_mem _ hx)]
end Z
set_option Elab.async false
set_option linter.all false
set_option maxRecDepth 100000
set_option maxHeartbeats 4000000
namespace Z
open PySem PySem.Spec PyProof.Rows L2
theorem relv_str {x : Str} {t : Tok} : L2.RelV (.str x) (.str x t) := ⟨t, rfl⟩
theorem szl {n : Nat} (h : n ≤ 2000) : n ≤ sizeLine := Nat.le_trans h (by decide)
theorem szlt {n : Nat} (h : n ≤ 2000) : n < sizeLine := Nat.lt_of_le_of_lt h (by decide)
/-! ### list(d.values()) -/
def tListVals (te : TE) : TE := fun σ H Q => te σ H fun x H1 => ∃ (d : Addr) (kvs : List (Key × V)), x = .ref d ∧ H1 d = some (.dK kvs) ∧ ∀ p, H1 p = none → Q (.ref p) (upd H1 p (.lst (kvs.map (·.2))))
theorem kv_vals {κ : Type} : ∀ {kvs : List (κ × V)} {vs : List (κ × Value)} {acc : List Value}, KV kvs vs → acc.length = vs.length → (∀ (j : Nat) v, acc[j]? = some v → ∃ k, vs[j]? = some (k, v)) → Vals (kvs.map (·.2)) acc := by
  intro kvs vs acc h
  unfold KV at h
  induction h generalizing acc with
  | nil =>
    intro hl _
    cases acc with
    | nil => exact .nil
    | cons _ _ => cases hl
  | cons r t ih =>
    intro hl hx
    cases acc with
    | nil => cases hl
    | cons a acc =>
      obtain ⟨k, e⟩ := hx 0 a rfl
      have e := Option.some.inj e
      refine .cons ?_ (ih (by simpa using hl) fun j v e => by simpa using hx (j + 1) v (by simpa using e))
      have r2 := r.2
      rw [e] at r2
      exact r2
section
variable {X : Cx} {e : Expr} {te : TE} {p apos cpos pos : Pos}
theorem pe_listVals (hc : X.calm = true) (he : PE X e te) (hg : Gl X "list") (hm : X.mg "list" = none) (hv : bootBuiltins "list" = some (.type "list")) (hbase : attributeBase e "values" X.env (eval e X.env) = eval e X.env := by rfl) (hline : (apos.endLine == cpos.line) = true := by rfl)
    (hs : starEach [.Call (.Attribute e "values" apos) [] [] cpos] X.env = (false, eval (.Call (.Attribute e "values" apos) [] [] cpos) X.env) :: starEach [] X.env := by rfl) :
    PE X (.Call (.Name "list" p) [.Call (.Attribute e "values" apos) [] [] cpos] [] pos) (tListVals te) := by
  refine ⟨fun pins s σ H Q I hq => ?_⟩
  refine wpAny_Call_Name_kw (ld_blt I hg hm hv ?_)
  refine PyProof.Rows.callWith_type1 ?_ hs rfl
  rw [hs]
  show wpAny _ _ (spliced ((false, eval (.Call (.Attribute e "values" apos) [] [] cpos) X.env) :: backTo pos (starEach [] X.env))) _ _ s
  refine Calls.spliced_cons ?_
  refine wpAny_Call_method (T := "dict") (id := "dict.values") hbase rfl hline F.plainAttrs_dict F.slot_dict_values F.type_dict_values (thn (he.run pins s σ H _ I hq) fun u s1 ⟨x, H1, I1, rx, d, kvs, ex, hd, q⟩ => ?_)
  subst ex
  obtain rfl : u = Value.ref d := rx
  obtain ⟨hz, hs0, vs, kv, hdo⟩ := I1.hok d _ hd
  obtain ⟨ep, hat⟩ := hdo.dictAt
  have lk : kvs.length = vs.length := Paired.length kv
  have I2 : Inv X pins σ H1 { s1 with heap := s1.heap.push { cls := .type "dict_values", data := .fields #[.ref d] } } := I1.kept (t' := s1.toks) fun b ob q => Heap.get?_push_of_some _ q
  refine ⟨hdo.typeIs, hdo.mapOf.noDict, ?_⟩
  show wpAny _ _ (callWith cpos (.builtin "dict.values") [.ref d] [] []) _ X.xe s1
  refine method_meetsIn F.slot_dict_values F.entry_dict_values rfl (PySem.evalArgs_none ⟨rfl, hdo.typeIs, F.args_dict_values_1 _, _, meets_dict_values (mixKind X.prog X.w) d hs0, ⟨vs, hdo⟩, ?_⟩)
  refine Calls.spliced_nil ?_
  refine PySem.W.kdl_call (PySem.W.kdl_values (knd := mixKind X.prog X.w) (kvs := vs) (ep := ep)) (I1.ok.hd hc) ⟨⟨_, Heap.get?_push_size _ rfl, rfl, rfl⟩, hat.push _⟩ (by omega) fun h' tk acc c hk hS hacc => ?_
  have hl : (kvs.map (·.2)).length ≤ sizeLine := by rw [List.length_map]; exact hz
  refine ⟨.ref _, upd H1 _ (.lst (kvs.map (·.2))), I2.laid (t' := tk) hk (Nat.le_refl _) ⟨hl, acc.toList, c, kv_vals kv (by rw [Array.length_toList]; exact hacc.1) (fun j v e => hacc.2 j v (by rw [← Array.getElem?_toList]; exact e)), ?_⟩, rfl, q _ (I2.hok.fresh (Nat.le_refl _))⟩
  rw [Array.toArray_toList]
  exact hS
end
end Z
set_option pp.maxSteps 700
set_option Elab.async false
set_option linter.all false
set_option maxRecDepth 100000
set_option maxHeartbeats 4000000
open SX (S S_inj S_len S_cat)
namespace Z
open PySem PySem.Spec PyProof.Rows L2
open C8 (pss_cut tCut)
local macro_rules | `(tactic| walk_at "num") => `(tactic| first | rfl | omega | decide | exact Nat.le_of_lt (small1000 (by simp)) | exact ⟨by omega, by omega⟩ | exact ⟨by omega, by omega, by omega⟩ | exact ⟨by decide, by decide, by decide⟩ | exact Or.inl ⟨by omega, by omega⟩ | exact Or.inr ⟨by omega, by omega⟩)
local macro_rules | `(tactic| walk_at "go") => `(tactic| repeat (first | refine ⟨_, rfl, ?_⟩ | refine ⟨_, _, rfl, rfl, ?_⟩ | refine ⟨_, _, rfl, ?_⟩ | (refine ⟨_, _, rfl, rfl, ?_, ?_⟩; focus walk_at "num") | refine Or.inl ⟨_, rfl, ?_⟩ | refine ⟨_, _, _, _, rfl, rfl, (by assumption), (by rfl), ?_⟩ | refine ⟨_, _, _, _, _, rfl, (by assumption), (by assumption), (by assumption), (by rfl), ?_⟩ | refine ⟨rfl, ?_⟩ | (refine And.intro ?_ ?_; focus walk_at "num")))
abbrev s_is_party : Stmt := topS 8
abbrev N_is_party : List Str := ["text"]
abbrev P_is_party : List Str := ["text"]
theorem sc_is_party : FnScope N_is_party P_is_party (defScope s_is_party) := ⟨rfl, rfl, rfl, by decide +kernel, rfl, by decide +kernel, by decide +kernel⟩
abbrev s_is_pair : Stmt := topS 9
abbrev N_is_pair : List Str := ["text"]
abbrev P_is_pair : List Str := ["text"]
theorem sc_is_pair : FnScope N_is_pair P_is_pair (defScope s_is_pair) := ⟨rfl, rfl, rfl, by decide +kernel, rfl, by decide +kernel, by decide +kernel⟩
theorem in_abc {i : Nat} (h : i < 6) : decide (97 + i ∈ (Str.ofString "abcdef").cps.toList) = true := (by decide +kernel : ∀ i, i < 6 → decide (97 + i ∈ (Str.ofString "abcdef").cps.toList) = true) i h
section
variable {P : Program} {w : World} {K : PySem.W.Frag} {mg : Str → Option Value} {base : Heap} {f : Addr} {fd : FuncData}
def spParty : Sp := fun vs H Q _ => ∃ i : Nat, vs = [.str (lt1 i)] ∧ i < 6 ∧ Q (.bl true) H
theorem ok_is_party (F : FnP K "is_party" s_is_party f fd) (m_len : mg "len" = none) (tok_PARTIES : Tok) (g_PARTIES : mg "PARTIES" = some (.str "abcdef" tok_PARTIES)) : FnOk P w K mg base CX0 1 f fd P_is_party spParty := by
  refine F.ok sc_is_party (fun vs H Q E h => ?_) (fun cdv A outer s H vs Q E hr h => ?_)
  · obtain ⟨i, rfl, _⟩ := h
    rfl
  · obtain ⟨i, rfl, li, q⟩ := h
    refine ⟨_, PSs.nox (pss_one (ps_ret (pe_and (pe_cmpR op_eq (pe_callB call_len_str (by rfl) m_len PySem.boot_len (pa_cons (pv 0) pa_nil)) pe_int (nomark _)) (pe_one (pe_cmpR op_in_sign (pv 0) (pe_glob (by rfl) g_PARTIES (relv_str (x := "abcdef"))) (by rfl)))))), ?_⟩
    walk_at "go"
    have e1 : (lt1 i).length = 1 := by unfold lt1; rw [S_len]; rfl
    rw [e1]
    refine ⟨szl (by decide), ?_⟩
    walk_at "go"
    rw [in_abc li]
    exact q
def spPair : Sp := fun vs H Q _ => ∃ k : Nat, vs = [.str (ky k)] ∧ k < 36 ∧ k / 6 ≠ k % 6 ∧ Q (.bl true) H
theorem ok_is_pair (F : FnP K "is_pair" s_is_pair f fd) (m_len : mg "len" = none) (c_is_party : Cal P w K mg base 1 "is_party" spParty) : FnOk P w K mg base CX0 2 f fd P_is_pair spPair := by
  refine F.ok sc_is_pair (fun vs H Q E h => ?_) (fun cdv A outer s H vs Q E hr h => ?_)
  · obtain ⟨k, rfl, _⟩ := h
    rfl
  · obtain ⟨k, rfl, lk, nk, q⟩ := h
    refine ⟨_, PSs.nox (pss_one (ps_ret (pe_and (pe_cmpR op_eq (pe_callB call_len_str (by rfl) m_len PySem.boot_len (pa_cons (pv 0) pa_nil)) pe_int (nomark _)) (pe_and (pe_cl c_is_party hr (by decide) (by rfl) (pa_cons (pe_ix ix_str (pv 0) pe_int (fun _ _ => rfl)) pa_nil)) (pe_and (pe_cl c_is_party hr (by decide) (by rfl) (pa_cons (pe_ix ix_str (pv 0) pe_int (fun _ _ => rfl)) pa_nil)) (pe_one (pe_cmpR op_ne (pe_ix ix_str (pv 0) pe_int (fun _ _ => rfl)) (pe_ix ix_str (pv 0) pe_int (fun _ _ => rfl)) (nomark _)))))))), ?_⟩
    walk_at "go"
    have e1 : (ky k).length = 2 := by unfold ky; rw [S_len]; rfl
    rw [e1]
    refine ⟨szl (by decide), ?_⟩
    walk_at "go"
    refine ⟨ky k, _, 97 + k / 6, rfl, rfl, by rw [e1]; exact szl (by decide), rfl, ?_⟩
    walk_at "go"
    refine ⟨ky k, _, 97 + k % 6, rfl, rfl, by rw [e1]; exact szl (by decide), rfl, ?_⟩
    walk_at "go"
    refine ⟨ky k, _, 97 + k / 6, rfl, rfl, by rw [e1]; exact szl (by decide), rfl, ?_⟩
    walk_at "go"
    refine ⟨ky k, _, 97 + k % 6, rfl, rfl, by rw [e1]; exact szl (by decide), rfl, ?_⟩
    walk_at "go"
    have e2 : (V.str (lt1 (k / 6)) = V.str (lt1 (k % 6))) ↔ False := ⟨fun z => nk (lt1_inj (V.str.inj z)), False.elim⟩
    show Q (V.bl (!decide (V.str (lt1 (k / 6)) = V.str (lt1 (k % 6))))) H
    rw [decide_eq_false (fun z => e2.mp z)]
    exact q
end
end Z
set_option pp.maxSteps 700
set_option Elab.async false
set_option linter.all false
set_option maxRecDepth 100000
set_option maxHeartbeats 4000000
open SX (S S_inj S_len S_cat)
namespace Z
open PySem PySem.Spec PyProof.Rows L2
open C8 (pss_cut tCut)
local macro_rules | `(tactic| walk_at "num") => `(tactic| first | rfl | omega | decide | exact Nat.le_of_lt (small1000 (by simp)) | exact ⟨by omega, by omega⟩ | exact ⟨by omega, by omega, by omega⟩ | exact ⟨by decide, by decide, by decide⟩ | exact Or.inl ⟨by omega, by omega⟩ | exact Or.inr ⟨by omega, by omega⟩)
local macro_rules | `(tactic| walk_at "go") => `(tactic| repeat (first | refine ⟨_, rfl, ?_⟩ | refine ⟨_, _, rfl, rfl, ?_⟩ | refine ⟨_, _, rfl, ?_⟩ | (refine ⟨_, _, rfl, rfl, ?_, ?_⟩; focus walk_at "num") | refine Or.inl ⟨_, rfl, ?_⟩ | refine ⟨_, _, _, _, rfl, rfl, (by assumption), (by rfl), ?_⟩ | refine ⟨_, _, _, _, _, rfl, (by assumption), (by assumption), (by assumption), (by rfl), ?_⟩ | refine ⟨rfl, ?_⟩ | (refine And.intro ?_ ?_; focus walk_at "num")))
abbrev s_check_debts : Stmt := topS 13
abbrev N_check_debts : List Str := ["debts", "pair", "coins"]
abbrev P_check_debts : List Str := ["debts"]
theorem sc_check_debts : FnScope N_check_debts P_check_debts (defScope s_check_debts) := ⟨rfl, rfl, rfl, by decide +kernel, rfl, by decide +kernel, by decide +kernel⟩
abbrev s_tidy : Stmt := topS 14
abbrev N_tidy : List Str := ["debts", "pair"]
abbrev P_tidy : List Str := ["debts"]
theorem sc_tidy : FnScope N_tidy P_tidy (defScope s_tidy) := ⟨rfl, rfl, rfl, by decide +kernel, rfl, by decide +kernel, by decide +kernel⟩
section
variable {P : Program} {w : World} {K : PySem.W.Frag} {mg : Str → Option Value} {base : Heap} {f : Addr} {fd : FuncData}
theorem dc_gen {J : It} {n : Nat} {g : TG} {tt : TT} {tk tv : TE} {vs : List Nat} {σ : L2.St} {H1 : Hp} {D : Addr} {Qd : Hp → Prop} (Pv : Nat → Hp → Prop) (h0 : Pv 0 (upd H1 D (.dK []))) (hgo : ∀ i H, i < n → Pv i H → J.go i H) (hst : ∀ H, Pv n H → J.stop n H)
    (hs : ∀ i H x H', i < n → Pv i H → J.yld i H x H' → g x (wipe σ vs) H' fun σ2 H2 => wipe σ2 vs = wipe σ vs ∧ tt σ2 H2 fun b H3 =>
      if b = true then tk σ2 H3 fun y H4 => tv σ2 H4 fun z H5 => ∃ kvs k, y = kV k ∧ H5 D = some (.dK kvs) ∧ kvs.length < sizeLine ∧ Pv (i + 1) (upd H5 D (.dK (putK kvs k z))) else Pv (i + 1) H3) (hd : ∀ H, Pv n H → Qd H) :
    ∃ W : Nat → Nat → Hp → Prop, (∃ m, W 0 m (upd H1 D (.dK []))) ∧ ∀ i m H, W i m H →
      (J.stop i H ∧ Qd H) ∨ (J.go i H ∧ ∃ Nx : Hp → Prop, (∀ H', Nx H' → ∃ m', m' < m ∧ W (i + 1) m' H') ∧ ∀ x H', J.yld i H x H' → g x (wipe σ vs) H' fun σ2 H2 => wipe σ2 vs = wipe σ vs ∧ tt σ2 H2 fun b H3 =>
        if b = true then tk σ2 H3 fun y H4 => tv σ2 H4 fun z H5 => ∃ kvs k, y = kV k ∧ H5 D = some (.dK kvs) ∧ kvs.length < sizeLine ∧ Nx (upd H5 D (.dK (putK kvs k z))) else Nx H3) := by
  refine ⟨fun i m H => m = n - i ∧ i ≤ n ∧ Pv i H, ⟨n, by omega, Nat.zero_le _, h0⟩, fun i m H w => ?_⟩
  obtain ⟨rfl, hi, p⟩ := w
  by_cases hlt : i < n
  · exact .inr ⟨hgo i H hlt p, Pv (i + 1), fun H' z => ⟨n - (i + 1), by omega, rfl, hlt, z⟩, fun x H' y => hs i H x H' hlt p y⟩
  · have e : i = n := by omega
    subst e
    exact .inl ⟨hst H p, hd H p⟩
/-- a key: two different parties -/
def KOk (k : Nat) : Prop := k < 36 ∧ k / 6 ≠ k % 6
def spCheck : Sp := fun vs H Q _ => ∃ (d : Addr) (ks : List Nat) (g : Nat → Int), vs = [.ref d] ∧ H d = some (.dK (tab ky ks g)) ∧ (∀ k ∈ ks, KOk k ∧ 0 ≤ g k) ∧ ks.length ≤ 1000 ∧ ∀ H', Same H H' → Q .non H'
theorem ok_check_debts (F : FnP K "check_debts" s_check_debts f fd) (m_list : mg "list" = none) (c_is_pair : Cal P w K mg base 2 "is_pair" spPair) : FnOk P w K mg base CX0 3 f fd P_check_debts spCheck := by
  refine F.ok sc_check_debts (fun vs H Q E h => ?_) (fun cdv A outer s H vs Q E hr h => ?_)
  · obtain ⟨d, ks, g, rfl, _⟩ := h
    rfl
  · obtain ⟨d, ks, g, rfl, hd, hk, lk, q⟩ := h
    refine ⟨_, PSs.nox (pss_cons (ps_lock (ps_for PassesOwn.never rfl (pi_keys (pv 0)) (pg_name (i := 1) sc_check_debts.nd rfl (by first | exact .inl rfl | exact .inr rfl))
        (pss_one (ps_if (pt_not (pt_val (pe_cl c_is_pair hr (by decide) (by rfl) (pa_cons (pv 1) pa_nil)))) (pss_one ps_never) pss_nil))))
      (pss_one (ps_for PassesOwn.never rfl (pi_list (pe_listVals rfl (pv 0) (by rfl) m_list (by decide +kernel))) (pg_name (i := 2) sc_check_debts.nd rfl (by first | exact .inl rfl | exact .inr rfl))
        (pss_one (ps_if (pt_cmpR op_lt (pv 2) pe_int (nomark _)) (pss_one ps_never) pss_nil))))), ?_⟩
    walk_at "go"
    refine ⟨d, _, hd, trivial, fun od => ?_⟩
    have fz : (upd H d (.frz od (.dK (tab ky ks g)))) d = some (.frz od (.dK (tab ky ks g))) := upd_same
    have sb : SB d H (upd H d (.frz od (.dK (tab ky ks g)))) := fun b o n e => by rw [upd_ne n]; exact e
    generalize upd H d (.frz od (.dK (tab ky ks g))) = J at fz sb
    walk_at "go"
    refine ⟨d, od, rfl, .inl ⟨_, fz, ?_⟩⟩
    refine for_gen (n := ks.length) (fun i σ J1 => J1 = J ∧ ∃ v1 v2, σ = [some (.ref d), v1, v2]) ⟨rfl, _, _, rfl⟩ ?_ ?_ ?_ ?_
    · rintro i σ J1 hi ⟨rfl, _⟩
      exact ⟨fz, by rw [tab_len]; exact hi⟩
    · rintro σ J1 ⟨rfl, _⟩
      exact ⟨fz, by rw [tab_len]; exact Nat.le_refl _⟩
    · rintro i σ J1 x J2 hi ⟨rfl, v1, v2, rfl⟩ ⟨rfl, k, v, e, rfl⟩
      rw [tab_at hi] at e
      cases e
      have hk1 := hk _ (List.getElem_mem hi)
      generalize ks[i] = k at hk1
      walk_at "go"
      refine ⟨hk1.1.1, hk1.1.2, ?_⟩
      walk_at "go"
      exact ⟨_, _, rfl⟩
    rintro σ J1 ⟨rfl, v1, v2, rfl⟩
    walk_at "go"
    have s1 : Same H (upd J1 d (.dK (tab ky ks g))) := fun a o e => by
      by_cases c : a = d
      · subst c
        rw [upd_same, ← hd, e]
      · rw [upd_ne c]
        exact sb a o c e
    have hd1 : (upd J1 d (.dK (tab ky ks g))) d = some (.dK (tab ky ks g)) := upd_same
    generalize upd J1 d (.dK (tab ky ks g)) = J3 at s1 hd1
    walk_at "go"
    refine ⟨d, _, rfl, hd1, fun l nl => ?_⟩
    have s2 := s1.trans (same_new (o := .lst ((tab ky ks g).map (·.2))) nl)
    have el : (upd J3 l (.lst ((tab ky ks g).map (·.2)))) l = some (.lst (ks.map fun k => V.int (g k))) := by
      rw [upd_same]
      unfold tab
      rw [List.map_map]
      rfl
    generalize upd J3 l (.lst ((tab ky ks g).map (·.2))) = J4 at s2 el
    walk_at "go"
    refine ⟨⟨_, SqL.of el⟩, ?_⟩
    refine for_gen (n := ks.length) (fun i σ J1 => J1 = J4 ∧ ∃ v1 v2, σ = [some (.ref d), v1, v2]) ⟨rfl, _, _, rfl⟩ ?_ ?_ ?_ ?_
    · rintro i σ J1 hi ⟨rfl, _⟩
      exact ⟨_, .int (g ks[i]), SqL.of el, by rw [List.getElem?_map, List.getElem?_eq_getElem hi]; rfl⟩
    · rintro σ J1 ⟨rfl, _⟩
      exact ⟨_, SqL.of el, by rw [List.length_map]; exact Nat.le_refl _⟩
    · rintro i σ J1 x J2 hi ⟨rfl, v1, v2, rfl⟩ ⟨rfl, hx⟩
      have hx := hx _ (SqL.of el)
      rw [List.getElem?_map, List.getElem?_eq_getElem hi] at hx
      cases hx
      have g0 := (hk _ (List.getElem_mem hi)).2
      walk_at "go"
      refine ite2 (fun e => ?_) (fun e => ?_)
      · have e : g ks[i] < 0 := of_decide_eq_true e
        exact absurd e (by omega)
      · walk_at "go"
        exact ⟨_, _, rfl⟩
    · rintro σ J1 ⟨rfl, v1, v2, rfl⟩
      exact q _ s2
def spTidy : Sp := fun vs H Q _ => ∃ (d : Addr) (ks : List Nat) (g : Nat → Int), vs = [.ref d] ∧ H d = some (.dK (tab ky ks g)) ∧ ks.Nodup ∧ ks.length < 64 ∧ ∀ (p : Addr) (js : List Nat) H', Same H H' → js.Pairwise (· < ·) → (∀ k, k ∈ js ↔ k ∈ ks ∧ 0 < g k) → H p = none → H' p = some (.dK (tab ky js g)) → Q (.ref p) H'
theorem ok_tidy (F : FnP K "tidy" s_tidy f fd) (m_list : mg "list" = none) (m_sorted : mg "sorted" = none) : FnOk P w K mg base CX0 1 f fd P_tidy spTidy := by
  refine F.ok sc_tidy (fun vs H Q E h => ?_) (fun cdv A outer s H vs Q E hr h => ?_)
  · obtain ⟨d, ks, g, rfl, _⟩ := h
    rfl
  · obtain ⟨d, ks, g, rfl, hd, nd, lk, q⟩ := h
    refine ⟨_, PSs.nox (pss_one (ps_ret (pe_dc (own := [("pair", 1)]) (g := (gName 1)) (by rfl) sc_tidy.nd (pi_list (pe_callB cr_sortedS (by rfl) m_sorted (by decide +kernel) (pa_cons (pe_callTy (call_list_dK rfl) (by rfl) m_list (by decide +kernel) (pa_cons (pv 0) pa_nil)) pa_nil))) (blkOk_by (own := [("pair", 1)]) (N := N_tidy) (sc := defScope s_tidy) (by decide +kernel)) (fun _ _ _ _ _ => (pg_name (i := 1) sc_tidy.nd rfl (by first | exact .inl rfl | exact .inr rfl))) (fun _ _ _ _ _ => (pts_one (pt_cmpR op_gt (pe_dget (hu_of hr) (pv 0) (pv 1) (fun _ _ => rfl)) pe_int (nomark _)))) (fun _ _ _ _ _ => (pv 1)) (fun _ _ _ _ _ => (pe_dget (hu_of hr) (pv 0) (pv 1) (fun _ _ => rfl)))))), ?_⟩
    walk_at "go"
    refine ⟨d, _, rfl, hd, fun q1 nq1 => ?_⟩
    rw [tab_filter]
    have s1 := same_new (o := .lst (ks.map fun k => V.str (ky k))) nq1
    have e1 : (upd H q1 (.lst (ks.map fun k => V.str (ky k)))) q1 = some (.lst ((ks.map ky).map V.str)) := by
      rw [upd_same, List.map_map]
      rfl
    generalize upd H q1 (.lst (ks.map fun k => V.str (ky k))) = H1 at s1 e1
    walk_at "go"
    refine ⟨q1, ks.map ky, rfl, SqL.of e1, by rw [List.length_map]; exact lk, fun ys p pm srt np => ?_⟩
    obtain ⟨js, rfl, pj⟩ := perm_ky pm
    have ndj : js.Nodup := pj.nodup_iff.mpr nd
    have asc := asc_of_nodup (sorted_ky srt) ndj
    have s2 := s1.trans (same_new (o := .lst ((js.map ky).map V.str)) np)
    have e2 : (upd H1 p (.lst ((js.map ky).map V.str))) p = some (.lst ((js.map ky).map V.str)) := upd_same
    generalize upd H1 p (.lst ((js.map ky).map V.str)) = H2 at s2 e2
    have lj : js.length < 64 := by rw [pj.length_eq]; exact lk
    walk_at "go"
    refine ⟨⟨_, SqL.of e2⟩, fun D nD => ?_⟩
    have nDH : H D = none := none_of s2 nD
    refine dc_gen (n := js.length) (fun i J => Same H2 J ∧ J D = some (.dK (tab ky ((js.take i).filter fun k => decide (0 < g k)) g))) ⟨same_new nD, upd_same⟩ ?_ ?_ ?_ ?_
    · rintro i J hi ⟨s3, _⟩
      exact ⟨_, .str (ky js[i]), s3.seq (SqL.of e2), by rw [List.getElem?_map, List.getElem?_map, List.getElem?_eq_getElem hi]; rfl⟩
    · rintro J ⟨s3, _⟩
      exact ⟨_, s3.seq (SqL.of e2), by rw [List.length_map, List.length_map]; exact Nat.le_refl _⟩
    · rintro i J x J' hi ⟨s3, eD⟩ ⟨rfl, hx⟩
      have hx := hx _ (s3.seq (SqL.of e2))
      rw [List.getElem?_map, List.getElem?_map, List.getElem?_eq_getElem hi] at hx
      cases hx
      have km : js[i] ∈ ks := pj.mem_iff.mp (List.getElem_mem hi)
      have tk : (js.take (i + 1)).filter (fun k => decide (0 < g k)) = (js.take i).filter (fun k => decide (0 < g k)) ++ (if 0 < g js[i] then [js[i]] else []) := by
        rw [List.take_succ, List.getElem?_eq_getElem hi, List.filter_append]
        congr 1
        by_cases c : 0 < g js[i]
        · rw [if_pos c]
          simp [c]
        · rw [if_neg c]
          simp [c]
      have nin : js[i] ∉ (js.take i).filter (fun k => decide (0 < g k)) := fun z => by
        have z := (List.mem_filter.mp z).1
        obtain ⟨j, hj, ej⟩ := List.getElem_of_mem z
        rw [List.length_take] at hj
        rw [List.getElem_take] at ej
        have := (List.getElem_inj ndj).mp ej
        omega
      generalize js[i] = k at km tk nin
      have hd3 := s3 _ _ (s2 _ _ hd)
      have dg : DGet J' d (.str (ky k)) (some (.int (g k))) := by
        have z := DGet.k (k := Sum.inr (ky k)) hd3
        rw [tab_val (fun _ _ => ky_inj), if_pos km] at z
        exact z
      refine ⟨rfl, ?_⟩
      walk_at "go"
      refine ⟨d, _, rfl, dg, ?_⟩
      walk_at "go"
      refine ite2 (fun e => ?_) (fun e => ?_)
      · have e : 0 < g k := of_decide_eq_true e
        rw [if_pos e] at tk
        walk_at "go"
        refine ⟨d, _, rfl, dg, ?_⟩
        refine ⟨_, Sum.inr (ky k), rfl, eD, by rw [tab_len]; exact szlt (Nat.le_trans (List.length_filter_le ..) (by rw [List.length_take]; omega)), Z.Same.mut s3 nD, ?_⟩
        rw [upd_same, tab_put (fun _ _ => ky_inj), if_neg nin, tk]
        refine congrArg _ (congrArg _ (tab_congr fun j hj => ?_))
        by_cases c : j = k
        · rw [if_pos c, c]
        · rw [if_neg c]
      · have e : ¬ 0 < g k := fun z => e (decide_eq_true z)
        rw [if_neg e, List.append_nil] at tk
        exact ⟨s3, by rw [tk]; exact eD⟩
    · rintro J ⟨s3, eD⟩
      rw [List.take_length] at eD
      refine q D _ J (s2.trans s3) (asc.filter _) (fun k => ?_) nDH eD
      rw [List.mem_filter, pj.mem_iff, decide_eq_true_iff]
end
end Z
set_option Elab.async false
set_option linter.all false
set_option maxRecDepth 100000
set_option maxHeartbeats 4000000
namespace SO
theorem nodup_len6 : ∀ {n : Nat} {l : List Nat}, l.Nodup → (∀ x ∈ l, x < n) → l.length ≤ n := by
  intro n
  induction n with
  | zero =>
    intro l _ h
    cases l with
    | nil => exact Nat.le_refl _
    | cons x r => exact absurd (h x List.mem_cons_self) (Nat.not_lt_zero _)
  | succ n ih =>
    intro l nd h
    have z := ih (l := l.erase n) (nd.erase _) (fun x hx => by
      have h1 := h x (List.mem_of_mem_erase hx)
      have h2 : x ≠ n := fun e => nd.not_mem_erase (e ▸ hx)
      omega)
    by_cases c : n ∈ l
    · rw [List.length_erase_of_mem c] at z
      omega
    · rw [List.erase_of_not_mem c] at z
      omega
end SO
namespace Z
open PySem PySem.Spec PyProof.Rows L2 SO
open SX (S S_inj S_len S_cat)
theorem tab_get {H : Hp} {D : Addr} {key : Nat → Str} (inj : ∀ a b, key a = key b → a = b) {ks : List Nat} {g : Nat → Int} {k : Nat} (e : H D = some (.dK (tab key ks g))) (m : k ∈ ks) : DGet H D (.str (key k)) (some (.int (g k))) := by
  have z := DGet.k (k := Sum.inr (key k)) e
  rw [tab_val inj, if_pos m] at z
  exact z
def U : List Nat := List.range 36
/-- a dict of debts; zero outside -/
structure Db (H : Hp) (D : Addr) (ks : List Nat) (g : Nat → Int) : Prop where
  e : H D = some (.dK (tab ky ks g))
  nd : ks.Nodup
  ok : ∀ k ∈ ks, KOk k ∧ 0 ≤ g k
  z : ∀ k, k ∉ ks → g k = 0
theorem Db.len {H : Hp} {D : Addr} {ks : List Nat} {g : Nat → Int} (d : Db H D ks g) : ks.length ≤ 36 := nodup_len6 d.nd fun k m => (d.ok k m).1.1
theorem Db.nn {H : Hp} {D : Addr} {ks : List Nat} {g : Nat → Int} (d : Db H D ks g) (k : Nat) : 0 ≤ g k := by
  by_cases m : k ∈ ks
  · exact (d.ok k m).2
  · rw [d.z k m]
    exact Int.le_refl _
theorem Db.sub {H : Hp} {D : Addr} {ks : List Nat} {g : Nat → Int} (d : Db H D ks g) : ∀ k ∈ ks, k ∈ U := fun k m => List.mem_range.mpr (d.ok k m).1.1
theorem Db.mono {H H' : Hp} {D : Addr} {ks : List Nat} {g : Nat → Int} (d : Db H D ks g) (s : Same H H') : Db H' D ks g := ⟨s _ _ d.e, d.nd, d.ok, d.z⟩
end Z
set_option Elab.async false
set_option linter.all false
set_option maxRecDepth 100000
set_option maxHeartbeats 4000000
namespace Z
open PySem PySem.Spec PyProof.Rows L2
open SX (S S_inj S_len S_cat)
theorem fltL_opt {α : Type} (P : α → Bool) (G : α → V) (zs : List α) : fltL (fun k => (zs[k]?.map P).getD false) (fun k => (zs[k]?.map G).getD .non) zs.length = (zs.filter P).map G := by
  have e1 : (List.range zs.length).map (fun k => zs[k]?) = zs.map some := by
    refine List.ext_getElem (by rw [List.length_map, List.length_map, List.length_range]) fun i h1 h2 => ?_
    rw [List.length_map] at h2
    rw [List.getElem_map, List.getElem_map, List.getElem_range, List.getElem?_eq_getElem h2]
  have e2 : fltL (fun k => (zs[k]?.map P).getD false) (fun k => (zs[k]?.map G).getD .non) zs.length = (((List.range zs.length).map (fun k => zs[k]?)).filter (fun o => (o.map P).getD false)).map (fun o => (o.map G).getD .non) := by
    rw [List.filter_map, List.map_map]
    rfl
  rw [e2, e1, List.filter_map, List.map_map]
  rfl
theorem lc_opt {α : Type} {J : It} {D : Addr} {H0 : Hp} {i : Nat} {tt : TT} {te : TE} {vs : List Nat} {σ : L2.St} {Qd : Hp → Prop} (zs : List α) (v : α → V) (p : α → Bool) (g : α → V) (hn : zs.length ≤ 1000000) (nD : H0 D = none)
    (hgo : ∀ k H1, k < zs.length → Same H0 H1 → J.go k H1) (hst : ∀ H1, Same H0 H1 → J.stop zs.length H1) (hy : ∀ k (hk : k < zs.length) H1 x H2, Same H0 H1 → J.yld k H1 x H2 → H2 = H1 ∧ x = v zs[k])
    (hw : ∀ x : V, wipe ((wipe σ vs).set i (some x)) vs = wipe σ vs)
    (hb : ∀ z H1 (Q : Bool → Hp → Prop), z ∈ zs → Same H0 H1 → Q (p z) H1 → tt ((wipe σ vs).set i (some (v z))) H1 Q)
    (ht : ∀ z H1 (Q : VK), z ∈ zs → p z = true → Same H0 H1 → Q (g z) H1 → te ((wipe σ vs).set i (some (v z))) H1 Q)
    (hd : ∀ H1, Same H0 H1 → H1 D = some (.lst ((zs.filter p).map g)) → Qd H1) : lcW J (gName i) tt te vs σ D Qd H0 := by
  have at_ : ∀ {β : Type} (f : α → β) (d : β) k (hk : k < zs.length), (zs[k]?.map f).getD d = f zs[k] := fun f d k hk => by
    rw [List.getElem?_eq_getElem hk]
    rfl
  refine lc_flt (n := zs.length) (fun k => (zs[k]?.map v).getD .non) (fun k => (zs[k]?.map p).getD false) (fun k => (zs[k]?.map g).getD .non) hn nD hgo hst
    (fun k H1 x H2 hk s y => by obtain ⟨e1, e2⟩ := hy k hk H1 x H2 s y; exact ⟨by rw [e1]; exact Same.refl _, by rw [at_ _ _ k hk]; exact e2⟩) (fun k => hw _)
    (fun k H1 Q hk s q => by rw [at_ _ _ k hk]; exact hb _ _ _ (List.getElem_mem hk) s (by rw [at_ _ _ k hk] at q; exact q _ (Same.refl _)))
    (fun k H1 Q hk e s q => by rw [at_ _ _ k hk] at e ⊢; exact ht _ _ _ (List.getElem_mem hk) e s (by rw [at_ _ _ k hk] at q; exact q _ (Same.refl _))) (fun H1 s e => hd H1 s ?_)
  rw [e, fltL_opt]
/-- a comprehension over the keys of a locked dict -/
theorem lc_keys {d D : Addr} {od : Obj} {ks : List Nat} {g0 : Nat → Int} {H0 : Hp} {i : Nat} {tt : TT} {te : TE} {vs : List Nat} {σ : L2.St} {Qd : Hp → Prop} (p : Nat → Bool) (g : Nat → V) (fz : H0 d = some (.frz od (.dK (tab ky ks g0)))) (hn : ks.length ≤ 1000000) (nD : H0 D = none)
    (hw : ∀ x : V, wipe ((wipe σ vs).set i (some x)) vs = wipe σ vs)
    (hb : ∀ k H1 (Q : Bool → Hp → Prop), k ∈ ks → Same H0 H1 → Q (p k) H1 → tt ((wipe σ vs).set i (some (.str (ky k)))) H1 Q)
    (ht : ∀ k H1 (Q : VK), k ∈ ks → p k = true → Same H0 H1 → Q (g k) H1 → te ((wipe σ vs).set i (some (.str (ky k)))) H1 Q)
    (hd : ∀ H1, Same H0 H1 → H1 D = some (.lst ((ks.filter p).map g)) → Qd H1) : lcW (Itk d od (tab ky ks g0)) (gName i) tt te vs σ D Qd H0 :=
  lc_opt ks (fun k => .str (ky k)) p g hn nD (fun k H1 hk s => ⟨s _ _ fz, by rw [tab_len]; exact hk⟩) (fun H1 s => ⟨s _ _ fz, by rw [tab_len]; exact Nat.le_refl _⟩) (fun k hk H1 x H2 s y => by
    obtain ⟨e1, kk, v, e, rfl⟩ := y
    rw [tab_at hk] at e
    cases e
    exact ⟨e1, rfl⟩) hw hb ht hd
/-- a comprehension over a list -/
theorem lc_lv {α : Type} {K : PySem.W.Frag} {a D : Addr} {H0 : Hp} {i : Nat} {tt : TT} {te : TE} {vs : List Nat} {σ : L2.St} {Qd : Hp → Prop} (zs : List α) (v : α → V) (p : α → Bool) (g : α → V) (hS : SqL K H0 a (zs.map v)) (hn : zs.length ≤ 1000000) (nD : H0 D = none)
    (hw : ∀ x : V, wipe ((wipe σ vs).set i (some x)) vs = wipe σ vs)
    (hb : ∀ z H1 (Q : Bool → Hp → Prop), z ∈ zs → Same H0 H1 → Q (p z) H1 → tt ((wipe σ vs).set i (some (v z))) H1 Q)
    (ht : ∀ z H1 (Q : VK), z ∈ zs → p z = true → Same H0 H1 → Q (g z) H1 → te ((wipe σ vs).set i (some (v z))) H1 Q)
    (hd : ∀ H1, Same H0 H1 → H1 D = some (.lst ((zs.filter p).map g)) → Qd H1) : lcW (Itl K a) (gName i) tt te vs σ D Qd H0 :=
  have ex : ∀ k (hk : k < zs.length), (zs.map v)[k]? = some (v zs[k]) := fun k hk => by
    rw [List.getElem?_map, List.getElem?_eq_getElem hk]
    rfl
  lc_opt zs v p g hn nD (fun k H1 hk s => ⟨_, _, s.seq hS, ex k hk⟩) (fun H1 s => ⟨_, s.seq hS, by rw [List.length_map]; exact Nat.le_refl _⟩) (fun k hk H1 x H2 s y => ⟨y.1, Option.some.inj ((y.2 _ (s.seq hS)).symm.trans (ex k hk))⟩) hw hb ht hd
theorem frz_back {H J : Hp} {D : Addr} {od : Obj} {kv : List (Key × V)} (e : H D = some (.dK kv)) (s : Same (upd H D (.frz od (.dK kv))) J) : Same H (upd J D (.dK kv)) := fun b o eb => by
  by_cases c : b = D
  · subst c
    rw [upd_same, ← e, eb]
  · rw [upd_ne c]
    exact s b o (by rw [upd_ne c]; exact eb)
theorem frz_new {H : Hp} {D p : Addr} {o : HO} (n : (upd H D o) p = none) : H p = none ∧ p ≠ D := by
  by_cases c : p = D
  · subst c
    rw [upd_same] at n
    cases n
  · rw [upd_ne c] at n
    exact ⟨n, c⟩
theorem dget_fz {J : Hp} {D : Addr} {od : Obj} {ks : List Nat} {g : Nat → Int} {k : Nat} (f : J D = some (.frz od (.dK (tab ky ks g)))) (m : k ∈ ks) : DGet J D (.str (ky k)) (some (.int (g k))) := .inl ⟨tab ky ks g, Sum.inr (ky k), .inr ⟨od, f⟩, rfl, by rw [tab_val (fun _ _ => ky_inj), if_pos m]⟩
/-! ### find -/
theorem find_at {l : List Nat} {c i : Nat} (h : l[i]? = some c) (n : ∀ j, j < i → l[j]? ≠ some c) : Txt.find (S l) ⟨#[c]⟩ = (i : Int) := by
  have at_ : ∀ j, PySem.StrLaws.At (S l) ⟨#[c]⟩ (S l).length j ↔ l[j]? = some c := fun j => PySem.StrLaws.subAt_one (S l) c j
  unfold Txt.find
  rcases PySem.StrLaws.occ_head (S l) ⟨#[c]⟩ 1 (Nat.le_refl _) with ⟨_, z⟩ | ⟨k, r, e, a, z⟩
  · exact absurd ((at_ i).mpr h) (z i)
  · rw [e]
    dsimp only
    have : k = i := by
      have ak := (at_ k).mp a
      have h1 : ¬ i < k := fun q => z i q ((at_ i).mpr h)
      have h2 : ¬ k < i := fun q => n k q ak
      omega
    rw [this]
theorem find_abc : ∀ p, p < 6 → Txt.find (Str.ofString "abcdef") ⟨#[97 + p]⟩ = (p : Int) := by
  intro p hp
  rw [show Str.ofString "abcdef" = S [97, 98, 99, 100, 101, 102] by decide +kernel]
  refine find_at ?_ ?_
  · revert p hp
    decide
  · revert p hp
    decide
end Z
set_option pp.maxSteps 700
set_option Elab.async false
set_option linter.all false
set_option maxRecDepth 100000
set_option maxHeartbeats 4000000
open SX (S S_inj S_len S_cat)
namespace Z
open PySem PySem.Spec PyProof.Rows L2
open C8 (pss_cut tCut)
local macro_rules | `(tactic| walk_at "num") => `(tactic| first | rfl | omega | decide | exact Nat.le_of_lt (small1000 (by simp)) | exact ⟨by omega, by omega⟩ | exact ⟨by omega, by omega, by omega⟩ | exact ⟨by decide, by decide, by decide⟩ | exact Or.inl ⟨by omega, by omega⟩ | exact Or.inr ⟨by omega, by omega⟩)
local macro_rules | `(tactic| walk_at "go") => `(tactic| repeat (first | refine ⟨_, rfl, ?_⟩ | refine ⟨_, _, rfl, rfl, ?_⟩ | refine ⟨_, _, rfl, ?_⟩ | (refine ⟨_, _, rfl, rfl, ?_, ?_⟩; focus walk_at "num") | refine Or.inl ⟨_, rfl, ?_⟩ | refine ⟨_, _, _, _, rfl, rfl, (by assumption), (by rfl), ?_⟩ | refine ⟨_, _, _, _, _, rfl, (by assumption), (by assumption), (by assumption), (by rfl), ?_⟩ | refine ⟨rfl, ?_⟩ | (refine And.intro ?_ ?_; focus walk_at "num")))
abbrev s_wide : Stmt := topS 34
abbrev N_wide : List Str := ["_law_draws_here", "_law_place", "_law_value", "_law_k"]
abbrev P_wide : List Str := ["_law_draws_here", "_law_place"]
theorem sc_wide : FnScope N_wide P_wide (defScope s_wide) := ⟨rfl, rfl, rfl, by decide +kernel, rfl, by decide +kernel, by decide +kernel⟩
abbrev s_coins : Stmt := topS 35
abbrev N_coins : List Str := ["_law_draws_here", "_law_place", "_law_scale", "_law_base_here", "_law_draw"]
abbrev P_coins : List Str := ["_law_draws_here", "_law_place", "_law_scale", "_law_base_here"]
theorem sc_coins : FnScope N_coins P_coins (defScope s_coins) := ⟨rfl, rfl, rfl, by decide +kernel, rfl, by decide +kernel, by decide +kernel⟩
abbrev s_parties : Stmt := topS 37
abbrev N_parties : List Str := ["_law_draws_here", "_law_place", "_law_left", "_law_found", "_law_k", "_law_at"]
abbrev P_parties : List Str := ["_law_draws_here", "_law_place"]
theorem sc_parties : FnScope N_parties P_parties (defScope s_parties) := ⟨rfl, rfl, rfl, by decide +kernel, rfl, by decide +kernel, by decide +kernel⟩
structure Tk (K : PySem.W.Frag) (a p : Addr) (ds : List Int) (n : Nat) (H0 H1 : Hp) : Prop where
  hA : H1 a = some (.lst (ds.map V.int))
  hd : Dr n ds
  ne : a ≠ p
  sb : SB p H0 H1
  pl : ∃ m : Nat, H1 p = some (.lst [.int (m : Int)])
theorem Tk.more {K : PySem.W.Frag} {a p : Addr} {ds : List Int} {n : Nat} {H0 H1 H2 : Hp} (t : Tk K a p ds n H0 H1) (s : Same H1 H2) : Tk K a p ds n H0 H2 := by
  obtain ⟨m, e⟩ := t.pl
  exact ⟨s _ _ t.hA, t.hd, t.ne, t.sb.trans (Z.Same.sb s), m, s _ _ e⟩
theorem Tk.mut {K : PySem.W.Frag} {a p q : Addr} {ds : List Int} {n : Nat} {H0 H1 : Hp} {o : HO} (t : Tk K a p ds n H0 H1) (h : H0 q = none) (h2 : SB q H1 (upd H1 q o)) (nq : q ≠ p) (na : upd H1 q o a = some (.lst (ds.map V.int))) : Tk K a p ds n H0 (upd H1 q o) := by
  obtain ⟨m, e⟩ := t.pl
  refine ⟨na, t.hd, t.ne, fun b u n1 n2 => ?_, m, h2 _ _ nq.symm e⟩
  exact h2 _ _ (ne_of_none n2 h) (t.sb b u n1 n2)
theorem Tk.next {K : PySem.W.Frag} {a p : Addr} {ds : List Int} {n m : Nat} {H0 H1 : Hp} (t : Tk K a p ds n H0 H1) (e : H1 p = some (.lst [.int (m : Int)])) : Tk K a p ds n H0 (upd H1 p (.lst [.int ((m + 1 : Nat) : Int)])) ∧ SB p H1 (upd H1 p (.lst [.int ((m + 1 : Nat) : Int)])) := by
  have sb : SB p H1 (upd H1 p (.lst [.int ((m + 1 : Nat) : Int)])) := SB.upd (Z.Same.sb (Same.refl H1))
  exact ⟨⟨sb _ _ t.ne t.hA, t.hd, t.ne, t.sb.trans sb, m + 1, upd_same⟩, sb⟩

theorem Tk.slf {K : PySem.W.Frag} {a p : Addr} {ds : List Int} {n : Nat} {H0 H1 : Hp} (t : Tk K a p ds n H0 H1) : Tk K a p ds n H1 H1 := ⟨t.hA, t.hd, t.ne, Z.Same.sb (Same.refl _), t.pl⟩
theorem Tk.tr {K : PySem.W.Frag} {a p : Addr} {ds : List Int} {n : Nat} {H0 H1 H2 : Hp} (t : Tk K a p ds n H0 H1) (u : Tk K a p ds n H1 H2) : Tk K a p ds n H0 H2 := ⟨u.hA, u.hd, u.ne, t.sb.trans u.sb, u.pl⟩
/-- texts of parties -/
def pT (ps : List Nat) : List Nat := ps.map (97 + ·)
section
variable {P : Program} {w : World} {K : PySem.W.Frag} {mg : Str → Option Value} {base : Heap} {f : Addr} {fd : FuncData}
def spWide (K : PySem.W.Frag) : Sp := fun vs H Q _ => ∃ (a p : Addr) (n : Nat) (ds : List Int), vs = [.ref a, .ref p] ∧ Tk K a p ds n H H ∧ ∀ (c : Int) H', Tk K a p ds n H H' → 0 ≤ c → c < (1000000 : Int) ^ 10 → Q (.int c) H'
theorem ok_wide (F : FnP K "_law_wide" s_wide f fd) (m_range : mg "range" = none) (c_take : Cal P w K mg base 1 "_law_take" (spTake K)) : FnOk P w K mg base CX0 2 f fd P_wide (spWide K) := by
  refine F.ok sc_wide (fun vs H Q E h => ?_) (fun cdv A outer s H vs Q E hr h => ?_)
  · obtain ⟨a, p, n, ds, rfl, _⟩ := h
    rfl
  · obtain ⟨a, p, n, ds, rfl, hT, q⟩ := h
    refine ⟨_, PSs.nox (pss_cons (ps_set (i := 2) sc_wide.nd rfl (by first | exact .inl rfl | exact .inr rfl) pe_int)
      (pss_cons (ps_for PassesOwn.never rfl (pi_range1 (by rfl) m_range (pa_cons pe_int pa_nil)) (pg_name (i := 3) sc_wide.nd rfl (by first | exact .inl rfl | exact .inr rfl))
        (pss_one (ps_set (i := 2) sc_wide.nd rfl (by first | exact .inl rfl | exact .inr rfl) (pe_op op_add (pe_op op_mul (pv 2) pe_int) (pe_cl c_take hr (by decide) (by rfl) (pa_cons (pv 0) (pa_cons (pv 1) pa_nil)))))))
      (pss_one (ps_ret (pv 2))))), ?_⟩
    walk_at "go"
    refine for_gen (n := 10) (fun i σ J => Tk K a p ds n H J ∧ ∃ (v : Int) (v3 : Option V), 0 ≤ v ∧ v < (1000000 : Int) ^ i ∧ σ = [some (.ref a), some (.ref p), some (.int v), v3]) ⟨hT, 0, none, by decide, by decide, rfl⟩ ?_ ?_ ?_ ?_
    · intro i σ J hi _
      exact hi
    · intro σ J _
      exact Nat.le_refl _
    · rintro i σ J x J' hi ⟨hT1, v, v3, v0, v1, rfl⟩ ⟨rfl, rfl⟩
      obtain ⟨mm, em⟩ := hT1.pl
      walk_at "go"
      refine ⟨a, p, n, mm, ds, rfl, SqL.of hT1.hA, hT1.hd, em, hT1.ne, fun r r0 r1 => ?_⟩
      obtain ⟨hT2, _⟩ := hT1.next em
      walk_at "go"
      refine ⟨_, _, ?_, ?_, rfl⟩
      · show 0 ≤ v * 1000000 + r
        omega
      · show v * 1000000 + r < (1000000 : Int) ^ (i + 1)
        rw [Int.pow_succ]
        omega
    · rintro σ J ⟨hT1, v, v3, v0, v1, rfl⟩
      walk_at "go"
      exact q v J hT1 v0 v1
def spCoins (K : PySem.W.Frag) : Sp := fun vs H Q _ => ∃ (a p : Addr) (n : Nat) (ds : List Int) (sc ba : Int), vs = [.ref a, .ref p, .int sc, .int ba] ∧ Tk K a p ds n H H ∧ 0 ≤ ba ∧ ba ≤ 10 ^ 60 - 3 ∧ ∀ (c : Int) H', Tk K a p ds n H H' → 0 ≤ c → c ≤ 10 ^ 60 → Q (.int c) H'
theorem ok_coins (F : FnP K "_law_coins" s_coins f fd) (m_int : mg "int" = none) (c_take : Cal P w K mg base 1 "_law_take" (spTake K)) (c_wide : Cal P w K mg base 2 "_law_wide" (spWide K)) : FnOk P w K mg base CX0 3 f fd P_coins (spCoins K) := by
  refine F.ok sc_coins (fun vs H Q E h => ?_) (fun cdv A outer s H vs Q E hr h => ?_)
  · obtain ⟨a, p, n, ds, sc, ba, rfl, _⟩ := h
    rfl
  · obtain ⟨a, p, n, ds, sc, ba, rfl, hT, b0, b1, q⟩ := h
    refine ⟨_, PSs.nox (pss_cons (ps_set (i := 4) sc_coins.nd rfl (by first | exact .inl rfl | exact .inr rfl) (pe_cl c_take hr (by decide) (by rfl) (pa_cons (pv 0) (pa_cons (pv 1) pa_nil))))
      (pss_cons (ps_if (pt_cmpR op_eq (pv 2) pe_int (nomark _)) (pss_one (ps_ret (pe_op op_mod (pe_callTy call_int1 (by rfl) m_int (by decide +kernel) (pa_cons (pv 4) pa_nil)) pe_int))) pss_nil)
      (pss_cons (ps_if (pt_cmpR op_eq (pv 2) pe_int (nomark _)) (pss_one (ps_ret (pe_op op_add (pv 3) (pe_op op_mod (pe_callTy call_int1 (by rfl) m_int (by decide +kernel) (pa_cons (pv 4) pa_nil)) pe_int)))) pss_nil)
      (pss_cons (ps_if (PW.pt (pw_or (pt_cmpR op_eq (pv 2) pe_int (nomark _)) (pw_or1 (PW.pt (pw_and (pt_cmpR op_eq (pv 2) pe_int (nomark _)) (pw_and1 (pt_cmpR op_eq (pe_op op_mod (pe_callTy call_int1 (by rfl) m_int (by decide +kernel) (pa_cons (pv 4) pa_nil)) pe_int) pe_int (nomark _)))))))) (pss_one (ps_ret (pe_cl c_wide hr (by decide) (by rfl) (pa_cons (pv 0) (pa_cons (pv 1) pa_nil))))) pss_nil)
      (pss_one (ps_ret (pe_op op_mod (pe_callTy call_int1 (by rfl) m_int (by decide +kernel) (pa_cons (pe_op op_fdiv (pv 4) pe_int) pa_nil)) pe_int))))))), ?_⟩
    obtain ⟨mm, em⟩ := hT.pl
    walk_at "go"
    refine ⟨a, p, n, mm, ds, rfl, SqL.of hT.hA, hT.hd, em, hT.ne, fun r r0 r1 => ?_⟩
    obtain ⟨hT2, _⟩ := hT.next em
    generalize upd H p (.lst [.int ((mm + 1 : Nat) : Int)]) = H1 at hT2
    walk_at "go"
    refine ite2 (fun e => ?_) (fun e => ?_)
    · walk_at "go"
      show Q (V.int (r % 1000)) H1
      exact q _ _ hT2 (by omega) (by omega)
    walk_at "go"
    refine ite2 (fun e => ?_) (fun e => ?_)
    · walk_at "go"
      show Q (V.int (ba + r % 4)) H1
      exact q _ _ hT2 (by omega) (by omega)
    have wide : ∀ (Q' : VK), (∀ c H', Tk K a p ds n H H' → 0 ≤ c → c ≤ 10 ^ 60 → Q' (.int c) H') → spWide K [.ref a, .ref p] H1 Q' E0 := fun Q' q' => ⟨a, p, n, ds, rfl, hT2.slf, fun c H2 hT3 w0 w1 => q' c H2 (hT2.tr hT3) w0 (by omega)⟩
    walk_at "go"
    refine ite2 (fun e => ?_) (fun e => ?_)
    · walk_at "go"
      exact wide _ q
    walk_at "go"
    refine ite2 (fun e => ?_) (fun e => ?_)
    · walk_at "go"
      refine ite2 (fun e => ?_) (fun e => ?_)
      · walk_at "go"
        exact wide _ q
      walk_at "go"
      show Q (V.int (r / 2 % 6)) H1
      exact q _ _ hT2 (by omega) (by omega)
    walk_at "go"
    show Q (V.int (r / 2 % 6)) H1
    exact q _ _ hT2 (by omega) (by omega)
def spParties (K : PySem.W.Frag) : Sp := fun vs H Q _ => ∃ (a p : Addr) (n : Nat) (ds : List Int), vs = [.ref a, .ref p] ∧ Tk K a p ds n H H ∧ ∀ (ps : List Nat) H', Tk K a p ds n H H' → ps.Nodup → (∀ x ∈ ps, x < 6) → 2 ≤ ps.length → ps.length ≤ 6 → Q (.str (S (pT ps))) H'
theorem ok_parties (F : FnP K "_law_parties" s_parties f fd) (m_int : mg "int" = none) (m_len : mg "len" = none) (m_range : mg "range" = none) (c_take : Cal P w K mg base 1 "_law_take" (spTake K)) : FnOk P w K mg base CX0 2 f fd P_parties (spParties K) := by
  refine F.ok sc_parties (fun vs H Q E h => ?_) (fun cdv A outer s H vs Q E hr h => ?_)
  · obtain ⟨a, p, n, ds, rfl, _⟩ := h
    rfl
  · obtain ⟨a, p, n, ds, rfl, hT, q⟩ := h
    refine ⟨_, PSs.nox (pss_cons (ps_set (i := 2) sc_parties.nd rfl (by first | exact .inl rfl | exact .inr rfl) pe_str)
      (pss_cons (ps_set (i := 3) sc_parties.nd rfl (by first | exact .inl rfl | exact .inr rfl) pe_str)
      (pss_cons (ps_for PassesOwn.never rfl (pi_range1 (by rfl) m_range (pa_cons (pe_op op_add pe_int (pe_op op_mod (pe_callTy call_int1 (by rfl) m_int (by decide +kernel) (pa_cons (pe_cl c_take hr (by decide) (by rfl) (pa_cons (pv 0) (pa_cons (pv 1) pa_nil))) pa_nil)) pe_int)) pa_nil)) (pg_name (i := 4) sc_parties.nd rfl (by first | exact .inl rfl | exact .inr rfl))
        (pss_cons (ps_set (i := 5) sc_parties.nd rfl (by first | exact .inl rfl | exact .inr rfl) (pe_op op_mod (pe_callTy call_int1 (by rfl) m_int (by decide +kernel) (pa_cons (pe_cl c_take hr (by decide) (by rfl) (pa_cons (pv 0) (pa_cons (pv 1) pa_nil))) pa_nil)) (pe_callB call_len_str (by rfl) m_len PySem.boot_len (pa_cons (pv 2) pa_nil))))
      (pss_cons (ps_set (i := 3) sc_parties.nd rfl (by first | exact .inl rfl | exact .inr rfl) (pe_op op_add_str (pv 3) (pe_ix ix_str (pv 2) (pv 5) (fun _ _ => rfl))))
      (pss_one (ps_set (i := 2) sc_parties.nd rfl (by first | exact .inl rfl | exact .inr rfl) (pe_op op_add_str (pe_slice C8.sl_txt (pv 2) po_none (po_some (pv 5))) (pe_slice C8.sl_txt (pv 2) (po_some (pe_op op_add (pv 5) pe_int)) po_none)))))))
      (pss_one (ps_ret (pv 3)))))), ?_⟩
    obtain ⟨mm, em⟩ := hT.pl
    walk_at "go"
    refine ⟨a, p, n, mm, ds, rfl, SqL.of hT.hA, hT.hd, em, hT.ne, fun r r0 r1 => ?_⟩
    obtain ⟨hT2, _⟩ := hT.next em
    generalize upd H p (.lst [.int ((mm + 1 : Nat) : Int)]) = H1 at hT2
    have c0 := Int.emod_nonneg r (show (5 : Int) ≠ 0 by decide)
    have c1 := Int.emod_lt_of_pos r (show (0 : Int) < 5 by decide)
    walk_at "go"
    have pl : ∀ l : List Nat, (pT l).length = l.length := fun l => List.length_map ..
    refine for_gen (n := (2 + r % 5).toNat) (fun i σ J => Tk K a p ds n H J ∧ ∃ (ls fs : List Nat) (v4 v5 : Option V), (fs ++ ls).Nodup ∧ (∀ x ∈ fs ++ ls, x < 6) ∧ fs.length = i ∧ i + ls.length = 6 ∧ σ = [some (.ref a), some (.ref p), some (.str (S (pT ls))), some (.str (S (pT fs))), v4, v5]) ⟨hT2, [0, 1, 2, 3, 4, 5], [], none, none, by decide, by decide, rfl, rfl, rfl⟩ ?_ ?_ ?_ ?_
    · intro i σ J hi _
      exact hi
    · intro σ J _
      exact Nat.le_refl _
    · rintro i σ J x J' hi ⟨hT3, ls, fs, v4, v5, nd, x6, lf, ll, rfl⟩ ⟨rfl, rfl⟩
      obtain ⟨m2, em2⟩ := hT3.pl
      have l0 : 0 < ls.length := by omega
      walk_at "go"
      refine ⟨a, p, n, m2, ds, rfl, SqL.of hT3.hA, hT3.hd, em2, hT3.ne, fun r2 r0' r1' => ?_⟩
      obtain ⟨hT4, _⟩ := hT3.next em2
      generalize upd J' p (.lst [.int ((m2 + 1 : Nat) : Int)]) = H3 at hT4
      have hlen : (S (pT ls)).length ≤ sizeLine := by rw [S_len, pl]; exact szl (by omega)
      walk_at "go"
      have e1 : (S (pT ls)).length = ls.length := by rw [S_len, pl]
      rw [e1]
      refine ⟨by show (0 : Int) < (ls.length : Int); omega, ?_⟩
      have m0 := Int.emod_nonneg r2 (show (ls.length : Int) ≠ 0 by omega)
      have m1 := Int.emod_lt_of_pos r2 (show 0 < (ls.length : Int) by omega)
      obtain ⟨j, ej, hj⟩ : ∃ j : Nat, r2 % (ls.length : Int) = (j : Int) ∧ j < ls.length := ⟨(r2 % (ls.length : Int)).toNat, by omega, by omega⟩
      have ea : atI (S (pT ls)).cps.toList (j : Int) = some (97 + ls[j]) := atI_nat (by show (pT ls)[j]? = _; unfold pT; rw [List.getElem?_map, List.getElem?_eq_getElem hj]; rfl)
      dsimp only [List.set]
      rw [ej]
      walk_at "go"
      refine ⟨S (pT ls), _, 97 + ls[j], rfl, rfl, hlen, ea, ?_⟩
      refine ⟨_, _, rfl, rfl, by rw [S_len, pl]; show fs.length + 1 ≤ sizeLine; exact szl (by omega), ?_⟩
      have ef : S (pT fs) ++ (⟨#[97 + ls[j]]⟩ : Str) = S (pT (fs ++ [ls[j]])) := by
        rw [show (⟨#[97 + ls[j]]⟩ : Str) = S [97 + ls[j]] from rfl, S_cat]
        unfold pT
        rw [List.map_append]
        rfl
      rw [ef]
      walk_at "go"
      have f1 : Txt.slice (S (pT ls)) none (some (j : Int)) = S (pT (ls.take j)) := by
        rw [SX.slice_to (by omega)]
        unfold pT
        rw [← List.map_take]
        rfl
      have f2 : Txt.slice (S (pT ls)) (some ((j : Int) + 1)) none = S (pT (ls.drop (j + 1))) := by
        rw [SX.slice_from (by omega)]
        unfold pT
        rw [← List.map_drop]
        rfl
      rw [f1, f2]
      have lt : (ls.take j).length + (ls.drop (j + 1)).length + 1 = ls.length := by rw [List.length_take, List.length_drop]; omega
      refine ⟨by rw [S_len, S_len, pl, pl]; exact szl (by omega), ?_⟩
      have eg : S (pT (ls.take j)) ++ S (pT (ls.drop (j + 1))) = S (pT (ls.take j ++ ls.drop (j + 1))) := by
        rw [S_cat]
        unfold pT
        rw [List.map_append]
      rw [eg]
      have els : ls = ls.take j ++ ls[j] :: ls.drop (j + 1) := by
        rw [← List.drop_eq_getElem_cons hj, List.take_append_drop]
      have pm : ((fs ++ [ls[j]]) ++ (ls.take j ++ ls.drop (j + 1))).Perm (fs ++ ls) := by
        conv => rhs; rw [els]
        rw [List.append_assoc]
        refine List.Perm.append_left fs ?_
        show (ls[j] :: (ls.take j ++ ls.drop (j + 1))).Perm _
        exact List.perm_middle.symm
      walk_at "go"
      exact ⟨ls.take j ++ ls.drop (j + 1), fs ++ [ls[j]], _, _, pm.nodup_iff.mpr nd, fun x hx => x6 x (pm.mem_iff.mp hx), by rw [List.length_append, lf]; rfl, by rw [List.length_append]; omega, rfl⟩
    · rintro σ J ⟨hT3, ls, fs, v4, v5, nd, x6, lf, ll, rfl⟩
      walk_at "go"
      exact q fs J hT3 (List.nodup_append.mp nd).1 (fun x hx => x6 x (List.mem_append_left _ hx)) (by omega) (by omega)
end
end Z
set_option pp.maxSteps 700
set_option Elab.async false
set_option linter.all false
set_option maxRecDepth 100000
set_option maxHeartbeats 4000000
open SX (S S_inj S_len S_cat)
namespace Z
open SO
open PySem PySem.Spec PyProof.Rows L2
open C8 (pss_cut tCut)
local macro_rules | `(tactic| walk_at "num") => `(tactic| first | rfl | omega | decide | exact Nat.le_of_lt (small1000 (by simp)) | exact ⟨by omega, by omega⟩ | exact ⟨by omega, by omega, by omega⟩ | exact ⟨by decide, by decide, by decide⟩ | exact Or.inl ⟨by omega, by omega⟩ | exact Or.inr ⟨by omega, by omega⟩)
local macro_rules | `(tactic| walk_at "go") => `(tactic| repeat (first | refine ⟨_, rfl, ?_⟩ | refine ⟨_, _, rfl, rfl, ?_⟩ | refine ⟨_, _, rfl, ?_⟩ | (refine ⟨_, _, rfl, rfl, ?_, ?_⟩; focus walk_at "num") | refine Or.inl ⟨_, rfl, ?_⟩ | refine ⟨_, _, _, _, rfl, rfl, (by assumption), (by rfl), ?_⟩ | refine ⟨_, _, _, _, _, rfl, (by assumption), (by assumption), (by assumption), (by rfl), ?_⟩ | refine ⟨rfl, ?_⟩ | (refine And.intro ?_ ?_; focus walk_at "num")))
abbrev s_base : Stmt := topS 36
abbrev N_base : List Str := ["_law_draws_here", "_law_place"]
abbrev P_base : List Str := ["_law_draws_here", "_law_place"]
theorem sc_base : FnScope N_base P_base (defScope s_base) := ⟨rfl, rfl, rfl, by decide +kernel, rfl, by decide +kernel, by decide +kernel⟩
abbrev s_debts : Stmt := topS 38
abbrev N_debts : List Str := ["_law_draws_here", "_law_place", "_law_parties_here", "_law_scale", "_law_base_here", "_law_many", "_law_debts_here", "_law_size", "_law_at", "_law_k", "_law_draw", "_law_to", "_law_coins_here"]
abbrev P_debts : List Str := ["_law_draws_here", "_law_place", "_law_parties_here", "_law_scale", "_law_base_here"]
theorem sc_debts : FnScope N_debts P_debts (defScope s_debts) := ⟨rfl, rfl, rfl, by decide +kernel, rfl, by decide +kernel, by decide +kernel⟩
theorem to_ne {m a e : Nat} (ha : a < m) (he : e < m - 1) : (a + 1 + e) % m < m ∧ (a + 1 + e) % m ≠ a := by
  refine ⟨Nat.mod_lt _ (by omega), ?_⟩
  by_cases c : a + 1 + e < m
  · rw [Nat.mod_eq_of_lt c]; omega
  · rw [Nat.mod_eq_sub_mod (by omega), Nat.mod_eq_of_lt (by omega)]; omega
theorem to_int {m a : Nat} (x : Int) (h2 : 2 ≤ m) (ha : a < m) : ∃ t : Nat, ((a : Int) + 1 + x % ((m : Int) - 1)) % (m : Int) = (t : Int) ∧ t < m ∧ t ≠ a := by
  have e0 := Int.emod_nonneg x (show ((m : Int) - 1) ≠ 0 by omega)
  have e1 := Int.emod_lt_of_pos x (show 0 < (m : Int) - 1 by omega)
  obtain ⟨e, ee⟩ : ∃ e : Nat, x % ((m : Int) - 1) = (e : Int) := ⟨_, (Int.toNat_of_nonneg e0).symm⟩
  rw [ee] at e0 e1 ⊢
  refine ⟨(a + 1 + e) % m, ?_, to_ne ha (by omega)⟩
  rw [show (a : Int) + 1 + (e : Int) = ((a + 1 + e : Nat) : Int) by omega]
  rfl
theorem ky_cat {a b : Nat} (hb : b < 6) : (⟨#[97 + a]⟩ : Str) ++ (⟨#[97 + b]⟩ : Str) = ky (6 * a + b) := by
  rw [show (⟨#[97 + a]⟩ : Str) = S [97 + a] from rfl, show (⟨#[97 + b]⟩ : Str) = S [97 + b] from rfl, S_cat]
  unfold ky kyL
  rw [show (6 * a + b) / 6 = a by omega, show (6 * a + b) % 6 = b by omega]
  rfl
theorem ky_len (k : Nat) : (ky k).length = 2 := by unfold ky; rw [S_len]; rfl
theorem ps_at {ps : List Nat} {i : Nat} (h : i < ps.length) : atI (S (pT ps)).cps.toList (i : Int) = some (97 + ps[i]) := atI_nat (by show (pT ps)[i]? = _; unfold pT; rw [List.getElem?_map, List.getElem?_eq_getElem h]; rfl)
theorem kok_of {ps : List Nat} (nd : ps.Nodup) (p6 : ∀ x ∈ ps, x < 6) {i j : Nat} (hi : i < ps.length) (hj : j < ps.length) (ne : j ≠ i) : KOk (6 * ps[i] + ps[j]) := by
  have h1 := p6 _ (List.getElem_mem hi)
  have h2 := p6 _ (List.getElem_mem hj)
  have h3 : ps[i] ≠ ps[j] := fun e => ne ((List.getElem_inj nd).mp e).symm
  unfold KOk
  omega
/-- one more or another amount -/
theorem Db.put {H J : Hp} {D : Addr} {ks : List Nat} {g : Nat → Int} (d : Db H D ks g) {k : Nat} (hk : KOk k) {c : Int} (c0 : 0 ≤ c) : Db (upd J D (.dK (putK (tab ky ks g) (Sum.inr (ky k)) (.int c)))) D (if k ∈ ks then ks else ks ++ [k]) (fun j => if j = k then c else g j) := by
  refine ⟨by rw [upd_same, tab_put (fun _ _ => ky_inj)], ?_, fun j m => ?_, fun j m => ?_⟩
  · by_cases m : k ∈ ks
    · rw [if_pos m]
      exact d.nd
    · rw [if_neg m]
      exact List.nodup_append.mpr ⟨d.nd, by simp, fun x hx y hy e => m (by rw [List.mem_singleton.mp hy] at e; exact e ▸ hx)⟩
  · by_cases e : j = k
    · rw [e]
      exact ⟨hk, by rw [if_pos rfl]; exact c0⟩
    · rw [if_neg e]
      refine d.ok j ?_
      by_cases z : k ∈ ks
      · rwa [if_pos z] at m
      · rw [if_neg z] at m
        rcases List.mem_append.mp m with m | m
        · exact m
        · exact absurd (List.mem_singleton.mp m) e
  · by_cases z : k ∈ ks
    · rw [if_pos z] at m
      have e : j ≠ k := fun e => m (e ▸ z)
      rw [if_neg e]
      exact d.z j m
    · rw [if_neg z] at m
      have e : j ≠ k := fun e => m (List.mem_append_right _ (List.mem_singleton.mpr e))
      rw [if_neg e]
      exact d.z j fun y => m (List.mem_append_left _ y)
theorem Db.get {H : Hp} {D : Addr} {ks : List Nat} {g : Nat → Int} (d : Db H D ks g) {k : Nat} (m : k ∈ ks) : DGet H D (.str (ky k)) (some (.int (g k))) := tab_get (fun _ _ => ky_inj) d.e m
theorem Db.get0 {H : Hp} {D : Addr} {ks : List Nat} {g : Nat → Int} (d : Db H D ks g) {k : Nat} (m : k ∉ ks) : DGet H D (.str (ky k)) none := by
  have z := DGet.k (k := Sum.inr (ky k)) d.e
  rw [tab_val (fun _ _ => ky_inj), if_neg m] at z
  exact z
theorem Db.dput {H : Hp} {D : Addr} {ks : List Nat} {g : Nat → Int} (d : Db H D ks g) (k : Nat) (v : V) : DPut H D (.str (ky k)) v (upd H D (.dK (putK (tab ky ks g) (Sum.inr (ky k)) v))) := DPut.k (k := Sum.inr (ky k)) d.e (by rw [tab_len]; have := d.len; exact szlt (by omega))
section
variable {P : Program} {w : World} {K : PySem.W.Frag} {mg : Str → Option Value} {base : Heap} {f : Addr} {fd : FuncData}
def spBase (K : PySem.W.Frag) : Sp := fun vs H Q _ => ∃ (a p : Addr) (n : Nat) (ds : List Int), vs = [.ref a, .ref p] ∧ Tk K a p ds n H H ∧ ∀ (c : Int) H', Tk K a p ds n H H' → 0 ≤ c → c ≤ 10 ^ 60 - 3 → Q (.int c) H'
theorem ok_base (F : FnP K "_law_base" s_base f fd) (m_int : mg "int" = none) (c_take : Cal P w K mg base 1 "_law_take" (spTake K)) (c_wide : Cal P w K mg base 2 "_law_wide" (spWide K)) : FnOk P w K mg base CX0 3 f fd P_base (spBase K) := by
  refine F.ok sc_base (fun vs H Q E h => ?_) (fun cdv A outer s H vs Q E hr h => ?_)
  · obtain ⟨a, p, n, ds, rfl, _⟩ := h
    rfl
  · obtain ⟨a, p, n, ds, rfl, hT, q⟩ := h
    refine ⟨_, PSs.nox (pss_cons (ps_if (pt_cmpR op_eq (pe_op op_mod (pe_callTy call_int1 (by rfl) m_int (by decide +kernel) (pa_cons (pe_cl c_take hr (by decide) (by rfl) (pa_cons (pv 0) (pa_cons (pv 1) pa_nil))) pa_nil)) pe_int) pe_int (nomark _)) (pss_one (ps_ret (pe_op op_sub (pe_op op_pow pe_int pe_int) pe_int))) pss_nil)
      (pss_one (ps_ret (pe_op op_mod (pe_callTy call_int1 (by rfl) m_int (by decide +kernel) (pa_cons (pe_cl c_wide hr (by decide) (by rfl) (pa_cons (pv 0) (pa_cons (pv 1) pa_nil))) pa_nil)) (pe_op op_sub (pe_op op_pow pe_int pe_int) pe_int))))), ?_⟩
    obtain ⟨mm, em⟩ := hT.pl
    walk_at "go"
    refine ⟨a, p, n, mm, ds, rfl, SqL.of hT.hA, hT.hd, em, hT.ne, fun r r0 r1 => ?_⟩
    obtain ⟨hT2, _⟩ := hT.next em
    generalize upd H p (.lst [.int ((mm + 1 : Nat) : Int)]) = H1 at hT2
    walk_at "go"
    refine ite2 (fun e => ?_) (fun e => ?_)
    · walk_at "go"
      exact q _ _ hT2 (by decide +kernel) (by decide +kernel)
    walk_at "go"
    refine ⟨a, p, n, ds, rfl, hT2.slf, fun c H2 hT3 w0 w1 => ?_⟩
    walk_at "go"
    have c0 : (0 : Int) < 10 ^ 60 - 2 := by decide +kernel
    have c1 := Int.emod_nonneg c (Int.ne_of_gt c0)
    have c2 := Int.emod_lt_of_pos c c0
    have q1 := q (c % (10 ^ 60 - 2)) _ (hT2.tr hT3) c1 (by omega)
    exact ⟨c0, q1⟩
def spDebts (K : PySem.W.Frag) : Sp := fun vs H Q _ => ∃ (a p : Addr) (n : Nat) (ds : List Int) (ps : List Nat) (sc ba : Int), vs = [.ref a, .ref p, .str (S (pT ps)), .int sc, .int ba] ∧ Tk K a p ds n H H ∧ ps.Nodup ∧ (∀ x ∈ ps, x < 6) ∧ 2 ≤ ps.length ∧ ps.length ≤ 6 ∧ 0 ≤ ba ∧ ba ≤ 10 ^ 60 - 3 ∧
  ∀ D ks (g : Nat → Int) H', Tk K a p ds n H H' → H D = none → Db H' D ks g → (∀ k, g k ≤ 10 ^ 60) → (∀ k ∈ ks, k / 6 ∈ ps ∧ k % 6 ∈ ps) → Q (.ref D) H'
theorem ok_debts (F : FnP K "_law_debts" s_debts f fd) (m_int : mg "int" = none) (m_len : mg "len" = none) (m_range : mg "range" = none) (c_take : Cal P w K mg base 1 "_law_take" (spTake K)) (c_coins : Cal P w K mg base 3 "_law_coins" (spCoins K)) : FnOk P w K mg base CX0 4 f fd P_debts (spDebts K) := by
  refine F.ok sc_debts (fun vs H Q E h => ?_) (fun cdv A outer s H vs Q E hr h => ?_)
  · obtain ⟨a, p, n, ds, ps, sc, ba, rfl, _⟩ := h
    rfl
  · obtain ⟨a, p, n, ds, ps, sc, ba, rfl, hT, nd, p6, l2, l6, b0, b1, q⟩ := h
    refine ⟨_, PSs.nox (pss_cons (ps_set (i := 5) sc_debts.nd rfl (by first | exact .inl rfl | exact .inr rfl) (pe_callB call_len_str (by rfl) m_len PySem.boot_len (pa_cons (pv 2) pa_nil)))
      (pss_cons (ps_set (i := 6) sc_debts.nd rfl (by first | exact .inl rfl | exact .inr rfl) pe_dnewK)
      (pss_cons (ps_set (i := 7) sc_debts.nd rfl (by first | exact .inl rfl | exact .inr rfl) (pe_op op_mod (pe_callTy call_int1 (by rfl) m_int (by decide +kernel) (pa_cons (pe_cl c_take hr (by decide) (by rfl) (pa_cons (pv 0) (pa_cons (pv 1) pa_nil))) pa_nil)) pe_int))
      (pss_cut (ps_if (pt_cmpR op_eq (pe_op op_mod (pe_callTy call_int1 (by rfl) m_int (by decide +kernel) (pa_cons (pe_cl c_take hr (by decide) (by rfl) (pa_cons (pv 0) (pa_cons (pv 1) pa_nil))) pa_nil)) pe_int) pe_int (nomark _)) (pss_one (ps_set (i := 7) sc_debts.nd rfl (by first | exact .inl rfl | exact .inr rfl) (pe_op op_add (pv 7) pe_int))) pss_nil)
      (pss_cons (ps_set (i := 8) sc_debts.nd rfl (by first | exact .inl rfl | exact .inr rfl) pe_int)
      (pss_cons (ps_for PassesOwn.never rfl (pi_range1 (by rfl) m_range (pa_cons (pv 7) pa_nil)) (pg_name (i := 9) sc_debts.nd rfl (by first | exact .inl rfl | exact .inr rfl))
        (pss_cons (ps_set (i := 10) sc_debts.nd rfl (by first | exact .inl rfl | exact .inr rfl) (pe_cl c_take hr (by decide) (by rfl) (pa_cons (pv 0) (pa_cons (pv 1) pa_nil))))
      (pss_cut (ps_if (pt_cmpR op_eq (pe_op op_mod (pe_callTy call_int1 (by rfl) m_int (by decide +kernel) (pa_cons (pv 10) pa_nil)) pe_int) pe_int (nomark _)) (pss_one (ps_set (i := 8) sc_debts.nd rfl (by first | exact .inl rfl | exact .inr rfl) (pe_op op_mod (pe_callTy call_int1 (by rfl) m_int (by decide +kernel) (pa_cons (pe_op op_fdiv (pv 10) pe_int) pa_nil)) (pv 5)))) pss_nil)
      (pss_cons (ps_set (i := 11) sc_debts.nd rfl (by first | exact .inl rfl | exact .inr rfl) (pe_op op_mod (pe_callTy call_int1 (by rfl) m_int (by decide +kernel) (pa_cons (pe_op op_add (pe_op op_add (pv 8) pe_int) (pe_op op_mod (pe_callTy call_int1 (by rfl) m_int (by decide +kernel) (pa_cons (pe_op op_fdiv (pv 10) pe_int) pa_nil)) (pe_op op_sub (pv 5) pe_int))) pa_nil)) (pv 5)))
      (pss_cons (ps_set (i := 12) sc_debts.nd rfl (by first | exact .inl rfl | exact .inr rfl) (pe_cl c_coins hr (by decide) (by rfl) (pa_cons (pv 0) (pa_cons (pv 1) (pa_cons (pv 3) (pa_cons (pv 4) pa_nil))))))
      (pss_cut (ps_if (pt_cmp (pc_dnotin (hu_of hr) (pe_op op_add_str (pe_ix ix_str (pv 2) (pv 8) (fun _ _ => rfl)) (pe_ix ix_str (pv 2) (pv 11) (fun _ _ => rfl))) (pv 6)) (by rfl)) (pss_one (ps_dput (hu_of hr) (pv 6) (pe_op op_add_str (pe_ix ix_str (pv 2) (pv 8) (fun _ _ => rfl)) (pe_ix ix_str (pv 2) (pv 11) (fun _ _ => rfl))) (pv 12) rfl)) pss_nil)
      (pss_one (ps_set (i := 8) sc_debts.nd rfl (by first | exact .inl rfl | exact .inr rfl) (pv 11)))))))))
      (pss_one (ps_ret (pv 6))))))))), ?_⟩
    have pl : (S (pT ps)).length = ps.length := by rw [S_len]; exact List.length_map ..
    have hlen : (S (pT ps)).length ≤ sizeLine := by rw [pl]; exact szl (by omega)
    walk_at "go"
    rw [pl]
    walk_at "go"
    intro D nD
    have aD : a ≠ D := fun e => by rw [← e, hT.hA] at nD; cases nD
    have pD : p ≠ D := fun e => by obtain ⟨m, em⟩ := hT.pl; rw [← e, em] at nD; cases nD
    have sD := same_new (o := .dK []) nD
    have hT1 := hT.more sD
    have d0 : Db (upd H D (.dK [])) D [] (fun _ => 0) := ⟨upd_same, List.nodup_nil, fun k m => absurd m (by simp), fun k _ => rfl⟩
    generalize upd H D (.dK []) = H1 at hT1 d0
    obtain ⟨m1, em1⟩ := hT1.pl
    dsimp only [List.set]
    walk_at "go"
    refine ⟨a, p, n, m1, ds, rfl, SqL.of hT1.hA, hT1.hd, em1, hT1.ne, fun r r0 r1 => ?_⟩
    obtain ⟨hT2, sb2⟩ := hT1.next em1
    have d2 : Db (upd H1 p (.lst [.int ((m1 + 1 : Nat) : Int)])) D [] (fun _ => 0) := ⟨sb2 _ _ pD.symm d0.e, d0.nd, d0.ok, d0.z⟩
    generalize upd H1 p (.lst [.int ((m1 + 1 : Nat) : Int)]) = H2 at hT2 d2
    have c0 := Int.emod_nonneg r (show (13 : Int) ≠ 0 by decide)
    have c1 := Int.emod_lt_of_pos r (show (0 : Int) < 13 by decide)
    walk_at "go"
    refine ⟨fun σ J => ∃ z : Int, 0 ≤ z ∧ z ≤ 30 ∧ Tk K a p ds n H J ∧ Db J D [] (fun _ => 0) ∧ σ = [some (.ref a), some (.ref p), some (.str (S (pT ps))), some (.int sc), some (.int ba), some (.int (ps.length : Int)), some (.ref D), some (.int z), none, none, none, none, none], ?_, ?_⟩
    · obtain ⟨m2, em2⟩ := hT2.pl
      walk_at "go"
      refine ⟨a, p, n, m2, ds, rfl, SqL.of hT2.hA, hT2.hd, em2, hT2.ne, fun r2 r20 r21 => ?_⟩
      obtain ⟨hT3, sb3⟩ := hT2.next em2
      have d3 : Db (upd H2 p (.lst [.int ((m2 + 1 : Nat) : Int)])) D [] (fun _ => 0) := ⟨sb3 _ _ pD.symm d2.e, d2.nd, d2.ok, d2.z⟩
      generalize upd H2 p (.lst [.int ((m2 + 1 : Nat) : Int)]) = H3 at hT3 d3
      walk_at "go"
      refine ite2 (fun e => ?_) (fun e => ?_)
      · walk_at "go"
        exact ⟨_, by omega, by omega, hT3, d3, rfl⟩
      · exact ⟨_, by omega, by omega, hT3, d3, rfl⟩
    rintro σ J ⟨z, z0, z1, hT3, d3, rfl⟩
    walk_at "go"
    refine for_gen (n := z.toNat) (fun i σ J => Tk K a p ds n H J ∧ (∃ ks g, Db J D ks g ∧ ∀ k, g k ≤ 10 ^ 60 ∧ (k ∈ ks → k / 6 ∈ ps ∧ k % 6 ∈ ps)) ∧ ∃ (t : Nat) (v9 v10 v11 v12 : Option V), t < ps.length ∧ σ = [some (.ref a), some (.ref p), some (.str (S (pT ps))), some (.int sc), some (.int ba), some (.int (ps.length : Int)), some (.ref D), some (.int z), some (.int (t : Int)), v9, v10, v11, v12]) ⟨hT3, ⟨_, _, d3, fun _ => ⟨by decide, fun m => absurd m (by simp)⟩⟩, 0, _, _, _, _, by omega, rfl⟩ ?_ ?_ ?_ ?_
    · intro i σ J hi _
      exact hi
    · intro σ J _
      exact Nat.le_refl _
    · rintro i σ J x J' hi ⟨hT4, ⟨ks, g, d4, gb⟩, t, v9, v10, v11, v12, ht, rfl⟩ ⟨rfl, rfl⟩
      obtain ⟨m4, em4⟩ := hT4.pl
      walk_at "go"
      refine ⟨a, p, n, m4, ds, rfl, SqL.of hT4.hA, hT4.hd, em4, hT4.ne, fun r4 r40 r41 => ?_⟩
      obtain ⟨hT5, sb5⟩ := hT4.next em4
      have d5 : Db (upd J' p (.lst [.int ((m4 + 1 : Nat) : Int)])) D ks g := ⟨sb5 _ _ pD.symm d4.e, d4.nd, d4.ok, d4.z⟩
      generalize upd J' p (.lst [.int ((m4 + 1 : Nat) : Int)]) = J5 at hT5 d5
      dsimp only [List.set]
      walk_at "go"
      refine ⟨fun σ J => ∃ t : Nat, t < ps.length ∧ Tk K a p ds n H J ∧ Db J D ks g ∧ σ = [some (.ref a), some (.ref p), some (.str (S (pT ps))), some (.int sc), some (.int ba), some (.int (ps.length : Int)), some (.ref D), some (.int z), some (.int (t : Int)), some (.int (0 + (i : Int))), some (.int r4), v11, v12], ?_, ?_⟩
      · walk_at "go"
        refine ite2 (fun e => ?_) (fun e => ?_)
        · walk_at "go"
          have m0 := Int.emod_nonneg (r4 / 3) (show (ps.length : Int) ≠ 0 by omega)
          have m1 := Int.emod_lt_of_pos (r4 / 3) (show 0 < (ps.length : Int) by omega)
          refine ⟨(r4 / 3 % (ps.length : Int)).toNat, by omega, hT5, d5, ?_⟩
          rw [Int.toNat_of_nonneg m0]
          rfl
        · exact ⟨t, ht, hT5, d5, rfl⟩
      rintro σ J6 ⟨t1, ht1, hT6, d6, rfl⟩
      obtain ⟨t2, et2, ht2, nt2⟩ := to_int (r4 / 18) l2 ht1
      have m0 := Int.emod_nonneg (r4 / 18) (show (ps.length : Int) - 1 ≠ 0 by omega)
      walk_at "go"
      dsimp only [List.set]
      rw [et2]
      walk_at "go"
      refine ⟨a, p, n, ds, sc, ba, rfl, hT6.slf, b0, b1, fun c J7 hT7 c0 c1 => ?_⟩
      have d7 : Db J7 D ks g := ⟨hT7.sb _ _ pD.symm d6.e, d6.nd, d6.ok, d6.z⟩
      have hT8 := hT6.tr hT7
      have kk := kok_of nd p6 ht1 ht2 nt2
      have p1 := ps_at ht1
      have p2 := ps_at ht2
      have x2 := p6 _ (List.getElem_mem ht2)
      have cat : (⟨#[97 + ps[t1]]⟩ : Str) ++ (⟨#[97 + ps[t2]]⟩ : Str) = ky (6 * ps[t1] + ps[t2]) := ky_cat x2
      have x1 := p6 _ (List.getElem_mem ht1)
      have kin : (6 * ps[t1] + ps[t2]) / 6 ∈ ps ∧ (6 * ps[t1] + ps[t2]) % 6 ∈ ps := ⟨by rw [show (6 * ps[t1] + ps[t2]) / 6 = ps[t1] by omega]; exact List.getElem_mem ht1, by rw [show (6 * ps[t1] + ps[t2]) % 6 = ps[t2] by omega]; exact List.getElem_mem ht2⟩
      generalize 6 * ps[t1] + ps[t2] = k at kk cat kin
      generalize ps[t1] = u1 at p1 cat
      generalize ps[t2] = u2 at p2 cat
      clear x2 x1
      walk_at "go"
      refine ⟨fun σ J => Tk K a p ds n H J ∧ (∃ ks g, Db J D ks g ∧ ∀ k, g k ≤ 10 ^ 60 ∧ (k ∈ ks → k / 6 ∈ ps ∧ k % 6 ∈ ps)) ∧ σ = [some (.ref a), some (.ref p), some (.str (S (pT ps))), some (.int sc), some (.int ba), some (.int (ps.length : Int)), some (.ref D), some (.int z), some (.int (t1 : Int)), some (.int (0 + (i : Int))), some (.int r4), some (.int (t2 : Int)), some (.int c)], ?_, ?_⟩
      · walk_at "go"
        refine ⟨S (pT ps), _, 97 + u1, rfl, rfl, hlen, p1, ?_⟩
        walk_at "go"
        refine ⟨S (pT ps), _, 97 + u2, rfl, rfl, hlen, p2, ?_⟩
        walk_at "go"
        refine ⟨szl (show 1 + 1 ≤ 2000 by decide), ?_⟩
        rw [cat]
        walk_at "go"
        by_cases m : k ∈ ks
        · refine ⟨D, _, rfl, d7.get m, ?_⟩
          walk_at "go"
          exact ⟨⟨ks, g, d7, gb⟩, rfl⟩
        · refine ⟨D, _, rfl, d7.get0 m, ?_⟩
          walk_at "go"
          refine ⟨S (pT ps), _, 97 + u1, rfl, rfl, hlen, p1, ?_⟩
          walk_at "go"
          refine ⟨S (pT ps), _, 97 + u2, rfl, rfl, hlen, p2, ?_⟩
          walk_at "go"
          refine ⟨szl (show 1 + 1 ≤ 2000 by decide), ?_⟩
          rw [cat]
          walk_at "go"
          refine ⟨D, _, rfl, d7.dput k _, ?_⟩
          have sbD : SB D J7 (upd J7 D (.dK (putK (tab ky ks g) (Sum.inr (ky k)) (.int c)))) := SB.upd (Z.Same.sb (Same.refl J7))
          have na := sbD _ _ aD hT8.hA
          refine ⟨hT8.mut nD sbD pD.symm na, ⟨_, _, d7.put kk c0, fun j => ?_⟩, rfl⟩
          refine ⟨?_, fun mj => ?_⟩
          · split
            · exact c1
            · exact (gb j).1
          · rw [if_neg m] at mj
            rcases List.mem_append.mp mj with mj | mj
            · exact (gb j).2 mj
            · rw [List.mem_singleton.mp mj]
              exact kin
      rintro σ J8 ⟨hT9, d9, rfl⟩
      walk_at "go"
      exact ⟨t2, _, _, _, _, ht2, rfl⟩
    · rintro σ J ⟨hT4, ⟨ks, g, d4, gb⟩, t, v9, v10, v11, v12, ht, rfl⟩
      walk_at "go"
      exact q D ks g J hT4 nD d4 (fun k => (gb k).1) fun k m => (gb k).2 m
end
end Z
set_option Elab.async false
set_option linter.all false
/-! Sums, determinants, and the elimination of solve: every division is exact, the leading pivots are positive. No program here. -/
namespace Cl
/-! ### sums -/
def sg : Nat → (Nat → Int) → Int
  | 0, _ => 0
  | n + 1, f => sg n f + f n
theorem sg_congr {f h : Nat → Int} : ∀ {n : Nat}, (∀ i, i < n → f i = h i) → sg n f = sg n h
  | 0, _ => rfl
  | n + 1, e => by rw [sg, sg, sg_congr (n := n) fun i hi => e i (by omega), e n (by omega)]
theorem sg_add (f h : Nat → Int) : ∀ n, sg n (fun i => f i + h i) = sg n f + sg n h
  | 0 => rfl
  | n + 1 => by rw [sg, sg, sg, sg_add f h n]; omega
theorem sg_sub (f h : Nat → Int) : ∀ n, sg n (fun i => f i - h i) = sg n f - sg n h
  | 0 => rfl
  | n + 1 => by rw [sg, sg, sg, sg_sub f h n]; omega
theorem sg_mul (c : Int) (f : Nat → Int) : ∀ n, sg n (fun i => c * f i) = c * sg n f
  | 0 => by simp [sg]
  | n + 1 => by rw [sg, sg, sg_mul c f n]; grind
theorem sg_mulr (c : Int) (f : Nat → Int) (n : Nat) : sg n (fun i => f i * c) = sg n f * c := by
  rw [Int.mul_comm (sg n f) c, ← sg_mul]
  exact sg_congr fun i _ => Int.mul_comm ..
theorem sg_zero : ∀ n, sg n (fun _ => 0) = 0
  | 0 => rfl
  | n + 1 => by rw [sg, sg_zero n]; rfl
theorem sg_comm (f : Nat → Nat → Int) (m : Nat) : ∀ n, sg n (fun i => sg m (fun j => f i j)) = sg m (fun j => sg n (fun i => f i j))
  | 0 => (sg_zero m).symm
  | n + 1 => by
    rw [sg, sg_comm f m n, ← sg_add]
    rfl
theorem sg_le {f h : Nat → Int} : ∀ {n : Nat}, (∀ i, i < n → f i ≤ h i) → sg n f ≤ sg n h
  | 0, _ => Int.le_refl _
  | n + 1, e => by
    have h1 := sg_le (n := n) fun i hi => e i (by omega)
    have h2 := e n (by omega)
    rw [sg, sg]
    omega
theorem sg_lt {f h : Nat → Int} : ∀ {n : Nat}, (∀ i, i < n → f i ≤ h i) → ∀ k, k < n → f k < h k → sg n f < sg n h
  | 0, _, k, hk, _ => by omega
  | n + 1, e, k, hk, hl => by
    rw [sg, sg]
    by_cases z : k = n
    · subst z
      have h1 := sg_le (n := k) fun i hi => e i (by omega)
      omega
    · have h1 := sg_lt (n := n) (fun i hi => e i (by omega)) k (by omega) hl
      have h2 := e n (by omega)
      omega
theorem sg_nonneg {f : Nat → Int} {n : Nat} (h : ∀ i, i < n → 0 ≤ f i) : 0 ≤ sg n f := by
  rw [← sg_zero n]
  exact sg_le h
theorem sg_pos {f : Nat → Int} {n : Nat} (h : ∀ i, i < n → 0 ≤ f i) (k : Nat) (hk : k < n) (p : 0 < f k) : 0 < sg n f := by
  rw [← sg_zero n]
  exact sg_lt h k hk p
/-- one term alone -/
theorem sg_one {f : Nat → Int} {k : Nat} : ∀ {n : Nat}, k < n → (∀ i, i < n → i ≠ k → f i = 0) → sg n f = f k
  | 0, h, _ => by omega
  | n + 1, h, z => by
    rw [sg]
    by_cases e : k = n
    · subst e
      rw [sg_congr (h := fun _ => 0) fun i hi => z i (by omega) (by omega), sg_zero]
      omega
    · rw [sg_one (n := n) (by omega) fun i hi hn => z i (by omega) hn, z n (by omega) (fun w => e w.symm)]
      omega
/-- a term taken out -/
theorem sg_out {f : Nat → Int} {k n : Nat} (hk : k < n) : sg n f = f k + sg n (fun i => if i = k then 0 else f i) := by
  have : sg n f = sg n (fun i => (if i = k then f i else 0) + (if i = k then 0 else f i)) := sg_congr fun i _ => by split <;> omega
  rw [this, sg_add, sg_one hk (fun i _ h => if_neg h), if_pos rfl]
/-! ### determinants by the first column -/
abbrev Col := Nat → Int
def px (c : Col) : List Nat → (List Nat → Int) → Int
  | [], _ => 0
  | r :: rs, F => c r * F rs - px c rs (fun q => F (r :: q))
def det : List Col → List Nat → Int
  | [], rs => if rs = [] then 1 else 0
  | c :: cs, rs => px c rs (det cs)
theorem px_lin (c : Col) (a b : Int) : ∀ (rs : List Nat) (F G : List Nat → Int), px c rs (fun q => a * F q + b * G q) = a * px c rs F + b * px c rs G
  | [], F, G => by simp [px]
  | r :: rs, F, G => by
    have ih := px_lin c a b rs (fun q => F (r :: q)) (fun q => G (r :: q))
    simp only [px]
    rw [ih]
    grind
theorem px_col (c d : Col) (a b : Int) : ∀ (rs : List Nat) (F : List Nat → Int), px (fun r => a * c r + b * d r) rs F = a * px c rs F + b * px d rs F
  | [], F => by simp [px]
  | r :: rs, F => by
    have ih := px_col c d a b rs (fun q => F (r :: q))
    simp only [px]
    rw [ih]
    grind
theorem px_congr {c d : Col} : ∀ {rs : List Nat} {F G : List Nat → Int}, (∀ r ∈ rs, c r = d r) → (∀ q, (∀ r ∈ q, r ∈ rs) → F q = G q) → px c rs F = px d rs G
  | [], F, G, _, _ => rfl
  | r :: rs, F, G, h, hF => by
    rw [px, px, h r (List.mem_cons_self ..), hF rs (fun x m => List.mem_cons_of_mem _ m), px_congr (rs := rs) (F := fun q => F (r :: q)) (G := fun q => G (r :: q)) (fun x m => h x (List.mem_cons_of_mem _ m)) fun q hq => hF _ fun x m => by
      rcases List.mem_cons.mp m with rfl | m
      · exact List.mem_cons_self ..
      · exact List.mem_cons_of_mem _ (hq x m)]
theorem det_congr : ∀ {cs ds : List Col} {rs : List Nat}, cs.length = ds.length → (∀ (i : Nat) (c d : Col), cs[i]? = some c → ds[i]? = some d → ∀ r ∈ rs, c r = d r) → det cs rs = det ds rs
  | [], [], _, _, _ => rfl
  | [], _ :: _, _, h, _ => by cases h
  | _ :: _, [], _, h, _ => by cases h
  | c :: cs, d :: ds, rs, h, e => by
    rw [det, det]
    refine px_congr (e 0 c d rfl rfl) fun q hq => det_congr (by simpa using h) fun i c' d' h1 h2 r hr => e (i + 1) c' d' h1 h2 r (hq r hr)
theorem px_anti (c d : Col) : ∀ (rs : List Nat) (F : List Nat → Int), px c rs (fun q => px d q F) = - px d rs (fun q => px c q F)
  | [], F => by simp [px]
  | r :: rs, F => by
    have ih := px_anti c d rs (fun q => F (r :: q))
    have l1 := px_lin c (d r) (-1) rs F (fun q => px d q fun q => F (r :: q))
    have l2 := px_lin d (c r) (-1) rs F (fun q => px c q fun q => F (r :: q))
    have e1 : px c rs (fun q => px d (r :: q) F) = px c rs (fun q => d r * F q + -1 * px d q fun q => F (r :: q)) := px_congr (fun _ _ => rfl) fun q _ => by
      show d r * F q - px d q (fun q => F (r :: q)) = _
      omega
    have e2 : px d rs (fun q => px c (r :: q) F) = px d rs (fun q => c r * F q + -1 * px c q fun q => F (r :: q)) := px_congr (fun _ _ => rfl) fun q _ => by
      show c r * F q - px c q (fun q => F (r :: q)) = _
      omega
    show c r * px d rs F - px c rs (fun q => px d (r :: q) F) = - (d r * px c rs F - px d rs (fun q => px c (r :: q) F))
    rw [e1, e2, l1, l2, ih]
    grind
theorem det_two (c : Col) (cs : List Col) (rs : List Nat) : det (c :: c :: cs) rs = 0 := by
  have := px_anti c c rs (det cs)
  show px c rs (fun q => px c q (det cs)) = 0
  omega
theorem px_zero (c : Col) : ∀ (rs : List Nat) {F : List Nat → Int}, (∀ q, F q = 0) → px c rs F = 0
  | [], _, _ => rfl
  | r :: rs, F, h => by
    rw [px, h, px_zero c rs fun q => h (r :: q)]
    omega
theorem det_eq (c : Col) : ∀ (bs cs : List Col) (rs : List Nat), det (c :: (bs ++ c :: cs)) rs = 0
  | [], cs, rs => det_two c cs rs
  | b :: bs, cs, rs => by
    have := px_anti c b rs (det (bs ++ c :: cs))
    show px c rs (fun q => px b q (det (bs ++ c :: cs))) = 0
    rw [this, px_zero b rs (F := fun q => px c q (det (bs ++ c :: cs))) fun q => det_eq c bs cs q]
    rfl
theorem det_dup : ∀ (as : List Col) (c : Col) (bs cs : List Col) (rs : List Nat), det (as ++ c :: (bs ++ c :: cs)) rs = 0
  | [], c, bs, cs, rs => det_eq c bs cs rs
  | a :: as, c, bs, cs, rs => px_zero a rs fun q => det_dup as c bs cs q
/-- two equal columns -/
theorem det_same {cs : List Col} {i j : Nat} {c : Col} (hi : cs[i]? = some c) (hj : cs[j]? = some c) (lt : i < j) (rs : List Nat) : det cs rs = 0 := by
  obtain ⟨h1, e1⟩ := List.getElem?_eq_some_iff.mp hi
  obtain ⟨h2, e2⟩ := List.getElem?_eq_some_iff.mp hj
  have a1 : cs = cs.take i ++ c :: cs.drop (i + 1) := by
    rw [← e1, List.getElem_cons_drop, List.take_append_drop]
  have a2 : cs.drop (i + 1) = (cs.drop (i + 1)).take (j - (i + 1)) ++ c :: (cs.drop (i + 1)).drop (j - (i + 1) + 1) := by
    have l : j - (i + 1) < (cs.drop (i + 1)).length := by rw [List.length_drop]; omega
    have e : (cs.drop (i + 1))[j - (i + 1)] = c := by
      rw [List.getElem_drop, ← e2]
      congr 1
      omega
    rw [← e, List.getElem_cons_drop, List.take_append_drop]
  rw [a1, a2]
  exact det_dup ..
/-- linear in each column -/
theorem det_lin (u v : Col) (a b : Int) : ∀ (cs : List Col) (i : Nat), i < cs.length → ∀ rs : List Nat, det (cs.set i fun r => a * u r + b * v r) rs = a * det (cs.set i u) rs + b * det (cs.set i v) rs
  | [], i, h, _ => by cases h
  | c :: cs, 0, _, rs => px_col u v a b rs (det cs)
  | c :: cs, i + 1, h, rs => by
    have ih := det_lin u v a b cs i (by simpa using h)
    show px c rs (det (cs.set i _)) = a * px c rs (det (cs.set i u)) + b * px c rs (det (cs.set i v))
    rw [← px_lin]
    exact px_congr (fun _ _ => rfl) fun q _ => ih q
theorem det_zero {cs : List Col} {i : Nat} (hi : i < cs.length) (rs : List Nat) : det (cs.set i fun _ => 0) rs = 0 := by
  have := det_lin (fun _ => 0) (fun _ => 0) 0 0 cs i hi rs
  simpa using this
theorem det_sum (E : Nat → Col) (x : Nat → Int) (cs : List Col) {i : Nat} (hi : i < cs.length) (rs : List Nat) : ∀ n, det (cs.set i fun r => sg n fun k => x k * E k r) rs = sg n fun k => x k * det (cs.set i (E k)) rs
  | 0 => det_zero hi rs
  | n + 1 => by
    have := det_lin (fun r => sg n fun k => x k * E k r) (E n) 1 (x n) cs i hi rs
    rw [sg, ← det_sum E x cs hi rs n]
    rw [show (fun r => sg (n + 1) fun k => x k * E k r) = fun r => 1 * (sg n fun k => x k * E k r) + x n * E n r from by funext r; rw [sg]; omega, this]
    omega
/-- the columns of the unit matrix -/
def un (k : Nat) : Col := fun r => if r = k then 1 else 0
theorem px_un {k : Nat} : ∀ {rs : List Nat} {F : List Nat → Int}, k ∉ rs → px (un k) rs F = 0
  | [], _, _ => rfl
  | r :: rs, F, h => by
    rw [px, px_un (rs := rs) fun m => h (List.mem_cons_of_mem _ m), un, if_neg fun e => h (by rw [e]; exact List.mem_cons_self ..)]
    omega
theorem det_un : ∀ {rs : List Nat}, rs.Nodup → det (rs.map un) rs = 1
  | [], _ => rfl
  | r :: rs, nd => by
    obtain ⟨h1, h2⟩ := List.nodup_cons.mp nd
    show un r r * det (rs.map un) rs - px (un r) rs (fun q => det (rs.map un) (r :: q)) = 1
    rw [px_un h1, det_un h2, un, if_pos rfl]
    omega
end Cl
set_option Elab.async false
set_option linter.all false
namespace Cl
/-! ### the elimination -/
/-- one turn of solve: the unknown t, the divisor l -/
def bs (B : Nat → Nat → Int) (t : Nat) (l : Int) : Nat → Nat → Int := fun i j => if i = t then B t j else (B t t * B i j - B i t * B t j) / l
/-- the work behind t turns: the matrix and the divisor -/
def bt (M : Nat → Nat → Int) : Nat → (Nat → Nat → Int) × Int
  | 0 => (M, 1)
  | t + 1 => (bs (bt M t).1 t (bt M t).2, (bt M t).1 t t)
/-- column sums over a set of rows -/
def cs (n : Nat) (M : Nat → Nat → Int) (S : Nat → Bool) (k : Nat) : Int := sg n fun r => if S r then M r k else 0
/-- equations of parties: nothing positive beside the diagonal, no set of columns without a way out -/
structure MM (n : Nat) (M : Nat → Nat → Int) : Prop where
  off : ∀ r k, r < n → k < n → r ≠ k → M r k ≤ 0
  nn : ∀ S : Nat → Bool, ∀ k, k < n → S k = true → 0 ≤ cs n M S k
  out : ∀ S : Nat → Bool, (∃ k, k < n ∧ S k = true) → ∃ k, k < n ∧ S k = true ∧ 0 < cs n M S k
/-- the product of the matrix and a vector, at a row -/
def mv (n : Nat) (M : Nat → Nat → Int) (y : Nat → Int) (r : Nat) : Int := sg n fun k => M r k * y k
theorem sum_rows (n : Nat) (M : Nat → Nat → Int) (y : Nat → Int) (S : Nat → Bool) : sg n (fun r => if S r then mv n M y r else 0) = sg n fun k => y k * cs n M S k := by
  have e : sg n (fun r => if S r then mv n M y r else 0) = sg n fun r => sg n fun k => y k * (if S r then M r k else 0) := sg_congr fun r _ => by
    by_cases h : S r = true
    · rw [if_pos h]
      exact sg_congr fun k _ => by rw [if_pos h, Int.mul_comm]
    · rw [if_neg h]
      exact (sg_zero n).symm.trans (sg_congr fun k _ => by rw [if_neg h, Int.mul_zero])
  rw [e, sg_comm]
  exact sg_congr fun k _ => sg_mul ..
theorem MM.cs_le {n : Nat} {M : Nat → Nat → Int} (h : MM n M) {S : Nat → Bool} {k : Nat} (hk : k < n) (hS : S k = false) : cs n M S k ≤ 0 := by
  rw [← sg_zero n]
  exact sg_le fun r hr => by
    by_cases z : S r = true
    · rw [if_pos z]
      exact h.off r k hr hk fun e => by rw [e, hS] at z; cases z
    · rw [if_neg z]
      exact Int.le_refl _
/-- no negative entry where the rows of the negative ones are not negative -/
theorem MM.nonneg {n : Nat} {M : Nat → Nat → Int} (h : MM n M) {y : Nat → Int} (hy : ∀ r, r < n → y r < 0 → 0 ≤ mv n M y r) : ∀ k, k < n → 0 ≤ y k := by
  intro k hk
  apply Classical.byContradiction
  intro neg
  obtain ⟨j, hj, sj, pj⟩ := h.out (fun i => decide (y i < 0)) ⟨k, hk, decide_eq_true (by omega)⟩
  have s := sum_rows n M y fun i => decide (y i < 0)
  have l : 0 ≤ sg n (fun r => if decide (y r < 0) = true then mv n M y r else 0) := sg_nonneg fun r hr => by
    by_cases z : y r < 0
    · rw [if_pos (decide_eq_true z)]
      exact hy r hr z
    · rw [if_neg (fun w => z (of_decide_eq_true w))]
      exact Int.le_refl _
  have r : sg n (fun k => y k * cs n M (fun i => decide (y i < 0)) k) < sg n fun _ => 0 := sg_lt (fun i hi => by
    by_cases z : y i < 0
    · have := h.nn (fun i => decide (y i < 0)) i hi (decide_eq_true z)
      have : y i * cs n M (fun i => decide (y i < 0)) i ≤ 0 := Int.mul_nonpos_of_nonpos_of_nonneg (by omega) this
      exact this
    · have := h.cs_le hi (S := fun i => decide (y i < 0)) (decide_eq_false z)
      exact Int.mul_nonpos_of_nonneg_of_nonpos (by omega) this) j hj (Int.mul_neg_of_neg_of_pos (of_decide_eq_true sj) pj)
  rw [sg_zero] at r
  omega
/-! ### what stands behind t turns -/
/-- the columns: those of the first t unknowns, the unit columns behind them -/
def ec (M : Nat → Nat → Int) (t k : Nat) : Col := if k < t then fun r => M r k else un k
def El (n : Nat) (M : Nat → Nat → Int) (t : Nat) : List Col := (List.range n).map (ec M t)
structure Bi (n m : Nat) (M : Nat → Nat → Int) (t : Nat) (B : Nat → Nat → Int) (D : Int) : Prop where
  pos : 0 < D
  dt : D = det (El n M t) (List.range n)
  eq : ∀ j, j < m → ∀ r, r < n → sg n (fun k => B k j * ec M t k r) = D * M r j
theorem el_len (n : Nat) (M : Nat → Nat → Int) (t : Nat) : (El n M t).length = n := by unfold El; rw [List.length_map, List.length_range]
theorem el_at {n : Nat} {M : Nat → Nat → Int} {t k : Nat} (h : k < n) : (El n M t)[k]? = some (ec M t k) := by
  unfold El
  rw [List.getElem?_map, List.getElem?_range h]
  rfl
theorem el_self {n : Nat} {M : Nat → Nat → Int} {t k : Nat} (h : k < n) : (El n M t).set k (ec M t k) = El n M t := by
  have := el_at (M := M) (t := t) h
  obtain ⟨h1, e⟩ := List.getElem?_eq_some_iff.mp this
  rw [← e, List.set_getElem_self]
/-- a column of the unit-or-pivot kind in the place of another one -/
theorem el_other {n : Nat} {M : Nat → Nat → Int} {t i k : Nat} (hi : i < n) (hk : k < n) (ne : i ≠ k) (rs : List Nat) : det ((El n M t).set i (ec M t k)) rs = 0 := by
  have a1 : ((El n M t).set i (ec M t k))[i]? = some (ec M t k) := by rw [List.getElem?_set_self (by rw [el_len]; exact hi)]
  have a2 : ((El n M t).set i (ec M t k))[k]? = some (ec M t k) := by rw [List.getElem?_set_ne ne]; exact el_at hk
  rcases Nat.lt_or_gt_of_ne ne with h | h
  · exact det_same a1 a2 h rs
  · exact det_same a2 a1 h rs
theorem det_D {n m : Nat} {M : Nat → Nat → Int} {t : Nat} {B : Nat → Nat → Int} {D : Int} (b : Bi n m M t B D) {i j : Nat} (hi : i < n) (hj : j < m) : det ((El n M t).set i fun r => M r j) (List.range n) = B i j := by
  have hl : i < (El n M t).length := by rw [el_len]; exact hi
  have e1 : det ((El n M t).set i fun r => D * M r j + 0 * M r j) (List.range n) = D * det ((El n M t).set i fun r => M r j) (List.range n) + 0 * det ((El n M t).set i fun r => M r j) (List.range n) := det_lin _ _ _ _ _ _ hl _
  have e2 : det ((El n M t).set i fun r => D * M r j + 0 * M r j) (List.range n) = det ((El n M t).set i fun r => sg n fun k => B k j * ec M t k r) (List.range n) := by
    refine det_congr (by simp) fun q c d h1 h2 r hr => ?_
    by_cases e : q = i
    · subst e
      rw [List.getElem?_set_self hl] at h1 h2
      cases h1
      cases h2
      show D * M r j + 0 * M r j = sg n fun k => B k j * ec M t k r
      rw [b.eq j hj r (List.mem_range.mp hr)]
      omega
    · rw [List.getElem?_set_ne (fun z => e z.symm)] at h1 h2
      rw [h1] at h2
      cases h2
      rfl
  have e3 := det_sum (ec M t) (fun k => B k j) (El n M t) hl (List.range n) n
  have e4 : sg n (fun k => B k j * det ((El n M t).set i (ec M t k)) (List.range n)) = B i j * D := by
    rw [sg_one hi fun k hk ne => by rw [el_other hi hk (fun z => ne z.symm)]; exact Int.mul_zero _, el_self hi, ← b.dt]
  have e5 : D * det ((El n M t).set i fun r => M r j) (List.range n) = D * B i j := by
    rw [Int.mul_comm D (B i j), ← e4, ← e3, ← e2, e1]
    omega
  exact Int.eq_of_mul_eq_mul_left (by have := b.pos; omega) e5
theorem el_succ {n : Nat} {M : Nat → Nat → Int} {t : Nat} (ht : t < n) : (El n M t).set t (fun r => M r t) = El n M (t + 1) := by
  apply List.ext_getElem?
  intro k
  by_cases hk : k < n
  · rw [el_at hk]
    by_cases e : k = t
    · subst e
      rw [List.getElem?_set_self (by rw [el_len]; exact ht)]
      unfold ec
      rw [if_pos (by omega)]
    · rw [List.getElem?_set_ne (fun z => e z.symm), el_at hk]
      unfold ec
      by_cases l : k < t
      · rw [if_pos l, if_pos (by omega)]
      · rw [if_neg l, if_neg (by omega)]
  · rw [List.getElem?_eq_none (by rw [List.length_set, el_len]; omega), List.getElem?_eq_none (by rw [el_len]; omega)]
/-- both columns replaced -/
theorem det_two_set {n m : Nat} {M : Nat → Nat → Int} {t : Nat} {B : Nat → Nat → Int} {D : Int} (b : Bi n m M t B D) {i j : Nat} (hi : i < n) (ht : t < n) (htm : t < m) (hj : j < m) (ne : i ≠ t) : D * det ((El n M (t + 1)).set i fun r => M r j) (List.range n) = B t t * B i j - B i t * B t j := by
  -- D * (column j) is a sum of the columns of El n M t
  have hl : i < (El n M (t + 1)).length := by rw [el_len]; exact hi
  have e1 : D * det ((El n M (t + 1)).set i fun r => M r j) (List.range n) = det ((El n M (t + 1)).set i fun r => sg n fun k => B k j * ec M t k r) (List.range n) := by
    have := det_lin (fun r => M r j) (fun r => M r j) D 0 (El n M (t + 1)) i hl (List.range n)
    have z : det ((El n M (t + 1)).set i fun r => D * M r j + 0 * M r j) (List.range n) = det ((El n M (t + 1)).set i fun r => sg n fun k => B k j * ec M t k r) (List.range n) := by
      refine det_congr (by simp) fun q c d h1 h2 r hr => ?_
      by_cases e : q = i
      · subst e
        rw [List.getElem?_set_self hl] at h1 h2
        cases h1
        cases h2
        show D * M r j + 0 * M r j = sg n fun k => B k j * ec M t k r
        rw [b.eq j hj r (List.mem_range.mp hr)]
        omega
      · rw [List.getElem?_set_ne (fun z => e z.symm)] at h1 h2
        rw [h1] at h2
        cases h2
        rfl
    rw [← z, this]
    omega
  rw [e1, det_sum (ec M t) (fun k => B k j) (El n M (t + 1)) hl (List.range n) n]
  -- only k = i and k = t are left
  have v : ∀ k, k < n → k ≠ i → k ≠ t → det ((El n M (t + 1)).set i (ec M t k)) (List.range n) = 0 := fun k hk n1 n2 => by
    have e : ec M t k = ec M (t + 1) k := by
      unfold ec
      by_cases l : k < t
      · rw [if_pos l, if_pos (by omega)]
      · rw [if_neg l, if_neg (by omega)]
    rw [e]
    exact el_other hi hk (fun z => n1 z.symm) _
  have ei : det ((El n M (t + 1)).set i (ec M t i)) (List.range n) = B t t := by
    have e : ec M t i = ec M (t + 1) i := by
      unfold ec
      by_cases l : i < t
      · rw [if_pos l, if_pos (by omega)]
      · rw [if_neg l, if_neg (by omega)]
    rw [e, el_self hi, ← el_succ ht, det_D b ht htm]
  have et : det ((El n M (t + 1)).set i (ec M t t)) (List.range n) = - B i t := by
    -- the column t of El t stands at i, the column of M at t: exchanged
    have hlt : t < (El n M t).length := by rw [el_len]; exact ht
    have hli : i < (El n M t).length := by rw [el_len]; exact hi
    let u : Col := fun r => M r t
    let v : Col := ec M t t
    -- det (i := u + v, t := u + v) = 0
    have z : det (((El n M t).set t (fun r => 1 * u r + 1 * v r)).set i (fun r => 1 * u r + 1 * v r)) (List.range n) = 0 := by
      have a1 : (((El n M t).set t (fun r => 1 * u r + 1 * v r)).set i (fun r => 1 * u r + 1 * v r))[i]? = some (fun r => 1 * u r + 1 * v r) := List.getElem?_set_self (by rw [List.length_set]; exact hli)
      have a2 : (((El n M t).set t (fun r => 1 * u r + 1 * v r)).set i (fun r => 1 * u r + 1 * v r))[t]? = some (fun r => 1 * u r + 1 * v r) := by
        rw [List.getElem?_set_ne ne]
        exact List.getElem?_set_self hlt
      rcases Nat.lt_or_gt_of_ne ne with h | h
      · exact det_same a1 a2 h _
      · exact det_same a2 a1 h _
    have two : ∀ x : Col, det (((El n M t).set t x).set i x) (List.range n) = 0 := fun x => by
      have a1 : (((El n M t).set t x).set i x)[i]? = some x := List.getElem?_set_self (by rw [List.length_set]; exact hli)
      have a2 : (((El n M t).set t x).set i x)[t]? = some x := by
        rw [List.getElem?_set_ne ne]
        exact List.getElem?_set_self hlt
      rcases Nat.lt_or_gt_of_ne ne with h | h
      · exact det_same a1 a2 h _
      · exact det_same a2 a1 h _
    have l1 := det_lin u v 1 1 ((El n M t).set t (fun r => 1 * u r + 1 * v r)) i (by rw [List.length_set]; exact hli) (List.range n)
    have sw : ∀ x y : Col, ((El n M t).set t x).set i y = ((El n M t).set i y).set t x := fun x y => List.set_comm _ _ (fun z => ne z.symm)
    have l2 := det_lin u v 1 1 ((El n M t).set i u) t (by rw [List.length_set]; exact hlt) (List.range n)
    have l3 := det_lin u v 1 1 ((El n M t).set i v) t (by rw [List.length_set]; exact hlt) (List.range n)
    rw [z, sw, sw, l2, l3, ← sw u u, ← sw v u, ← sw u v, ← sw v v, two u, two v] at l1
    have p1 : ((El n M t).set t v).set i u = (El n M t).set i u := by
      show ((El n M t).set t (ec M t t)).set i u = _
      rw [el_self ht]
    have p2 : ((El n M t).set t u).set i v = (El n M (t + 1)).set i (ec M t t) := by
      show ((El n M t).set t (fun r => M r t)).set i (ec M t t) = _
      rw [el_succ ht]
    rw [p1, p2, det_D b hi htm] at l1
    omega
  rw [sg_out hi, sg_out (k := t) ht, ei, if_neg (fun z => ne z.symm), et, sg_congr (h := fun _ => 0) fun k hk => by
    by_cases e1 : k = t
    · rw [if_pos e1]
    · rw [if_neg e1]
      by_cases e2 : k = i
      · rw [if_pos e2]
      · rw [if_neg e2, v k hk e2 e1, Int.mul_zero], sg_zero]
  grind
/-- the pivot is positive, and at most the one before times the diagonal -/
theorem piv2 {n m : Nat} {M : Nat → Nat → Int} (mm : MM n M) {t : Nat} {B : Nat → Nat → Int} {D : Int} (b : Bi n m M t B D) (ht : t < n) (htm : t < m) : 0 < B t t ∧ B t t ≤ D * M t t := by
  -- y: minus the solution for the column t, D at t, nothing behind it
  let y : Nat → Int := fun k => if k < t then - B k t else if k = t then D else 0
  have my : ∀ r, r < n → r ≤ t → mv n M y r = if r = t then B t t else 0 := fun r hr hrt => by
    have e := b.eq t htm r hr
    have e1 : sg n (fun k => B k t * ec M t k r) + mv n M y r = (if r = t then B t t else 0) + D * M r t := by
      unfold mv
      rw [← sg_add]
      have p1 : sg n (fun k => B k t * ec M t k r + M r k * y k) = sg n fun k => (if k = t then D * M r t else 0) + (if k = r then (if r = t then B t t else 0) else 0) := sg_congr fun k hk => by
        show B k t * ec M t k r + M r k * (if k < t then - B k t else if k = t then D else 0) = _
        unfold ec
        by_cases h1 : k < t
        · rw [if_pos h1, if_pos h1, if_neg (by omega)]
          have : (if k = r then (if r = t then B t t else 0) else 0) = (0 : Int) := by
            by_cases h : k = r
            · rw [if_pos h, if_neg (by omega)]
            · rw [if_neg h]
          rw [this]
          show B k t * M r k + M r k * -B k t = 0 + 0
          grind
        · rw [if_neg h1, if_neg h1]
          unfold un
          by_cases h2 : k = t
          · subst h2
            rw [if_pos rfl, if_pos rfl]
            by_cases h3 : r = k
            · subst h3
              rw [if_pos rfl, if_pos rfl, if_pos rfl]
              grind
            · rw [if_neg h3, if_neg (fun z => h3 z.symm)]
              grind
          · rw [if_neg h2, if_neg h2, if_neg (show ¬ r = k by omega), if_neg (show ¬ k = r by omega)]
            omega
      rw [p1, sg_add, sg_one ht (fun i _ h => if_neg h), if_pos rfl, sg_one hr (fun i _ h => if_neg h), if_pos rfl]
      omega
    rw [e] at e1
    omega
  have y0 := mm.nonneg (y := y) fun r hr neg => by
    have : r < t := by
      apply Classical.byContradiction
      intro z
      have : y r = if r = t then D else 0 := if_neg z
      rw [this] at neg
      have := b.pos
      split at neg <;> omega
    rw [my r hr (by omega), if_neg (by omega)]
    exact Int.le_refl _
  have yt : y t = D := by
    show (if t < t then _ else if t = t then D else 0) = D
    rw [if_neg (by omega), if_pos rfl]
  have le : B t t ≤ D * M t t := by
    have e := my t ht (Nat.le_refl _)
    rw [if_pos rfl] at e
    rw [← e, Int.mul_comm]
    have : M t t * D = sg n fun k => if k = t then M t t * D else 0 := by rw [sg_one ht fun i _ h => if_neg h, if_pos rfl]
    rw [this]
    unfold mv
    refine sg_le fun k hk => ?_
    by_cases h : k = t
    · subst h
      rw [if_pos rfl, yt]
      exact Int.le_refl _
    · rw [if_neg h]
      exact Int.mul_nonpos_of_nonpos_of_nonneg (mm.off t k ht hk fun e => h e.symm) (y0 k hk)
  refine ⟨?_, le⟩
  obtain ⟨j, hj, sj, pj⟩ := mm.out (fun k => decide (0 < y k)) ⟨t, ht, decide_eq_true (by rw [yt]; exact b.pos)⟩
  have s := sum_rows n M y fun k => decide (0 < y k)
  have yn : ∀ k, t < k → y k = 0 := fun k h => by
    show (if k < t then _ else if k = t then D else 0) = 0
    rw [if_neg (by omega), if_neg (by omega)]
  rw [sg_one ht (fun r hr ne => by
    by_cases z : 0 < y r
    · rw [if_pos (decide_eq_true z)]
      have : r ≤ t := by
        apply Classical.byContradiction
        intro w
        rw [yn r (by omega)] at z
        omega
      rw [my r hr this, if_neg ne]
    · rw [if_neg (fun w => z (of_decide_eq_true w))]), if_pos (decide_eq_true (by rw [yt]; exact b.pos)), my t ht (Nat.le_refl _), if_pos rfl] at s
  rw [s]
  refine sg_pos (fun i hi => ?_) j hj (Int.mul_pos (of_decide_eq_true sj) pj)
  have h0 := y0 i hi
  by_cases z : 0 < y i
  · exact Int.mul_nonneg h0 (mm.nn _ i hi (decide_eq_true z))
  · have : y i = 0 := by omega
    rw [this, Int.zero_mul]
    exact Int.le_refl _
theorem piv {n m : Nat} {M : Nat → Nat → Int} (mm : MM n M) {t : Nat} {B : Nat → Nat → Int} {D : Int} (b : Bi n m M t B D) (ht : t < n) (htm : t < m) : 0 < B t t := (piv2 mm b ht htm).1
/-- one turn -/
theorem bi_step {n m : Nat} {M : Nat → Nat → Int} (mm : MM n M) {t : Nat} {B : Nat → Nat → Int} {D : Int} (b : Bi n m M t B D) (ht : t < n) (nm : n ≤ m) : Bi n m M (t + 1) (bs B t D) (B t t) ∧ ∀ i, i < n → i ≠ t → ∀ j, j < m → D * bs B t D i j = B t t * B i j - B i t * B t j := by
  have htm : t < m := by omega
  have dv : ∀ i, i < n → i ≠ t → ∀ j, j < m → D * bs B t D i j = B t t * B i j - B i t * B t j := fun i hi ne j hj => by
    have := det_two_set b hi ht htm hj ne
    unfold bs
    rw [if_neg ne, ← this, Int.mul_ediv_cancel_left _ (by have := b.pos; omega)]
  refine ⟨⟨piv mm b ht htm, by rw [← el_succ ht, det_D b ht htm], fun j hj r hr => ?_⟩, dv⟩
  have e := b.eq j hj r hr
  have e2 := b.eq t htm r hr
  refine Int.eq_of_mul_eq_mul_left (a := D) (by have := b.pos; omega) ?_
  rw [← sg_mul]
  have p : sg n (fun k => D * (bs B t D k j * ec M (t + 1) k r)) = sg n fun k => (B t t * (B k j * ec M t k r) - B t j * (B k t * ec M t k r)) + (if k = t then B t j * (D * M r t) else 0) := sg_congr fun k hk => by
    by_cases h : k = t
    · subst h
      rw [if_pos rfl]
      have e1 : bs B k D k j = B k j := if_pos rfl
      have e3 : ec M (k + 1) k r = M r k := by unfold ec; rw [if_pos (by omega)]
      rw [e1, e3]
      grind
    · rw [if_neg h]
      have e3 : ec M (t + 1) k = ec M t k := by
        unfold ec
        by_cases l : k < t
        · rw [if_pos l, if_pos (by omega)]
        · rw [if_neg l, if_neg (by omega)]
      rw [e3, ← Int.mul_assoc, dv k hk h j hj]
      grind
  rw [p, sg_add, sg_sub, sg_mul, sg_mul, e, e2, sg_one ht (fun i _ h => if_neg h), if_pos rfl]
  grind
theorem bi_zero {n m : Nat} {M : Nat → Nat → Int} : Bi n m M 0 M 1 where
  pos := by decide
  dt := by
    have : El n M 0 = (List.range n).map un := List.map_congr_left fun k _ => if_neg (by omega)
    rw [this, det_un List.nodup_range]
  eq := fun j _ r hr => by
    rw [sg_one hr fun k _ ne => by
      unfold ec un
      rw [if_neg (by omega)]
      show M k j * (if r = k then 1 else 0) = 0
      rw [if_neg (fun z => ne z.symm), Int.mul_zero]]
    unfold ec un
    rw [if_neg (by omega)]
    show M r j * (if r = r then 1 else 0) = _
    rw [if_pos rfl]
    omega
/-- behind t turns -/
theorem bi_all {n m : Nat} {M : Nat → Nat → Int} (mm : MM n M) (nm : n ≤ m) : ∀ t, t ≤ n → Bi n m M t (bt M t).1 (bt M t).2
  | 0, _ => bi_zero
  | t + 1, h => (bi_step mm (bi_all mm nm t (by omega)) (by omega) nm).1
theorem bt_le {n : Nat} {M : Nat → Nat → Int} (mm : MM n M) {W : Int} (w1 : 1 ≤ W) (hW : ∀ r, r < n → M r r ≤ W) : ∀ t, t ≤ n → (bt M t).2 ≤ W ^ t
  | 0, _ => by show (1 : Int) ≤ W ^ 0; rw [Int.pow_zero]; exact Int.le_refl _
  | t + 1, h => by
    have b := bi_all (m := n) mm (Nat.le_refl _) t (by omega)
    have h1 := (piv2 mm b (by omega) (by omega)).2
    have h2 := bt_le mm w1 hW t (by omega)
    have h3 := hW t (by omega)
    have h4 : (bt M t).2 * M t t ≤ (bt M t).2 * W := Int.mul_le_mul_of_nonneg_left h3 (by have := b.pos; omega)
    have h5 : (bt M t).2 * W ≤ W ^ t * W := Int.mul_le_mul_of_nonneg_right h2 (by omega)
    show (bt M t).1 t t ≤ W ^ (t + 1)
    rw [Int.pow_succ]
    omega
/-- the end: the solution over the last pivot -/
theorem solved {n : Nat} {M : Nat → Nat → Int} (mm : MM n M) : 0 < (bt M n).2 ∧ ∀ r, r < n → mv n M (fun k => (bt M n).1 k n) r = (bt M n).2 * M r n := by
  have b := bi_all (m := n + 1) mm (by omega) n (Nat.le_refl _)
  refine ⟨b.pos, fun r hr => ?_⟩
  rw [← b.eq n (by omega) r hr]
  exact sg_congr fun k hk => by
    unfold ec
    rw [if_pos hk]
    exact Int.mul_comm ..
end Cl
set_option Elab.async false
set_option linter.all false
namespace Cl
/-! ### sizes -/
theorem px_size {c : Col} {X Y : Nat} : ∀ {rs : List Nat} {F : List Nat → Int}, (∀ r ∈ rs, (c r).natAbs ≤ X) → (∀ q, q.length < rs.length → (∀ r ∈ q, r ∈ rs) → (F q).natAbs ≤ Y) → (px c rs F).natAbs ≤ rs.length * (X * Y)
  | [], F, _, _ => by simp [px]
  | r :: rs, F, hc, hF => by
    have h1 := hc r (List.mem_cons_self ..)
    have h2 := hF rs (by simp) fun x m => List.mem_cons_of_mem _ m
    have h3 := px_size (c := c) (X := X) (Y := Y) (rs := rs) (F := fun q => F (r :: q)) (fun x m => hc x (List.mem_cons_of_mem _ m)) fun q l m => hF _ (by simp; omega) fun x hx => by
      rcases List.mem_cons.mp hx with rfl | hx
      · exact List.mem_cons_self ..
      · exact List.mem_cons_of_mem _ (m x hx)
    have h4 : (c r * F rs).natAbs ≤ X * Y := by rw [Int.natAbs_mul]; exact Nat.mul_le_mul h1 h2
    have h5 : (px c (r :: rs) F).natAbs ≤ (c r * F rs).natAbs + (px c rs fun q => F (r :: q)).natAbs := by
      show (c r * F rs - px c rs fun q => F (r :: q)).natAbs ≤ _
      omega
    have : (r :: rs).length * (X * Y) = X * Y + rs.length * (X * Y) := by rw [List.length_cons, Nat.add_mul, Nat.one_mul, Nat.add_comm]
    omega
theorem det_size {X N : Nat} : ∀ {cs : List Col} {rs : List Nat}, rs.length ≤ N → (∀ c ∈ cs, ∀ r ∈ rs, (c r).natAbs ≤ X) → (det cs rs).natAbs ≤ (N * X) ^ cs.length
  | [], rs, _, _ => by
    rw [det]
    split <;> simp
  | c :: cs, rs, hl, h => by
    rw [det]
    have := px_size (c := c) (X := X) (Y := (N * X) ^ cs.length) (rs := rs) (F := det cs) (fun r m => h c (List.mem_cons_self ..) r m) fun q l m => det_size (N := N) (by omega) fun c' hc' r hr => h c' (List.mem_cons_of_mem _ hc') r (m r hr)
    refine Nat.le_trans this ?_
    rw [List.length_cons, Nat.pow_succ, Nat.mul_comm (_ ^ _), Nat.mul_assoc]
    exact Nat.mul_le_mul_right _ hl
theorem bi_size {n m : Nat} {M : Nat → Nat → Int} {t : Nat} {B : Nat → Nat → Int} {D : Int} (b : Bi n m M t B D) {X : Nat} (x1 : 1 ≤ X) (hM : ∀ r k, r < n → k < m → (M r k).natAbs ≤ X) (tm : t ≤ m) {i j : Nat} (hi : i < n) (hj : j < m) : (B i j).natAbs ≤ (n * X) ^ n := by
  rw [← det_D b hi hj]
  have : ((El n M t).set i fun r => M r j).length = n := by rw [List.length_set, el_len]
  refine Nat.le_trans (det_size (X := X) (N := n) (by rw [List.length_range]; exact Nat.le_refl _) ?_) (by rw [this]; exact Nat.le_refl _)
  intro c hc r hr
  have hr := List.mem_range.mp hr
  rcases List.mem_or_eq_of_mem_set hc with h | h
  · unfold El at h
    obtain ⟨k, hk, rfl⟩ := List.mem_map.mp h
    unfold ec un
    split
    · exact hM r k hr (by omega)
    · show (if r = k then (1 : Int) else 0).natAbs ≤ X
      split <;> simp
      exact x1
  · rw [h]
    exact hM r j hr hj
theorem bt_d_size {n m : Nat} {M : Nat → Nat → Int} (mm : MM n M) (nm : n ≤ m) {X : Nat} (x1 : 1 ≤ X) (hM : ∀ r k, r < n → k < m → (M r k).natAbs ≤ X) : ∀ t, t ≤ n → ((bt M t).2).natAbs ≤ (n * X) ^ n
  | 0, _ => by
    show (1 : Int).natAbs ≤ _
    have : 0 < (n * X) ^ n := by
      cases n with
      | zero => simp
      | succ n => exact Nat.pow_pos (Nat.mul_pos (Nat.succ_pos _) x1)
    exact this
  | t + 1, h => bi_size (bi_all mm nm t (by omega)) x1 hM (by omega) (by omega) (by omega)
/-! ### parties: six of them; d i j: what i owes j; p i: its purse -/
def owe (d : Nat → Nat → Int) (i : Nat) : Int := sg 6 (d i)
def rcv (d : Nat → Nat → Int) (s : Nat → Int) (i : Nat) : Int := sg 6 fun j => d j i * s j
structure Dd (d : Nat → Nat → Int) : Prop where
  nn : ∀ i j, 0 ≤ d i j
  z : ∀ i, d i i = 0
theorem owe_nn {d : Nat → Nat → Int} (h : Dd d) (i : Nat) : 0 ≤ owe d i := sg_nonneg fun j _ => h.nn i j
/-- no group of them owes all that it owes to itself -/
def NC (d : Nat → Nat → Int) (F : List Nat) : Prop := ∀ S : Nat → Bool, (∀ i, S i = true → i ∈ F) → (∃ i, S i = true) → ∃ k, S k = true ∧ sg 6 (fun j => if S j then d k j else 0) < owe d k
def am (d : Nat → Nat → Int) (F : List Nat) (r k : Nat) : Int := if r ∈ F ∧ k ∈ F then (if r = k then owe d k else - d k r) else if r = k then 1 else 0
theorem cs_am_out {d : Nat → Nat → Int} {F : List Nat} {S : Nat → Bool} {k : Nat} (hk : k < 6) (hS : S k = true) (hF : k ∉ F) : cs 6 (am d F) S k = 1 := by
  unfold cs
  rw [sg_one hk fun i _ ne => by
    split
    · unfold am
      rw [if_neg (fun z => hF z.2), if_neg ne]
    · rfl, if_pos hS]
  unfold am
  rw [if_neg (fun z => hF z.2), if_pos rfl]
theorem cs_am {d : Nat → Nat → Int} (hd : Dd d) {F : List Nat} {S : Nat → Bool} {k : Nat} (hk : k < 6) (hS : S k = true) (hF : k ∈ F) : cs 6 (am d F) S k = owe d k - sg 6 (fun j => if S j = true ∧ j ∈ F then d k j else 0) := by
  unfold cs
  have : sg 6 (fun r => if S r = true then am d F r k else 0) = sg 6 fun r => (if r = k then owe d k else 0) - (if S r = true ∧ r ∈ F then d k r else 0) := sg_congr fun r hr => by
    by_cases h3 : r = k
    · subst h3
      simp [am, hS, hF, hd.z]
    · by_cases h1 : S r = true
      · by_cases h2 : r ∈ F
        · simp [am, h1, h2, h3, hF]
        · simp [am, h1, h2, h3, hF]
      · simp [h1, h3]
  rw [this, sg_sub, sg_one hk fun i _ h => if_neg h, if_pos rfl]
theorem mm_am {d : Nat → Nat → Int} (hd : Dd d) {F : List Nat} (hF : ∀ i ∈ F, i < 6) (nc : NC d F) : MM 6 (am d F) where
  off := fun r k _ _ ne => by
    unfold am
    have := hd.nn k r
    simp only [if_neg ne]
    split <;> omega
  nn := fun S k hk hS => by
    by_cases h : k ∈ F
    · rw [cs_am hd hk hS h]
      have : sg 6 (fun j => if S j = true ∧ j ∈ F then d k j else 0) ≤ owe d k := sg_le fun j _ => by
        have := hd.nn k j
        split <;> omega
      omega
    · rw [cs_am_out hk hS h]
      decide
  out := fun S ⟨k, hk, hS⟩ => by
    by_cases h : ∃ j, j < 6 ∧ S j = true ∧ j ∉ F
    · obtain ⟨j, hj, sj, nj⟩ := h
      exact ⟨j, hj, sj, by rw [cs_am_out hj sj nj]; decide⟩
    · obtain ⟨j, sj, lj⟩ := nc (fun i => S i && decide (i ∈ F)) (fun i e => of_decide_eq_true (Bool.and_eq_true_iff.mp e).2) ⟨k, by
        have : k ∈ F := Classical.byContradiction fun z => h ⟨k, hk, hS, z⟩
        simp [hS, this]⟩
      obtain ⟨s1, s2⟩ := Bool.and_eq_true_iff.mp sj
      have s2 := of_decide_eq_true s2
      refine ⟨j, hF j s2, s1, ?_⟩
      rw [cs_am hd (hF j s2) s1 s2]
      have : sg 6 (fun i => if S i = true ∧ i ∈ F then d j i else 0) = sg 6 (fun i => if (S i && decide (i ∈ F)) = true then d j i else 0) := sg_congr fun i _ => by
        simp only [Bool.and_eq_true, decide_eq_true_eq]
      omega
/-- comparison: what is nowhere negative outside, and not below what it is paid within, is not negative -/
theorem cmp {d : Nat → Nat → Int} (hd : Dd d) {F : List Nat} (hF : ∀ i ∈ F, i < 6) (nc : NC d F) {y : Nat → Int} (ho : ∀ i, i < 6 → i ∉ F → 0 ≤ y i) (hi : ∀ i ∈ F, rcv d y i ≤ owe d i * y i) : ∀ i, i < 6 → 0 ≤ y i := by
  refine (mm_am hd hF nc).nonneg fun r hr neg => ?_
  have hrF : r ∈ F := Classical.byContradiction fun z => by
    have := ho r hr z
    omega
  have h1 := hi r hrF
  have h2 : owe d r * y r - rcv d y r ≤ mv 6 (am d F) y r := by
    unfold rcv mv
    have : owe d r * y r = sg 6 fun k => if k = r then owe d r * y r else 0 := by
      rw [sg_one hr fun i _ h => if_neg h, if_pos rfl]
    rw [this, ← sg_sub]
    refine sg_le fun k hk => ?_
    unfold am
    have := hd.nn k r
    by_cases e : k = r
    · subst e
      rw [if_pos rfl, if_pos ⟨hrF, hrF⟩, if_pos rfl, hd.z]
      omega
    · rw [if_neg e]
      by_cases hkF : k ∈ F
      · rw [if_pos ⟨hrF, hkF⟩, if_neg (fun z => e z.symm)]
        have : -d k r * y k = - (d k r * y k) := Int.neg_mul ..
        omega
      · rw [if_neg (fun z => hkF z.2), if_neg (fun z => e z.symm)]
        have := Int.mul_nonneg this (ho k hk hkF)
        omega
  omega
/-! ### the equations by the places of the failing ones -/
def mat (d : Nat → Nat → Int) (p : Nat → Int) (F : List Nat) (r k : Nat) : Int :=
  if k < F.length then (if k = r then owe d (F.getD r 0) else 0 - d (F.getD k 0) (F.getD r 0)) else p (F.getD r 0) + sg 6 (fun i => if i ∈ F then 0 else d i (F.getD r 0))
theorem sg_list {F : List Nat} (nd : F.Nodup) (hF : ∀ i ∈ F, i < 6) (f : Nat → Int) : sg F.length (fun r => f (F.getD r 0)) = sg 6 (fun i => if i ∈ F then f i else 0) := by
  have key : ∀ (F : List Nat), F.Nodup → (∀ i ∈ F, i < 6) → ∀ n, n ≤ F.length → sg n (fun r => f (F.getD r 0)) = sg 6 (fun i => if i ∈ F.take n then f i else 0) := fun F nd hF n => by
    induction n with
    | zero =>
      intro _
      rw [sg, sg_congr (h := fun _ => 0) fun i _ => by rw [List.take_zero, if_neg (List.not_mem_nil)], sg_zero]
    | succ n ih =>
      intro h
      have hn : n < F.length := by omega
      have e0 : F.getD n 0 = F[n] := by rw [List.getD_eq_getElem?_getD, List.getElem?_eq_getElem hn]; rfl
      have e1 : F.take (n + 1) = F.take n ++ [F[n]] := by rw [List.take_succ, List.getElem?_eq_getElem hn]; rfl
      have nin : F[n] ∉ F.take n := fun m => by
        obtain ⟨i, hi, e⟩ := List.mem_iff_getElem.mp m
        rw [List.length_take] at hi
        rw [List.getElem_take] at e
        have := (List.getElem_inj (h₀ := by omega) (h₁ := hn) nd).mp e
        omega
      rw [sg, ih (by omega), e0, e1]
      have : sg 6 (fun i => if i ∈ F.take n ++ [F[n]] then f i else 0) = sg 6 fun i => (if i ∈ F.take n then f i else 0) + (if i = F[n] then f i else 0) := sg_congr fun i _ => by
        simp only [List.mem_append, List.mem_singleton]
        by_cases h1 : i ∈ F.take n
        · rw [if_pos (.inl h1), if_pos h1, if_neg fun e => nin (by rw [← e]; exact h1)]
          omega
        · rw [if_neg h1]
          by_cases h2 : i = F[n]
          · rw [if_pos (.inr h2), if_pos h2]
            omega
          · rw [if_neg (fun z => z.elim h1 h2), if_neg h2]
            rfl
      rw [this, sg_add, sg_one (k := F[n]) (hF _ (List.getElem_mem hn)) fun i _ h => if_neg h, if_pos rfl]
  have := key F nd hF F.length (Nat.le_refl _)
  rwa [List.take_length] at this
def ixF (F : List Nat) (i : Nat) : Nat := F.idxOf i
theorem ixF_lt {F : List Nat} {i : Nat} (h : i ∈ F) : F.idxOf i < F.length := List.idxOf_lt_length_of_mem h
theorem getD_ix {F : List Nat} {i : Nat} (h : i ∈ F) : F.getD (F.idxOf i) 0 = i := by
  rw [List.getD_eq_getElem?_getD, List.getElem?_eq_getElem (ixF_lt h)]
  exact List.getElem_idxOf (ixF_lt h)
theorem ix_getD {F : List Nat} (nd : F.Nodup) {r : Nat} (h : r < F.length) : F.idxOf (F.getD r 0) = r := by
  have e : F.getD r 0 = F[r] := by rw [List.getD_eq_getElem?_getD, List.getElem?_eq_getElem h]; rfl
  rw [e]
  exact nd.idxOf_getElem r h
theorem getD_mem {F : List Nat} {r : Nat} (h : r < F.length) : F.getD r 0 ∈ F := by
  rw [List.getD_eq_getElem?_getD, List.getElem?_eq_getElem h]
  exact List.getElem_mem h
theorem getD_inj {F : List Nat} (nd : F.Nodup) {r k : Nat} (hr : r < F.length) (hk : k < F.length) (e : F.getD r 0 = F.getD k 0) : r = k := by rw [← ix_getD nd hr, e, ix_getD nd hk]
theorem mat_am {d : Nat → Nat → Int} {p : Nat → Int} {F : List Nat} (nd : F.Nodup) {r k : Nat} (hr : r < F.length) (hk : k < F.length) : mat d p F r k = am d F (F.getD r 0) (F.getD k 0) := by
  unfold mat am
  rw [if_pos hk, if_pos (⟨getD_mem hr, getD_mem hk⟩ : F.getD r 0 ∈ F ∧ F.getD k 0 ∈ F)]
  by_cases e : k = r
  · subst e
    rw [if_pos rfl, if_pos rfl]
  · have e2 : ¬ F.getD r 0 = F.getD k 0 := fun z => e (getD_inj nd hr hk z).symm
    rw [if_neg e, if_neg e2]
    omega
theorem mm_mat {d : Nat → Nat → Int} (hd : Dd d) {p : Nat → Int} {F : List Nat} (nd : F.Nodup) (hF : ∀ i ∈ F, i < 6) (nc : NC d F) : MM F.length (mat d p F) := by
  have mm := mm_am hd hF nc
  have ce : ∀ (S : Nat → Bool) k, k < F.length → S k = true → cs F.length (mat d p F) S k = cs 6 (am d F) (fun i => decide (i ∈ F) && S (F.idxOf i)) (F.getD k 0) := fun S k hk hS => by
    unfold cs
    have e1 : sg F.length (fun r => if S r = true then mat d p F r k else 0) = sg F.length (fun r => (fun i => if (decide (i ∈ F) && S (F.idxOf i)) = true then am d F i (F.getD k 0) else 0) (F.getD r 0)) := sg_congr fun r hr => by
      show _ = if (decide (F.getD r 0 ∈ F) && S (F.idxOf (F.getD r 0))) = true then am d F (F.getD r 0) (F.getD k 0) else 0
      rw [ix_getD nd hr, decide_eq_true (getD_mem hr), Bool.true_and, mat_am nd hr hk]
    rw [e1, sg_list nd hF (fun i => if (decide (i ∈ F) && S (F.idxOf i)) = true then am d F i (F.getD k 0) else 0)]
    exact sg_congr fun i _ => by
      by_cases h : i ∈ F
      · rw [if_pos h]
      · rw [if_neg h, if_neg]
        simp [h]
  exact {
    off := fun r k hr hk ne => by
      rw [mat_am nd hr hk]
      exact mm.off _ _ (hF _ (getD_mem hr)) (hF _ (getD_mem hk)) fun e => ne (getD_inj nd hr hk e)
    nn := fun S k hk hS => by
      rw [ce S k hk hS]
      refine mm.nn _ _ (hF _ (getD_mem hk)) ?_
      show (decide (F.getD k 0 ∈ F) && S (F.idxOf (F.getD k 0))) = true
      rw [ix_getD nd hk, decide_eq_true (getD_mem hk), hS]
      rfl
    out := fun S ⟨k, hk, hS⟩ => by
      obtain ⟨j, hj, sj, pj⟩ := mm.out (fun i => decide (i ∈ F) && S (F.idxOf i)) ⟨F.getD k 0, hF _ (getD_mem hk), by
        show (decide (F.getD k 0 ∈ F) && S (F.idxOf (F.getD k 0))) = true
        rw [ix_getD nd hk, decide_eq_true (getD_mem hk), hS]
        rfl⟩
      obtain ⟨s1, s2⟩ := Bool.and_eq_true_iff.mp sj
      have s1 := of_decide_eq_true s1
      refine ⟨F.idxOf j, ixF_lt s1, s2, ?_⟩
      rw [ce S _ (ixF_lt s1) s2, getD_ix s1]
      exact pj }
/-- what solve gives for these failing ones: shares over a scale -/
def sclF (d : Nat → Nat → Int) (p : Nat → Int) (F : List Nat) : Int := (bt (mat d p F) F.length).2
def shrF (d : Nat → Nat → Int) (p : Nat → Int) (F : List Nat) (i : Nat) : Int := if i ∈ F then (bt (mat d p F) F.length).1 (F.idxOf i) F.length else sclF d p F
/-- shares s over D: the failing ones pay what they have -/
structure Eqs (d : Nat → Nat → Int) (p : Nat → Int) (F : List Nat) (s : Nat → Int) (D : Int) : Prop where
  pos : 0 < D
  off : ∀ i, i ∉ F → s i = D
  eq : ∀ i ∈ F, owe d i * s i = p i * D + rcv d s i
theorem eqs_of {d : Nat → Nat → Int} (hd : Dd d) {p : Nat → Int} {F : List Nat} (nd : F.Nodup) (hF : ∀ i ∈ F, i < 6) (nc : NC d F) : Eqs d p F (shrF d p F) (sclF d p F) := by
  obtain ⟨h1, h2⟩ := solved (mm_mat hd (p := p) nd hF nc)
  refine ⟨h1, fun i h => if_neg h, fun i hi => ?_⟩
  have e := h2 (F.idxOf i) (ixF_lt hi)
  have si : shrF d p F i = (bt (mat d p F) F.length).1 (F.idxOf i) F.length := if_pos hi
  unfold mv at e
  have e1 : sg F.length (fun k => mat d p F (F.idxOf i) k * (bt (mat d p F) F.length).1 k F.length) = sg F.length (fun k => (fun j => am d F i j * shrF d p F j) (F.getD k 0)) := sg_congr fun k hk => by
    show _ = am d F i (F.getD k 0) * shrF d p F (F.getD k 0)
    rw [mat_am nd (ixF_lt hi) hk, getD_ix hi]
    unfold shrF
    rw [if_pos (getD_mem hk), ix_getD nd hk]
  have e2 : mat d p F (F.idxOf i) F.length = p i + sg 6 (fun j => if j ∈ F then 0 else d j i) := by
    unfold mat
    rw [if_neg (by omega), getD_ix hi]
  have e3 : sg 6 (fun j => if j ∈ F then am d F i j * shrF d p F j else 0) = owe d i * shrF d p F i - sg 6 (fun j => if j ∈ F then d j i * shrF d p F j else 0) := by
    have : owe d i * shrF d p F i = sg 6 fun k => if k = i then owe d i * shrF d p F i else 0 := by
      rw [sg_one (hF i hi) fun i _ h => if_neg h, if_pos rfl]
    rw [this, ← sg_sub]
    exact sg_congr fun j hj => by
      by_cases h : j ∈ F
      · rw [if_pos h, if_pos h]
        unfold am
        rw [if_pos ⟨hi, h⟩]
        by_cases e : i = j
        · subst e
          rw [if_pos rfl, if_pos rfl, hd.z]
          omega
        · rw [if_neg e, if_neg (fun z => e z.symm), Int.neg_mul]
          omega
      · rw [if_neg h, if_neg h, if_neg (fun e => h (by rw [e]; exact hi))]
        rfl
  have e4 : rcv d (shrF d p F) i = sg 6 (fun j => if j ∈ F then d j i * shrF d p F j else 0) + sclF d p F * sg 6 (fun j => if j ∈ F then 0 else d j i) := by
    unfold rcv
    rw [← sg_mul, ← sg_add]
    exact sg_congr fun j _ => by
      by_cases h : j ∈ F
      · rw [if_pos h, if_pos h]
        omega
      · rw [if_neg h, if_neg h, show shrF d p F j = sclF d p F from if_neg h, Int.mul_comm]
        omega
  rw [e1, sg_list nd hF (fun j => am d F i j * shrF d p F j), e3, e2] at e
  rw [e4]
  have : sclF d p F * (p i + sg 6 (fun j => if j ∈ F then 0 else d j i)) = p i * sclF d p F + sclF d p F * sg 6 (fun j => if j ∈ F then 0 else d j i) := by grind
  have e : owe d i * shrF d p F i - sg 6 (fun j => if j ∈ F then d j i * shrF d p F j else 0) = sclF d p F * (p i + sg 6 (fun j => if j ∈ F then 0 else d j i)) := e
  omega
end Cl
set_option Elab.async false
set_option linter.all false
namespace Cl
/-! ### the waves -/
def frs (d : Nat → Nat → Int) (p : Nat → Int) (F : List Nat) : List Nat := (List.range 6).filter fun i => decide (i ∉ F ∧ p i * sclF d p F + rcv d (shrF d p F) i < owe d i * sclF d p F)
theorem mem_frs {d : Nat → Nat → Int} {p : Nat → Int} {F : List Nat} {i : Nat} : i ∈ frs d p F ↔ i < 6 ∧ i ∉ F ∧ p i * sclF d p F + rcv d (shrF d p F) i < owe d i * sclF d p F := by
  unfold frs
  rw [List.mem_filter, List.mem_range, decide_eq_true_eq]
/-- the failing ones so far -/
structure Iv (d : Nat → Nat → Int) (p : Nat → Int) (F : List Nat) : Prop where
  nd : F.Nodup
  lt : ∀ i ∈ F, i < 6
  nc : NC d F
  sh : ∀ i ∈ F, 0 ≤ shrF d p F i ∧ shrF d p F i < sclF d p F
theorem Iv.eqs {d : Nat → Nat → Int} {p : Nat → Int} {F : List Nat} (hd : Dd d) (h : Iv d p F) : Eqs d p F (shrF d p F) (sclF d p F) := eqs_of hd h.nd h.lt h.nc
theorem Iv.nn {d : Nat → Nat → Int} {p : Nat → Int} {F : List Nat} (hd : Dd d) (h : Iv d p F) (i : Nat) : 0 ≤ shrF d p F i := by
  by_cases m : i ∈ F
  · exact (h.sh i m).1
  · rw [(h.eqs hd).off i m]
    have := (h.eqs hd).pos
    omega
theorem Iv.le {d : Nat → Nat → Int} {p : Nat → Int} {F : List Nat} (hd : Dd d) (h : Iv d p F) (i : Nat) : shrF d p F i ≤ sclF d p F := by
  by_cases m : i ∈ F
  · have := (h.sh i m).2
    omega
  · rw [(h.eqs hd).off i m]
    exact Int.le_refl _
theorem rcv_nn {d : Nat → Nat → Int} (hd : Dd d) {s : Nat → Int} (h : ∀ i, i < 6 → 0 ≤ s i) (i : Nat) : 0 ≤ rcv d s i := sg_nonneg fun j hj => Int.mul_nonneg (hd.nn j i) (h j hj)
theorem rcv_lin (d : Nat → Nat → Int) (s t : Nat → Int) (a b : Int) (i : Nat) : rcv d (fun j => s j * a - t j * b) i = rcv d s i * a - rcv d t i * b := by
  unfold rcv
  rw [← sg_mulr, ← sg_mulr, ← sg_sub]
  exact sg_congr fun j _ => by grind
theorem iv_nil (d : Nat → Nat → Int) (p : Nat → Int) : Iv d p [] := ⟨List.nodup_nil, fun i h => (List.not_mem_nil h).elim, fun S h ⟨i, e⟩ => (List.not_mem_nil (h i e)).elim, fun i h => (List.not_mem_nil h).elim⟩
/-- shares below which no further one may fail: no closed group among F and G -/
theorem nc_more {d : Nat → Nat → Int} (hd : Dd d) {p : Nat → Int} (hp : ∀ i, 0 ≤ p i) {F G : List Nat} (nc : NC d F) {s : Nat → Int} {D : Int} (lt : ∀ i, i ∈ F ∨ i ∈ G → i < 6) (e : Eqs d p F s D) (s0 : ∀ i, i < 6 → 0 ≤ s i) (hG : ∀ i ∈ G, p i * D + rcv d s i < owe d i * s i) : NC d (F ++ G) := fun S hS hne => by
  by_cases hg : ∃ i, i ∈ G ∧ S i = true
  · apply Classical.byContradiction
    intro no
    have cl : ∀ k, S k = true → owe d k ≤ sg 6 (fun j => if S j then d k j else 0) := fun k hk => by
      apply Classical.byContradiction
      intro z
      exact no ⟨k, hk, by omega⟩
    obtain ⟨g, hgG, gS⟩ := hg
    -- what the group lacks
    have q0 : ∀ i, S i = true → 0 ≤ owe d i * s i - p i * D - rcv d s i := fun i hi => by
      rcases List.mem_append.mp (hS i hi) with h | h
      · have := e.eq i h
        omega
      · have := hG i h
        omega
    have a : 0 < sg 6 (fun i => if S i then owe d i * s i - p i * D - rcv d s i else 0) := by
      refine sg_pos (fun i _ => ?_) g (lt g (.inr hgG)) ?_
      · split
        · rename_i h
          exact q0 i h
        · exact Int.le_refl _
      · rw [if_pos gS]
        have := hG g hgG
        omega
    have b : sg 6 (fun i => if S i then owe d i * s i - p i * D - rcv d s i else 0) ≤ sg 6 (fun i => if S i then owe d i * s i else 0) - sg 6 (fun i => if S i then rcv d s i else 0) := by
      rw [← sg_sub]
      exact sg_le fun i _ => by
        split
        · have := Int.mul_nonneg (hp i) (show 0 ≤ D by have := e.pos; omega)
          omega
        · exact Int.le_refl _
    have c : sg 6 (fun i => if S i then rcv d s i else 0) = sg 6 fun j => s j * sg 6 (fun i => if S i then d j i else 0) := by
      have : sg 6 (fun i => if S i then rcv d s i else 0) = sg 6 fun i => sg 6 fun j => s j * (if S i then d j i else 0) := sg_congr fun i _ => by
        unfold rcv
        by_cases h : S i = true
        · rw [if_pos h]
          exact sg_congr fun j _ => by rw [if_pos h, Int.mul_comm]
        · rw [if_neg h]
          exact (sg_zero 6).symm.trans (sg_congr fun j _ => by rw [if_neg h, Int.mul_zero])
      rw [this, sg_comm]
      exact sg_congr fun j _ => sg_mul ..
    have f : sg 6 (fun i => if S i then owe d i * s i else 0) ≤ sg 6 fun j => s j * sg 6 (fun i => if S i then d j i else 0) := sg_le fun j hj => by
      have h0 := s0 j hj
      split
      · rename_i h
        rw [Int.mul_comm]
        exact Int.mul_le_mul_of_nonneg_left (cl j h) h0
      · exact Int.mul_nonneg h0 (sg_nonneg fun i _ => by
          have := hd.nn j i
          split <;> omega)
    omega
  · refine nc S (fun i hi => ?_) hne
    rcases List.mem_append.mp (hS i hi) with h | h
    · exact h
    · exact (hg ⟨i, h, hi⟩).elim
/-- the next wave -/
theorem iv_step {d : Nat → Nat → Int} (hd : Dd d) {p : Nat → Int} (hp : ∀ i, 0 ≤ p i) {F : List Nat} (h : Iv d p F) : Iv d p (F ++ frs d p F) ∧ ∀ i, i < 6 → shrF d p (F ++ frs d p F) i * sclF d p F ≤ shrF d p F i * sclF d p (F ++ frs d p F) := by
  have e := h.eqs hd
  have nd : (F ++ frs d p F).Nodup := List.nodup_append.mpr ⟨h.nd, List.nodup_range.filter _, fun a ha b hb z => (mem_frs.mp hb).2.1 (z ▸ ha)⟩
  have lt : ∀ i ∈ F ++ frs d p F, i < 6 := fun i hi => (List.mem_append.mp hi).elim (h.lt i) fun z => (mem_frs.mp z).1
  have nc : NC d (F ++ frs d p F) := nc_more hd hp h.nc (fun i hi => lt i (List.mem_append.mpr hi)) e (fun i _ => h.nn hd i) fun i hi => by
    rw [e.off i (mem_frs.mp hi).2.1]
    exact (mem_frs.mp hi).2.2
  have e' := eqs_of hd (p := p) nd lt nc
  have pos := e.pos
  have pos' := e'.pos
  -- not negative
  have n' : ∀ i, i < 6 → 0 ≤ shrF d p (F ++ frs d p F) i := cmp hd lt nc (fun i _ hi => by rw [e'.off i hi]; omega) fun i hi => by
    have := e'.eq i hi
    have := Int.mul_nonneg (hp i) (show 0 ≤ sclF d p (F ++ frs d p F) by omega)
    omega
  -- less than before
  have key : ∀ i ∈ F ++ frs d p F, rcv d (fun j => shrF d p F j * sclF d p (F ++ frs d p F) - shrF d p (F ++ frs d p F) j * sclF d p F) i ≤ owe d i * (shrF d p F i * sclF d p (F ++ frs d p F) - shrF d p (F ++ frs d p F) i * sclF d p F) ∧ (i ∉ F → rcv d (fun j => shrF d p F j * sclF d p (F ++ frs d p F) - shrF d p (F ++ frs d p F) j * sclF d p F) i < owe d i * (shrF d p F i * sclF d p (F ++ frs d p F) - shrF d p (F ++ frs d p F) i * sclF d p F)) := fun i hi => by
    rw [rcv_lin]
    have h2 := e'.eq i hi
    by_cases hF : i ∈ F
    · have h1 := e.eq i hF
      refine ⟨Int.le_of_eq ?_, fun z => (z hF).elim⟩
      generalize shrF d p F i = x at *
      generalize shrF d p (F ++ frs d p F) i = y at *
      generalize sclF d p F = D at *
      generalize sclF d p (F ++ frs d p F) = E at *
      generalize rcv d (shrF d p F) i = u at *
      generalize rcv d (shrF d p (F ++ frs d p F)) i = v at *
      have : owe d i * (x * E - y * D) = (owe d i * x) * E - (owe d i * y) * D := by grind
      rw [this, h1, h2]
      grind
    · have hi2 := (List.mem_append.mp hi).elim (fun z => (hF z).elim) (fun z => (mem_frs.mp z).2.2)
      rw [← e.off i hF] at hi2
      have o := e.off i hF
      generalize shrF d p F i = x at *
      generalize shrF d p (F ++ frs d p F) i = y at *
      generalize sclF d p F = D at *
      generalize sclF d p (F ++ frs d p F) = E at *
      generalize rcv d (shrF d p F) i = u at *
      generalize rcv d (shrF d p (F ++ frs d p F)) i = v at *
      have : owe d i * (x * E - y * D) = (owe d i * x) * E - (owe d i * y) * D := by grind
      have l : (p i * D + u) * E < (owe d i * x) * E := by
        rw [o] at hi2
        rw [o]
        exact Int.mul_lt_mul_of_pos_right hi2 pos'
      have : u * E - v * D < owe d i * (x * E - y * D) := by
        rw [this, h2]
        have : (p i * D + u) * E = p i * D * E + u * E := Int.add_mul ..
        have : (p i * E + v) * D = p i * D * E + v * D := by grind
        omega
      exact ⟨by omega, fun _ => this⟩
  have dl : ∀ i, i < 6 → 0 ≤ shrF d p F i * sclF d p (F ++ frs d p F) - shrF d p (F ++ frs d p F) i * sclF d p F := cmp hd lt nc (fun i _ hi => by
    rw [e'.off i hi, e.off i fun z => hi (List.mem_append.mpr (.inl z)), Int.mul_comm]
    omega) fun i hi => (key i hi).1
  refine ⟨⟨nd, lt, nc, fun i hi => ⟨n' i (lt i hi), ?_⟩⟩, fun i hi => by have := dl i hi; omega⟩
  have l0 := dl i (lt i hi)
  by_cases hF : i ∈ F
  · have l1 := (h.sh i hF).2
    have l2 : shrF d p F i * sclF d p (F ++ frs d p F) < sclF d p F * sclF d p (F ++ frs d p F) := Int.mul_lt_mul_of_pos_right l1 pos'
    have l3 : shrF d p (F ++ frs d p F) i * sclF d p F < sclF d p (F ++ frs d p F) * sclF d p F := by rw [Int.mul_comm (sclF d p (F ++ frs d p F))]; omega
    exact Int.lt_of_mul_lt_mul_right l3 (by omega)
  · have l1 := (key i hi).2 hF
    have l2 := rcv_nn hd dl i
    have l3 : 0 < shrF d p F i * sclF d p (F ++ frs d p F) - shrF d p (F ++ frs d p F) i * sclF d p F := by
      apply Classical.byContradiction
      intro z
      have : shrF d p F i * sclF d p (F ++ frs d p F) - shrF d p (F ++ frs d p F) i * sclF d p F = 0 := by omega
      rw [this] at l1
      omega
    rw [e.off i hF] at l3
    have l4 : shrF d p (F ++ frs d p F) i * sclF d p F < sclF d p (F ++ frs d p F) * sclF d p F := by rw [Int.mul_comm (sclF d p (F ++ frs d p F))]; omega
    exact Int.lt_of_mul_lt_mul_right l4 (by omega)
/-- payments that all can make -/
structure Fea (d : Nat → Nat → Int) (p : Nat → Int) (t : Nat → Int) (T : Int) : Prop where
  pos : 0 < T
  le : ∀ i, i < 6 → t i ≤ T
  pay : ∀ i, i < 6 → owe d i * t i ≤ p i * T + rcv d t i
theorem Iv.great {d : Nat → Nat → Int} (hd : Dd d) {p : Nat → Int} {F : List Nat} (h : Iv d p F) {t : Nat → Int} {T : Int} (f : Fea d p t T) : ∀ i, i < 6 → t i * sclF d p F ≤ shrF d p F i * T := fun i hi => by
  have e := h.eqs hd
  have := cmp hd h.lt h.nc (y := fun j => shrF d p F j * T - t j * sclF d p F) (fun i hi hn => by
    rw [e.off i hn]
    have := Int.mul_le_mul_of_nonneg_left (f.le i hi) (show 0 ≤ sclF d p F by have := e.pos; omega)
    rw [Int.mul_comm (sclF d p F) (t i)] at this
    omega) (fun i hi => by
    rw [rcv_lin]
    have h1 := e.eq i hi
    have h2 := f.pay i (h.lt i hi)
    generalize shrF d p F i = x at *
    generalize hD : sclF d p F = D at *
    generalize rcv d (shrF d p F) i = u at *
    generalize rcv d t i = v at *
    have pos : 0 ≤ D := by have := e.pos; omega
    have : owe d i * (x * T - t i * D) = (owe d i * x) * T - (owe d i * t i) * D := by grind
    rw [this, h1]
    have h3 := Int.mul_le_mul_of_nonneg_right h2 pos
    have : (p i * D + u) * T = p i * D * T + u * T := Int.add_mul ..
    have : (p i * T + v) * D = p i * D * T + v * D := by grind
    omega) i hi
  omega
/-- the waves from F on -/
def wav (d : Nat → Nat → Int) (p : Nat → Int) : Nat → List Nat → List (List Nat)
  | 0, _ => []
  | n + 1, F => if frs d p F = [] then [] else frs d p F :: wav d p n (F ++ frs d p F)
theorem iv_wav {d : Nat → Nat → Int} (hd : Dd d) {p : Nat → Int} (hp : ∀ i, 0 ≤ p i) : ∀ (n : Nat) (F : List Nat), Iv d p F → Iv d p (F ++ (wav d p n F).flatten)
  | 0, F, h => by simpa [wav] using h
  | n + 1, F, h => by
    unfold wav
    split
    · simpa using h
    · have := iv_wav hd hp n _ (iv_step hd hp h).1
      simpa using this
theorem nd_len6 {F : List Nat} (nd : F.Nodup) (lt : ∀ i ∈ F, i < 6) : F.length ≤ 6 := by
  have e := sg_list nd lt fun _ => 1
  have o : ∀ n : Nat, sg n (fun _ => (1 : Int)) = n := fun n => by
    induction n with
    | zero => rfl
    | succ n ih => rw [sg, ih]; omega
  rw [o] at e
  have : sg 6 (fun i => if i ∈ F then (1 : Int) else 0) ≤ sg 6 fun _ => 1 := sg_le fun i _ => by split <;> decide
  rw [o] at this
  omega
/-- the failing ones in the end -/
def fin (d : Nat → Nat → Int) (p : Nat → Int) : List Nat := (wav d p 7 []).flatten
theorem wav_end {d : Nat → Nat → Int} (hd : Dd d) {p : Nat → Int} (hp : ∀ i, 0 ≤ p i) : ∀ (n : Nat) (F : List Nat), Iv d p F → 6 < F.length + n → frs d p (F ++ (wav d p n F).flatten) = []
  | 0, F, h, l => by
    have := nd_len6 h.nd h.lt
    omega
  | n + 1, F, h, l => by
    unfold wav
    split
    · rename_i z
      simpa using z
    · rename_i z
      have := wav_end hd hp n _ (iv_step hd hp h).1 (by
        rw [List.length_append]
        have := List.length_pos_iff.mpr z
        omega)
      simpa using this
theorem fin_iv {d : Nat → Nat → Int} (hd : Dd d) {p : Nat → Int} (hp : ∀ i, 0 ≤ p i) : Iv d p (fin d p) := by
  have := iv_wav hd hp 7 [] (iv_nil d p)
  simpa [fin] using this
theorem fin_end {d : Nat → Nat → Int} (hd : Dd d) {p : Nat → Int} (hp : ∀ i, 0 ≤ p i) : frs d p (fin d p) = [] := by
  have := wav_end hd hp 7 [] (iv_nil d p) (by simp)
  simpa [fin] using this
theorem fin_pays {d : Nat → Nat → Int} (hd : Dd d) {p : Nat → Int} (hp : ∀ i, 0 ≤ p i) {i : Nat} (hi : i < 6) (h : i ∉ fin d p) : owe d i * sclF d p (fin d p) ≤ p i * sclF d p (fin d p) + rcv d (shrF d p (fin d p)) i := by
  apply Classical.byContradiction
  intro z
  have : i ∈ frs d p (fin d p) := mem_frs.mpr ⟨hi, h, by omega⟩
  rw [fin_end hd hp] at this
  cases this
end Cl
set_option Elab.async false
set_option linter.all false
set_option exponentiation.threshold 5000
namespace Cl
/-! ### what is paid in the end -/
def pyN (d : Nat → Nat → Int) (p : Nat → Int) (i : Nat) : Nat := (owe d i * shrF d p (fin d p) i).toNat
def pyS (d : Nat → Nat → Int) (p : Nat → Int) : Nat := (sclF d p (fin d p)).toNat
def pyX (d : Nat → Nat → Int) (p : Nat → Int) (i : Nat) : Nat := pyN d p i / Nat.gcd (pyN d p i) (pyS d p)
def pyY (d : Nat → Nat → Int) (p : Nat → Int) (i : Nat) : Nat := pyS d p / Nat.gcd (pyN d p i) (pyS d p)
section
variable {d : Nat → Nat → Int} {p : Nat → Int}
theorem py_scl (hd : Dd d) (hp : ∀ i, 0 ≤ p i) : sclF d p (fin d p) = (pyS d p : Int) ∧ 0 < pyS d p := by
  have := ((fin_iv hd hp).eqs hd).pos
  unfold pyS
  omega
theorem py_n (hd : Dd d) (hp : ∀ i, 0 ≤ p i) (i : Nat) : owe d i * shrF d p (fin d p) i = (pyN d p i : Int) := by
  have := Int.mul_nonneg (owe_nn hd i) ((fin_iv hd hp).nn hd i)
  unfold pyN
  omega
theorem py_gpos (hd : Dd d) (hp : ∀ i, 0 ≤ p i) (i : Nat) : 0 < Nat.gcd (pyN d p i) (pyS d p) := Nat.gcd_pos_of_pos_right _ (py_scl hd hp).2
theorem py_cop (hd : Dd d) (hp : ∀ i, 0 ≤ p i) (i : Nat) : Nat.gcd (pyX d p i) (pyY d p i) = 1 := by
  have g := py_gpos hd hp i
  unfold pyX pyY
  rw [Nat.gcd_div (Nat.gcd_dvd_left ..) (Nat.gcd_dvd_right ..), Nat.div_self g]
theorem py_pos (hd : Dd d) (hp : ∀ i, 0 ≤ p i) (i : Nat) : 0 < pyY d p i := Nat.div_pos (Nat.le_of_dvd (py_scl hd hp).2 (Nat.gcd_dvd_right ..)) (py_gpos hd hp i)
theorem py_eqN (hd : Dd d) (hp : ∀ i, 0 ≤ p i) (i : Nat) : pyX d p i * pyS d p = pyN d p i * pyY d p i := by
  obtain ⟨a, ha⟩ := Nat.gcd_dvd_left (pyN d p i) (pyS d p)
  obtain ⟨b, hb⟩ := Nat.gcd_dvd_right (pyN d p i) (pyS d p)
  have g := py_gpos hd hp i
  unfold pyX pyY
  generalize Nat.gcd (pyN d p i) (pyS d p) = G at *
  rw [ha, hb, Nat.mul_div_cancel_left _ g, Nat.mul_div_cancel_left _ g]
  simp only [Nat.mul_assoc, Nat.mul_comm, Nat.mul_left_comm]
theorem py_eq (hd : Dd d) (hp : ∀ i, 0 ≤ p i) (i : Nat) : (pyX d p i : Int) * sclF d p (fin d p) = owe d i * shrF d p (fin d p) i * (pyY d p i : Int) := by
  rw [(py_scl hd hp).1, py_n hd hp i, ← Int.natCast_mul, py_eqN hd hp i, Int.natCast_mul]
theorem fin_owe (hd : Dd d) (hp : ∀ i, 0 ≤ p i) {i : Nat} (h : i ∈ fin d p) : 0 < owe d i := by
  obtain ⟨k, hk, l⟩ := (fin_iv hd hp).nc (fun j => decide (j = i)) (fun j e => by rw [of_decide_eq_true e]; exact h) ⟨i, decide_eq_true rfl⟩
  have hk := of_decide_eq_true hk
  subst hk
  rw [sg_congr (h := fun _ => 0) fun j hj => by
    split
    · rename_i e
      rw [of_decide_eq_true e, hd.z]
    · rfl, sg_zero] at l
  exact l
theorem pays_iff (hd : Dd d) (hp : ∀ i, 0 ≤ p i) (i : Nat) : (pyX d p i : Int) = owe d i * (pyY d p i : Int) ↔ i ∉ fin d p := by
  have e := py_eq hd hp i
  have y0 : (0 : Int) < (pyY d p i : Int) := by have := py_pos hd hp i; omega
  have s0 := ((fin_iv hd hp).eqs hd).pos
  constructor
  · intro h m
    have o0 := fin_owe hd hp m
    have l := ((fin_iv hd hp).sh i m).2
    rw [h] at e
    have e1 : owe d i * (pyY d p i : Int) * sclF d p (fin d p) = owe d i * (pyY d p i : Int) * shrF d p (fin d p) i := by rw [e]; grind
    have := Int.eq_of_mul_eq_mul_left (by have := Int.mul_pos o0 y0; omega) e1
    omega
  · intro h
    rw [((fin_iv hd hp).eqs hd).off i h] at e
    have e1 : sclF d p (fin d p) * (pyX d p i : Int) = sclF d p (fin d p) * (owe d i * (pyY d p i : Int)) := by grind
    exact Int.eq_of_mul_eq_mul_left (by omega) e1
theorem py_le (hd : Dd d) (hp : ∀ i, 0 ≤ p i) (i : Nat) : (pyX d p i : Int) ≤ owe d i * (pyY d p i : Int) := by
  have e := py_eq hd hp i
  have s0 := ((fin_iv hd hp).eqs hd).pos
  have l := (fin_iv hd hp).le hd i
  have h1 : owe d i * shrF d p (fin d p) i ≤ owe d i * sclF d p (fin d p) := Int.mul_le_mul_of_nonneg_left l (owe_nn hd i)
  have h2 : owe d i * shrF d p (fin d p) i * (pyY d p i : Int) ≤ owe d i * sclF d p (fin d p) * (pyY d p i : Int) := Int.mul_le_mul_of_nonneg_right h1 (by omega)
  have h3 : (pyX d p i : Int) * sclF d p (fin d p) ≤ owe d i * (pyY d p i : Int) * sclF d p (fin d p) := by
    rw [e]
    have : owe d i * (pyY d p i : Int) * sclF d p (fin d p) = owe d i * sclF d p (fin d p) * (pyY d p i : Int) := by grind
    omega
  exact Int.le_of_mul_le_mul_right h3 s0
/-- what a party has, over low: exactly its purse and what it is paid -/
theorem has_fin (hd : Dd d) (hp : ∀ i, 0 ≤ p i) {i : Nat} {top low : Int} (l0 : 0 < low) (e : top * sclF d p (fin d p) = low * (p i * sclF d p (fin d p) + rcv d (shrF d p (fin d p)) i)) (h : i ∈ fin d p) : (pyX d p i : Int) * low = top * (pyY d p i : Int) := by
  have q := ((fin_iv hd hp).eqs hd).eq i h
  have s0 := ((fin_iv hd hp).eqs hd).pos
  have e2 := py_eq hd hp i
  refine Int.eq_of_mul_eq_mul_left (a := sclF d p (fin d p)) (by omega) ?_
  rw [← q] at e
  grind
theorem has_all (hd : Dd d) (hp : ∀ i, 0 ≤ p i) {i : Nat} (hi : i < 6) {top low : Int} (l0 : 0 < low) (e : top * sclF d p (fin d p) = low * (p i * sclF d p (fin d p) + rcv d (shrF d p (fin d p)) i)) (h : i ∉ fin d p) : owe d i * low ≤ top := by
  have q := fin_pays hd hp hi h
  have s0 := ((fin_iv hd hp).eqs hd).pos
  have h1 := Int.mul_le_mul_of_nonneg_left q (show 0 ≤ low by omega)
  have h2 : owe d i * low * sclF d p (fin d p) ≤ top * sclF d p (fin d p) := by
    rw [e]
    have : owe d i * low * sclF d p (fin d p) = low * (owe d i * sclF d p (fin d p)) := by grind
    omega
  exact Int.le_of_mul_le_mul_right h2 s0
/-- one more debtor -/
theorem has_step (hd : Dd d) (hp : ∀ i, 0 ≤ p i) {j : Nat} {top low P c : Int} (o : 0 < owe d j) (l0 : 0 < low) (e : top * sclF d p (fin d p) = low * P) :
    0 < low * ((pyY d p j : Int) * owe d j) ∧ (top * ((pyY d p j : Int) * owe d j) + c * (pyX d p j : Int) * low) * sclF d p (fin d p) = low * ((pyY d p j : Int) * owe d j) * (P + c * shrF d p (fin d p) j) := by
  have y0 : (0 : Int) < (pyY d p j : Int) := by have := py_pos hd hp j; omega
  refine ⟨Int.mul_pos l0 (Int.mul_pos y0 o), ?_⟩
  have e2 := py_eq hd hp j
  have : (top * ((pyY d p j : Int) * owe d j) + c * (pyX d p j : Int) * low) * sclF d p (fin d p) = (top * sclF d p (fin d p)) * ((pyY d p j : Int) * owe d j) + c * ((pyX d p j : Int) * sclF d p (fin d p)) * low := by grind
  rw [this, e, e2]
  grind
end
/-! ### sizes -/
theorem scl_le {d : Nat → Nat → Int} (hd : Dd d) {p : Nat → Int} (hp : ∀ i, 0 ≤ p i) {W : Int} (w1 : 1 ≤ W) (hW : ∀ i, owe d i ≤ W) {F : List Nat} (iv : Iv d p F) : sclF d p F ≤ W ^ 6 := by
  have mm := mm_mat hd (p := p) iv.nd iv.lt iv.nc
  have h1 := bt_le mm w1 (fun r hr => by
    unfold mat
    rw [if_pos hr, if_pos rfl]
    exact hW _) F.length (Nat.le_refl _)
  have l6 := nd_len6 iv.nd iv.lt
  have : W ^ F.length ≤ W ^ 6 := by
    obtain ⟨k, hk⟩ : ∃ k, F.length + k = 6 := ⟨6 - F.length, by omega⟩
    rw [← hk, Int.pow_add]
    have p1 : 1 ≤ W ^ k := by
      clear h1 hk
      induction k with
      | zero => rw [Int.pow_zero]; exact Int.le_refl _
      | succ k ih =>
        rw [Int.pow_succ]
        have := Int.mul_le_mul ih w1 (by decide) (by omega)
        omega
    have p2 : 0 ≤ W ^ F.length := Int.pow_nonneg (by omega)
    have := Int.mul_le_mul_of_nonneg_left p1 p2
    omega
  exact Int.le_trans h1 this
/-! ### Euclid's steps -/
def euc : Nat → Nat × Nat → Nat × Nat
  | 0, x => x
  | n + 1, x => if x.2 = 0 then x else euc n (x.2, x.1 % x.2)
theorem euc_gcd : ∀ (n : Nat) (x : Nat × Nat), Nat.gcd (euc n x).1 (euc n x).2 = Nat.gcd x.1 x.2
  | 0, _ => rfl
  | n + 1, x => by
    unfold euc
    split
    · rfl
    · rw [euc_gcd n]
      show Nat.gcd x.2 (x.1 % x.2) = _
      rw [Nat.gcd_comm x.2, ← Nat.gcd_rec, Nat.gcd_comm]
theorem euc_stop (n : Nat) {x : Nat × Nat} (h : x.2 = 0) : euc n x = x := by
  cases n with
  | zero => rfl
  | succ n =>
    unfold euc
    rw [if_pos h]
theorem euc_end : ∀ (m : Nat) (x : Nat × Nat) (n : Nat), x.2 < 2 ^ m → 2 * m + 1 ≤ n → (euc n x).2 = 0
  | 0, x, n, h, _ => by
    have h0 : x.2 = 0 := by
      rw [Nat.pow_zero] at h
      omega
    rw [euc_stop n h0]
    exact h0
  | m + 1, x, n, h, hn => by
    obtain ⟨k, rfl⟩ : ∃ k, n = k + 2 := ⟨n - 2, by omega⟩
    unfold euc
    split
    · assumption
    · rename_i h0
      unfold euc
      split
      · assumption
      · rename_i h1
        refine euc_end m _ k ?_ (by omega)
        have h1 : ¬ x.1 % x.2 = 0 := h1
        show x.2 % (x.1 % x.2) < 2 ^ m
        have a := Nat.mod_lt x.1 (show 0 < x.2 by omega)
        rw [Nat.pow_succ] at h
        by_cases c : 2 * (x.1 % x.2) ≤ x.2
        · have := Nat.mod_lt x.2 (show 0 < x.1 % x.2 by omega)
          omega
        · have e : x.2 % (x.1 % x.2) = x.2 - x.1 % x.2 := by
            rw [Nat.mod_eq_sub_mod (by omega), Nat.mod_eq_of_lt (by omega)]
          omega
end Cl
set_option Elab.async false
set_option linter.all false
namespace Cl
/-! ### purses raised -/
theorem bt_congr {M N : Nat → Nat → Int} {n : Nat} (h : ∀ r, r < n → ∀ k, M r k = N r k) : ∀ t, t ≤ n → (∀ r, r < n → ∀ k, (bt M t).1 r k = (bt N t).1 r k) ∧ (bt M t).2 = (bt N t).2
  | 0, _ => ⟨h, rfl⟩
  | t + 1, l => by
    obtain ⟨a, b⟩ := bt_congr h t (by omega)
    have at_ := a t (by omega)
    refine ⟨fun r hr k => ?_, at_ t⟩
    show bs (bt M t).1 t (bt M t).2 r k = bs (bt N t).1 t (bt N t).2 r k
    unfold bs
    rw [at_ k, at_ t, a r hr k, a r hr t, b]
variable {d : Nat → Nat → Int} {p q : Nat → Int}
theorem mat_congr {F : List Nat} (h : ∀ i ∈ F, p i = q i) : ∀ r, r < F.length → ∀ k, mat d p F r k = mat d q F r k := fun r hr k => by
  unfold mat
  rw [h _ (getD_mem hr)]
theorem scl_congr {F : List Nat} (h : ∀ i ∈ F, p i = q i) : sclF d p F = sclF d q F := (bt_congr (mat_congr h) F.length (Nat.le_refl _)).2
theorem shr_congr {F : List Nat} (h : ∀ i ∈ F, p i = q i) : shrF d p F = shrF d q F := funext fun i => by
  unfold shrF
  rw [scl_congr h]
  split
  · rename_i m
    exact (bt_congr (mat_congr h) F.length (Nat.le_refl _)).1 _ (ixF_lt m) _
  · rfl
/-- purses raised to what is owed, for those within B or for those that are not -/
def rz (d : Nat → Nat → Int) (p : Nat → Int) (B : List Nat) (b : Bool) (i : Nat) : Int := if decide (i ∈ B) = b then max (p i) (owe d i) else p i
theorem rz_in {B : List Nat} {i : Nat} (h : i ∈ B) : rz d p B false i = p i := if_neg (by rw [decide_eq_true h]; decide)
theorem rz_out {B : List Nat} {i : Nat} (h : i ∉ B) : rz d p B false i = max (p i) (owe d i) := if_pos (decide_eq_false h)
theorem rz_nn (hp : ∀ i, 0 ≤ p i) (B : List Nat) (b : Bool) (i : Nat) : 0 ≤ rz d p B b i := by
  have := hp i
  unfold rz
  split <;> omega
theorem not_short {x o D r : Int} (h : o ≤ x) (D0 : 0 < D) (r0 : 0 ≤ r) : ¬ x * D + r < o * D := fun z => by
  have := Int.mul_le_mul_of_nonneg_right h (show 0 ≤ D by omega)
  omega
theorem frs_rz_nil (hd : Dd d) {F B : List Nat} (iv : Iv d p F) (e : B = F) : frs d (rz d p B false) F = [] := by
  subst e
  refine List.eq_nil_iff_forall_not_mem.mpr fun i m => ?_
  obtain ⟨hi, hn, l⟩ := mem_frs.mp m
  have c : ∀ i ∈ B, rz d p B false i = p i := fun i m => rz_in m
  rw [scl_congr c, shr_congr c, rz_out hn] at l
  exact not_short (by omega) (iv.eqs hd).pos (rcv_nn hd (fun j _ => iv.nn hd j) i) l
theorem frs_rz (hd : Dd d) {F B : List Nat} (iv : Iv d p F) (s1 : ∀ i ∈ F, i ∈ B) (s2 : ∀ i ∈ frs d p F, i ∈ B) : frs d (rz d p B false) F = frs d p F := by
  have c : ∀ i ∈ F, rz d p B false i = p i := fun i m => rz_in (s1 i m)
  unfold frs
  refine List.filter_congr fun i hi => decide_eq_decide.mpr ?_
  rw [scl_congr c, shr_congr c]
  by_cases m : i ∈ B
  · rw [rz_in m]
  · rw [rz_out m]
    refine ⟨fun z => absurd z.2 (not_short (by omega) (iv.eqs hd).pos (rcv_nn hd (fun j _ => iv.nn hd j) i)), fun z => absurd (s2 i (mem_frs.mpr ⟨List.mem_range.mp hi, z⟩)) m⟩
theorem wav_rz (hd : Dd d) (hp : ∀ i, 0 ≤ p i) : ∀ (n : Nat) (F : List Nat) (k : Nat), Iv d p F → wav d (rz d p (F ++ ((wav d p n F).take k).flatten) false) n F = (wav d p n F).take k
  | 0, F, k, _ => by
    show [] = List.take k []
    rw [List.take_nil]
  | n + 1, F, 0, iv => by
    rw [List.take_zero, List.flatten_nil, List.append_nil]
    unfold wav
    rw [if_pos (frs_rz_nil hd iv rfl)]
  | n + 1, F, k + 1, iv => by
    by_cases z : frs d p F = []
    · have e : wav d p (n + 1) F = [] := by unfold wav; rw [if_pos z]
      rw [e, List.take_nil, List.flatten_nil, List.append_nil]
      unfold wav
      rw [if_pos (frs_rz_nil hd iv rfl)]
    · have e : wav d p (n + 1) F = frs d p F :: wav d p n (F ++ frs d p F) := by
        conv => lhs; unfold wav
        rw [if_neg z]
      rw [e, List.take_succ_cons, List.flatten_cons, ← List.append_assoc]
      have ih := wav_rz hd hp n (F ++ frs d p F) k (iv_step hd hp iv).1
      have ef := frs_rz (B := F ++ frs d p F ++ ((wav d p n (F ++ frs d p F)).take k).flatten) hd iv (fun i m => List.mem_append.mpr (.inl (List.mem_append.mpr (.inl m)))) (fun i m => List.mem_append.mpr (.inl (List.mem_append.mpr (.inr m))))
      conv => lhs; unfold wav
      rw [ef, if_neg z, ih]
theorem wav_rz0 (hd : Dd d) (hp : ∀ i, 0 ≤ p i) (k : Nat) : wav d (rz d p ((wav d p 7 []).take k).flatten false) 7 [] = (wav d p 7 []).take k := by
  have := wav_rz hd hp 7 [] k (iv_nil d p)
  rwa [List.nil_append] at this
theorem frs_wav (hd : Dd d) (hp : ∀ i, 0 ≤ p i) : ∀ (n : Nat) (F : List Nat) (k : Nat) (h : k < (wav d p n F).length), frs d p (F ++ ((wav d p n F).take k).flatten) = (wav d p n F)[k]
  | 0, F, k, h => absurd h (Nat.not_lt_zero _)
  | n + 1, F, k, h => by
    by_cases z : frs d p F = []
    · have e : wav d p (n + 1) F = [] := by unfold wav; rw [if_pos z]
      rw [e] at h
      exact absurd h (Nat.not_lt_zero _)
    · have e : wav d p (n + 1) F = frs d p F :: wav d p n (F ++ frs d p F) := by
        conv => lhs; unfold wav
        rw [if_neg z]
      cases k with
      | zero =>
        simp only [e, List.take_zero, List.flatten_nil, List.append_nil, List.getElem_cons_zero]
      | succ k =>
        rw [e, List.length_cons] at h
        have ih := frs_wav hd hp n (F ++ frs d p F) k (by omega)
        simp only [e, List.take_succ_cons, List.flatten_cons, List.getElem_cons_succ]
        rw [← List.append_assoc]
        exact ih
theorem frs_wav0 (hd : Dd d) (hp : ∀ i, 0 ≤ p i) {k : Nat} (h : k < (wav d p 7 []).length) : frs d p ((wav d p 7 []).take k).flatten = (wav d p 7 [])[k] := by
  have := frs_wav hd hp 7 [] k h
  rwa [List.nil_append] at this
theorem wav_ne (d : Nat → Nat → Int) (p : Nat → Int) : ∀ (n : Nat) (F : List Nat), ∀ w ∈ wav d p n F, w ≠ []
  | 0, F, w, h => by cases h
  | n + 1, F, w, h => by
    unfold wav at h
    split at h
    · cases h
    · rename_i ne
      rcases List.mem_cons.mp h with rfl | h
      · exact ne
      · exact wav_ne d p n _ w h
theorem len_flat : ∀ {ws : List (List Nat)}, (∀ w ∈ ws, w ≠ []) → ws.length ≤ ws.flatten.length
  | [], _ => Nat.zero_le _
  | w :: ws, h => by
    have := len_flat (ws := ws) fun x m => h x (List.mem_cons_of_mem _ m)
    have := List.length_pos_iff.mpr (h w List.mem_cons_self)
    rw [List.length_cons, List.flatten_cons, List.length_append]
    omega
theorem wav_len (hd : Dd d) (hp : ∀ i, 0 ≤ p i) : (wav d p 7 []).length ≤ 6 := by
  have iv := fin_iv hd hp
  have := nd_len6 iv.nd iv.lt
  exact Nat.le_trans (len_flat (wav_ne d p 7 [])) this
/-- raised for all that fail: nobody fails -/
theorem wav_saved (hd : Dd d) (hp : ∀ i, 0 ≤ p i) : wav d (rz d p (fin d p) true) 7 [] = [] := by
  have e : frs d (rz d p (fin d p) true) [] = [] := List.eq_nil_iff_forall_not_mem.mpr fun i m => by
    obtain ⟨hi, hn, l⟩ := mem_frs.mp m
    have c : ∀ i ∈ ([] : List Nat), rz d p (fin d p) true i = p i := fun i m => (List.not_mem_nil m).elim
    rw [scl_congr c, shr_congr c] at l
    have iv := iv_nil d p
    by_cases f : i ∈ fin d p
    · rw [show rz d p (fin d p) true i = max (p i) (owe d i) from if_pos (decide_eq_true f)] at l
      exact not_short (by omega) (iv.eqs hd).pos (rcv_nn hd (fun j _ => iv.nn hd j) i) l
    · rw [show rz d p (fin d p) true i = p i from if_neg (by rw [decide_eq_false f]; decide)] at l
      have m1 : i ∈ frs d p [] := mem_frs.mpr ⟨hi, hn, l⟩
      refine f ?_
      unfold fin wav
      rw [if_neg (fun z => by rw [z] at m1; cases m1), List.flatten_cons]
      exact List.mem_append.mpr (.inl (by simpa using m1))
  unfold wav
  rw [if_pos e]
/-- payments depend on the failing ones' purses -/
theorem py_congr (f : fin d p = fin d q) (h : ∀ i ∈ fin d p, p i = q i) : pyX d p = pyX d q ∧ pyY d p = pyY d q := by
  have e1 := scl_congr (d := d) h
  have e2 := shr_congr (d := d) h
  have a : pyN d p = pyN d q := funext fun i => by unfold pyN; rw [e2, f]
  have b : pyS d p = pyS d q := by unfold pyS; rw [e1, f]
  exact ⟨funext fun i => by unfold pyX; rw [a, b], funext fun i => by unfold pyY; rw [a, b]⟩
/-- less than what is owed: it fails next -/
theorem has_frs (hd : Dd d) {F : List Nat} (iv : Iv d p F) {i : Nat} (hi : i < 6) (hn : i ∉ F) {x top low : Int} (l0 : 0 < low) (e : top * sclF d p F = low * (x * sclF d p F + rcv d (shrF d p F) i)) : top < owe d i * low ↔ x * sclF d p F + rcv d (shrF d p F) i < owe d i * sclF d p F := by
  have s0 := (iv.eqs hd).pos
  generalize sclF d p F = D at *
  generalize x * D + rcv d (shrF d p F) i = R at *
  have e3 : owe d i * low * D = low * (owe d i * D) := by grind
  constructor
  · intro h
    have h2 := Int.mul_lt_mul_of_pos_right h s0
    rw [e, e3] at h2
    exact Int.lt_of_mul_lt_mul_left h2 (by omega)
  · intro h
    have h2 := Int.mul_lt_mul_of_pos_left h l0
    rw [← e, ← e3] at h2
    exact Int.lt_of_mul_lt_mul_right h2 (by omega)
end Cl
set_option pp.maxSteps 700
set_option Elab.async false
set_option linter.all false
set_option maxRecDepth 100000
set_option maxHeartbeats 4000000
namespace Z
open Cl
open PySem PySem.Spec PyProof.Rows L2
open C8 (pss_cut tCut)
local macro_rules | `(tactic| walk_at "num") => `(tactic| first | rfl | omega | decide | exact Nat.le_of_lt (small1000 (by simp)) | exact ⟨by omega, by omega⟩ | exact ⟨by omega, by omega, by omega⟩ | exact ⟨by decide, by decide, by decide⟩ | exact Or.inl ⟨by omega, by omega⟩ | exact Or.inr ⟨by omega, by omega⟩)
local macro_rules | `(tactic| walk_at "go") => `(tactic| repeat (first | refine ⟨_, rfl, ?_⟩ | refine ⟨_, _, rfl, rfl, ?_⟩ | refine ⟨_, _, rfl, ?_⟩ | (refine ⟨_, _, rfl, rfl, ?_, ?_⟩; focus walk_at "num") | refine Or.inl ⟨_, rfl, ?_⟩ | refine ⟨_, _, _, _, rfl, rfl, (by assumption), (by rfl), ?_⟩ | refine ⟨_, _, _, _, _, rfl, (by assumption), (by assumption), (by assumption), (by rfl), ?_⟩ | refine ⟨rfl, ?_⟩ | (refine And.intro ?_ ?_; focus walk_at "num")))
theorem lc_zip {p q : Bool} {K : PySem.W.Frag} {a b D : Addr} {xs ys : List Int} {H0 : Hp} {i j : Nat} {te : TE} {vs : List Nat} {σ : L2.St} {Qd : Hp → Prop} (f : Int → Int → Int) (hl : xs.length = ys.length) (hb : xs.length ≤ 100000) (hA : SqK p K H0 a (xs.map V.int)) (hB : SqK q K H0 b (ys.map V.int)) (nD : H0 D = none)
    (hw : ∀ x y : V, wipe (((wipe σ vs).set i (some x)).set j (some y)) vs = wipe σ vs)
    (ht : ∀ x y H1 (Q : VK), x ∈ xs → y ∈ ys → Same H0 H1 → Q (.int (f x y)) H1 → te (((wipe σ vs).set i (some (.int x))).set j (some (.int y))) H1 Q)
    (hd : ∀ H1, Same H0 H1 → H1 D = some (.lst ((List.zipWith f xs ys).map V.int)) → Qd H1) : lcW (ItzM p q K a b) (gTup K 2 (gCons (gName i) (gCons (gName j) gNil))) tYes te vs σ D Qd H0 := by
  have hz : (List.zipWith f xs ys).length = xs.length := by rw [List.length_zipWith]; omega
  refine lc_gen (n := xs.length) (fun k H1 => Same H0 H1 ∧ H1 D = some (.lst (((List.zipWith f xs ys).take k).map V.int))) ⟨same_new nD, upd_same⟩ ?_ ?_ ?_ ?_
  · rintro k H1 hk ⟨s, e⟩
    exact ⟨_, _, .int xs[k], .int ys[k], Z.Same.sqK s hA, Z.Same.sqK s hB, by rw [List.getElem?_map, List.getElem?_eq_getElem hk]; rfl, by rw [List.getElem?_map, List.getElem?_eq_getElem (by omega)]; rfl⟩
  · rintro H1 ⟨s, e⟩
    exact ⟨_, _, Z.Same.sqK s hA, Z.Same.sqK s hB, .inl (by rw [List.length_map]; omega), by rw [List.length_map]; omega, by rw [List.length_map]; omega⟩
  · rintro k H1 v H' hk ⟨s, e⟩ ⟨T, x, y, rfl, hT, rfl, f1, f2⟩
    have ex := f1 _ (Z.Same.sqK s hA)
    have ey := f2 _ (Z.Same.sqK s hB)
    obtain ⟨x', e1, rfl⟩ := of_map ex
    obtain ⟨y', e2, rfl⟩ := of_map ey
    have sT : Same H1 (upd H1 T (.tup [.int x', .int y'])) := same_new hT
    refine ⟨T, _, rfl, .inl (.inl upd_same), rfl, _, _, rfl, _, _, rfl, rfl, hw _ _, ?_⟩
    refine ht x' y' _ _ (List.mem_of_getElem? e1) (List.mem_of_getElem? e2) (s.trans sT) ?_
    have eD := sT _ _ e
    refine ⟨_, eD, ?_, ?_, ?_⟩
    · rw [List.length_map, List.length_take]
      exact Nat.lt_of_le_of_lt (Nat.min_le_left _ _) (Nat.lt_of_lt_of_le hk (Nat.le_trans hb (by decide)))
    · exact Z.Same.mut (s.trans sT) nD
    · rw [upd_same, List.take_add_one, List.getElem?_zipWith, e1, e2, List.map_append]
      rfl
  · rintro H1 ⟨s, e⟩
    rw [List.take_of_length_le (by omega)] at e
    exact hd H1 s e
/-! ### rows of numbers -/
def rw_ (m : Nat) (f : Nat → Int) : List Int := (List.range m).map f
theorem rw_len (m : Nat) (f : Nat → Int) : (rw_ m f).length = m := by unfold rw_; rw [List.length_map, List.length_range]
theorem rw_at {m : Nat} {f : Nat → Int} {j : Nat} (h : j < m) : (rw_ m f)[j]? = some (f j) := by
  unfold rw_
  rw [List.getElem?_map, List.getElem?_range h]
  rfl
theorem rw_zip (m : Nat) (f g : Nat → Int) (z : Int → Int → Int) : List.zipWith z (rw_ m f) (rw_ m g) = rw_ m fun j => z (f j) (g j) := by
  apply List.ext_getElem?
  intro j
  rw [List.getElem?_zipWith]
  by_cases h : j < m
  · rw [rw_at h, rw_at h, rw_at h]
  · rw [List.getElem?_eq_none (by rw [rw_len]; omega), List.getElem?_eq_none (by rw [rw_len]; omega), List.getElem?_eq_none (by rw [rw_len]; omega)]
theorem rw_mem {m : Nat} {f : Nat → Int} {x : Int} (h : x ∈ rw_ m f) : ∃ j, j < m ∧ x = f j := by
  obtain ⟨j, hj, e⟩ := List.mem_map.mp h
  exact ⟨j, List.mem_range.mp hj, e.symm⟩
theorem rw_congr {m : Nat} {f g : Nat → Int} (h : ∀ j, j < m → f j = g j) : rw_ m f = rw_ m g := List.map_congr_left fun j hj => h j (List.mem_range.mp hj)
theorem rw_last {n : Nat} {f : Nat → Int} : atI ((rw_ (n + 1) f).map V.int) (-1) = some (.int (f n)) := by
  unfold rw_
  rw [List.range_succ, List.map_append, List.map_append]
  exact atI_last _ _
/-- a matrix: a list of lists -/
def MaF (H : Hp) (a : Addr) (n m : Nat) (M : Nat → Nat → Int) : Prop := ∃ ps : List Addr, H a = some (.lst (ps.map V.ref)) ∧ ps.length = n ∧ ∀ i p, ps[i]? = some p → H p = some (.lst ((rw_ m (M i)).map V.int))
theorem MaF.mono {H H' : Hp} {a : Addr} {n m : Nat} {M : Nat → Nat → Int} (s : Same H H') (h : MaF H a n m M) : MaF H' a n m M := by
  obtain ⟨ps, h1, h2, h3⟩ := h
  exact ⟨ps, s _ _ h1, h2, fun i p e => s _ _ (h3 i p e)⟩
theorem bt_size {n m : Nat} {M : Nat → Nat → Int} (mm : MM n M) (nm : n ≤ m) {X : Nat} (x1 : 1 ≤ X) (hM : ∀ r k, r < n → k < m → (M r k).natAbs ≤ X) {t : Nat} (ht : t ≤ n) {i j : Nat} (hi : i < n) (hj : j < m) : ((bt M t).1 i j).natAbs ≤ (n * X) ^ n := bi_size (bi_all mm nm t ht) x1 hM (by omega) hi hj
theorem bt_pos {n : Nat} {M : Nat → Nat → Int} (mm : MM n M) {t : Nat} (ht : t ≤ n) : 0 < (bt M t).2 := (bi_all (m := n) mm (Nat.le_refl _) t ht).pos
abbrev s_common_divisor : Stmt := topS 16
abbrev N_common_divisor : List Str := ["numbers", "found", "number"]
abbrev P_common_divisor : List Str := ["numbers"]
theorem sc_common_divisor : FnScope N_common_divisor P_common_divisor (defScope s_common_divisor) := ⟨rfl, rfl, rfl, by decide +kernel, rfl, by decide +kernel, by decide +kernel⟩
abbrev s_lowest_terms : Stmt := topS 18
abbrev N_lowest_terms : List Str := ["numerator", "denominator", "divisor"]
abbrev P_lowest_terms : List Str := ["numerator", "denominator"]
theorem sc_lowest_terms : FnScope N_lowest_terms P_lowest_terms (defScope s_lowest_terms) := ⟨rfl, rfl, rfl, by decide +kernel, rfl, by decide +kernel, by decide +kernel⟩
abbrev s_without_unknown : Stmt := topS 19
abbrev N_without_unknown : List Str := ["row", "head", "at", "last", "entry", "taken"]
abbrev P_without_unknown : List Str := ["row", "head", "at", "last"]
theorem sc_without_unknown : FnScope N_without_unknown P_without_unknown (defScope s_without_unknown) := ⟨rfl, rfl, rfl, by decide +kernel, rfl, by decide +kernel, by decide +kernel⟩
abbrev s_solve : Stmt := topS 20
abbrev N_solve : List Str := ["rows", "last", "at", "head", "k", "row"]
abbrev P_solve : List Str := ["rows"]
theorem sc_solve : FnScope N_solve P_solve (defScope s_solve) := ⟨rfl, rfl, rfl, by decide +kernel, rfl, by decide +kernel, by decide +kernel⟩
section
variable {P : Program} {w : World} {K : PySem.W.Frag} {mg : Str → Option Value} {base : Heap} {f : Addr} {fd : FuncData}
/-! ### the greatest common divisor -/
def spGcd (K : PySem.W.Frag) : Sp := fun vs H Q _ => ∃ (a : Addr) (x y : Nat), vs = [.ref a] ∧ SqL K H a [.int (x : Int), .int (y : Int)] ∧ Q (.int (Nat.gcd x y : Int)) H
theorem ok_common_divisor (F : FnP K "common_divisor" s_common_divisor f fd) (m_abs : mg "abs" = none) : FnOk P w K mg base CX0 1 f fd P_common_divisor (spGcd K) := by
  refine F.ok sc_common_divisor (fun vs H Q E h => ?_) (fun cdv A outer s H vs Q E hr h => ?_)
  · obtain ⟨a, x, y, rfl, _⟩ := h
    rfl
  · obtain ⟨a, x, y, rfl, hS, q⟩ := h
    refine ⟨_, PSs.nox (pss_cons (ps_set (i := 1) sc_common_divisor.nd rfl (by first | exact .inl rfl | exact .inr rfl) pe_int)
      (pss_cons (ps_for PassesOwn.never rfl (pi_list (pv 0)) (pg_name (i := 2) sc_common_divisor.nd rfl (by first | exact .inl rfl | exact .inr rfl))
        (pss_cons (ps_set (i := 2) sc_common_divisor.nd rfl (by first | exact .inl rfl | exact .inr rfl) (pe_callB call_abs (by rfl) m_abs (by decide +kernel) (pa_cons (pv 2) pa_nil)))
      (pss_one (ps_while PassesOwn.never (pt_cmpR op_ne (pv 2) pe_int (nomark _))
        (pss_one (ps_par (i := 1) (j := 2) (by rfl) sc_common_divisor.nd rfl rfl (by decide) rfl rfl (pa_cons (pv 2) (pa_cons (pe_op op_modN (pv 1) (pv 2)) pa_nil)) (by rfl)))))))
      (pss_one (ps_ret (pv 1))))), ?_⟩
    walk_at "go"
    refine ⟨⟨_, hS⟩, ?_⟩
    refine for_gen (n := 2) (fun i σ J => J = H ∧ ∃ v2, σ = [some (.ref a), some (.int ((if i = 0 then 0 else if i = 1 then x else Nat.gcd x y : Nat) : Int)), v2]) ⟨rfl, none, rfl⟩ ?_ ?_ ?_ ?_
    · rintro i σ J hi ⟨rfl, _⟩
      have : i = 0 ∨ i = 1 := by omega
      rcases this with rfl | rfl
      · exact ⟨_, .int (x : Int), hS, rfl⟩
      · exact ⟨_, .int (y : Int), hS, rfl⟩
    · rintro σ J ⟨rfl, _⟩
      exact ⟨_, hS, Nat.le_refl _⟩
    · rintro i σ J v J' hi ⟨rfl, v2, rfl⟩ ⟨rfl, hx⟩
      have hx := hx _ hS
      -- the new number, the one found so far
      obtain ⟨b, g0, eb, eg, er⟩ : ∃ b g0 : Nat, v = .int (b : Int) ∧ (if i = 0 then 0 else if i = 1 then x else Nat.gcd x y : Nat) = g0 ∧ (if i + 1 = 0 then 0 else if i + 1 = 1 then x else Nat.gcd x y : Nat) = Nat.gcd g0 b := by
        have : i = 0 ∨ i = 1 := by omega
        rcases this with rfl | rfl
        · cases hx
          exact ⟨x, 0, rfl, rfl, by rw [Nat.gcd_zero_left]; rfl⟩
        · cases hx
          exact ⟨y, x, rfl, rfl, rfl⟩
      subst eb
      rw [eg, er]
      walk_at "go"
      rw [show (if (b : Int) < 0 then -(b : Int) else (b : Int)) = (b : Int) by split <;> omega]
      show tWhile _ _ _ [some (V.ref a), some (V.int (g0 : Int)), some (V.int (b : Int))] J'
      refine while_by (fun σ J => J = J' ∧ ∃ u z : Nat, Nat.gcd u z = Nat.gcd g0 b ∧ σ = [some (.ref a), some (.int (u : Int)), some (.int (z : Int))]) (fun σ _ => match σ with | [_, _, some (.int z)] => z.natAbs | _ => 0) ⟨rfl, g0, b, rfl, rfl⟩ ?_ ?_
      · rintro σ J ⟨rfl, u, z, e, rfl⟩
        walk_at "go"
        refine ite2 (fun ne => ?_) (fun ne => ?_)
        · have z0 : z ≠ 0 := fun h => by
            subst h
            exact absurd ne (by decide)
          walk_at "go"
          have em : (u : Int).fmod (z : Int) = ((u % z : Nat) : Int) := by rw [Int.fmod_eq_emod_of_nonneg _ (by omega)]; rfl
          dsimp only [List.set]
          rw [em]
          refine ⟨⟨rfl, z, u % z, ?_, rfl⟩, ?_⟩
          · rw [← e, Nat.gcd_comm z, ← Nat.gcd_rec, Nat.gcd_comm]
          · show ((u % z : Nat) : Int).natAbs < (z : Int).natAbs
            have := Nat.mod_lt u (show 0 < z by omega)
            omega
        · have z0 : z = 0 := by
            apply Classical.byContradiction
            intro h
            refine ne ?_
            have : ¬ V.int (z : Int) = V.int 0 := by
              intro w
              injection w with w
              omega
            rw [decide_eq_false this]
            rfl
          subst z0
          rw [Nat.gcd_zero_right] at e
          subst e
          exact ⟨rfl, _, rfl⟩
      · rintro σ J Q1 Q2 h12 ⟨v, e, h1, k, e2, h2⟩
        exact ⟨v, e, h1, k, e2, h12 _ _ h2⟩
    · rintro σ J ⟨rfl, v2, rfl⟩
      walk_at "go"
      exact q
/-! ### lowest terms -/
/-- below 2 ^ 4300 -/
def Bg (x : Int) : Prop := x.natAbs < 2 ^ 4300
def spLow : Sp := fun vs H Q _ => ∃ x y : Nat, vs = [.int (x : Int), .int (y : Int)] ∧ 0 < y ∧ Bg y ∧ ∀ (p : Addr) H', Same H H' → H p = none → H' p = some (.tup [.int ((x / Nat.gcd x y : Nat) : Int), .int ((y / Nat.gcd x y : Nat) : Int)]) → Q (.ref p) H'
theorem ok_lowest_terms (F : FnP K "lowest_terms" s_lowest_terms f fd) (c_common_divisor : Cal P w K mg base 1 "common_divisor" (spGcd K)) : FnOk P w K mg base CX0 2 f fd P_lowest_terms spLow := by
  refine F.ok sc_lowest_terms (fun vs H Q E h => ?_) (fun cdv A outer s H vs Q E hr h => ?_)
  · obtain ⟨x, y, rfl, _⟩ := h
    rfl
  · obtain ⟨x, y, rfl, y0, by_, q⟩ := h
    refine ⟨_, PSs.nox (pss_cons (ps_set (i := 2) sc_lowest_terms.nd rfl (by first | exact .inl rfl | exact .inr rfl) (pe_cl c_common_divisor hr (by decide) (by rfl) (pa_cons (pe_lst (pa_cons (pv 0) (pa_cons (pv 1) pa_nil))) pa_nil)))
      (pss_one (ps_ret (pe_tup (pa_cons (pe_op op_fdivW (pv 0) (pv 2)) (pa_cons (pe_op op_fdivW (pv 1) (pv 2)) pa_nil)))))), ?_⟩
    have g0 : 0 < Nat.gcd x y := Nat.gcd_pos_of_pos_right _ y0
    have gb : (Nat.gcd x y : Int).natAbs < 2 ^ 4300 := by
      have := Nat.le_of_dvd y0 (Nat.gcd_dvd_right x y)
      have h : (y : Int).natAbs < 2 ^ 4300 := by_
      rw [Int.natAbs_natCast] at h ⊢
      exact Nat.lt_of_le_of_lt this h
    walk_at "go"
    intro l nl
    have s1 := same_new (o := .lst [.int (x : Int), .int (y : Int)]) nl
    have el : (upd H l (.lst [.int (x : Int), .int (y : Int)])) l = some (.lst [.int (x : Int), .int (y : Int)]) := upd_same
    generalize upd H l (.lst [.int (x : Int), .int (y : Int)]) = H1 at s1 el
    walk_at "go"
    refine ⟨l, x, y, rfl, SqL.of el, ?_⟩
    walk_at "go"

    refine ⟨wide_div (by omega) gb (by decide) (by decide), ?_⟩
    walk_at "go"
    refine ⟨wide_div (by omega) gb (by decide) (by decide), ?_⟩
    walk_at "go"
    intro p np
    exact q p _ (s1.trans (same_new np)) (none_of s1 np) upd_same
/-! ### one unknown less -/
def spWu : Sp := fun vs H Q _ => ∃ (r h : Addr) (m t : Nat) (f g : Nat → Int) (l : Int), vs = [.ref r, .ref h, .int (t : Int), .int l] ∧ H r = some (.lst ((rw_ m f).map V.int)) ∧ H h = some (.lst ((rw_ m g).map V.int)) ∧ t < m ∧ m ≤ 100 ∧ 0 < l ∧ Bg l ∧ (∀ j, j < m → Bg (f j) ∧ Bg (g j)) ∧
  ∀ (p : Addr) H', Same H H' → H p = none → H' p = some (.lst ((rw_ m fun j => (g t * f j - f t * g j) / l).map V.int)) → Q (.ref p) H'
theorem ok_without_unknown (F : FnP K "without_unknown" s_without_unknown f fd) (m_zip : mg "zip" = none) : FnOk P w K mg base CX0 1 f fd P_without_unknown spWu := by
  refine F.ok sc_without_unknown (fun vs H Q E h => ?_) (fun cdv A outer s H vs Q E hr h => ?_)
  · obtain ⟨r, h, m, t, f, g, l, rfl, _⟩ := h
    rfl
  · obtain ⟨r, h, m, t, f', g, l, rfl, er, eh, tm, m1, l0, bl, bfg, q⟩ := h
    refine ⟨_, PSs.nox (pss_one (ps_ret (pe_lc (own := [("entry", 4), ("taken", 5)]) (g := (gTup K 2 (gCons (gName 4) (gCons (gName 5) gNil)))) (tt := tYes) (by rfl) sc_without_unknown.nd (pi_zipM (by rfl) m_zip (pa_cons (pv 0) (pa_cons (pv 1) pa_nil))) (blkOk_by (own := [("entry", 4), ("taken", 5)]) (N := N_without_unknown) (sc := defScope s_without_unknown) (by decide +kernel)) (fun _ _ _ _ _ => (pg_tup rfl (pgs_cons (pg_name (i := 4) sc_without_unknown.nd rfl (by first | exact .inl rfl | exact .inr rfl)) (pgs_cons (pg_name (i := 5) sc_without_unknown.nd rfl (by first | exact .inl rfl | exact .inr rfl)) pgs_nil)))) (fun _ _ _ _ _ => pts_nil) (fun _ _ _ _ _ => (pe_op op_fdivW (pe_op op_sub (pe_op op_mulW (pe_ix (ix_list_K (K := K) rfl) (pv 1) (pv 2) (fun _ _ => rfl)) (pv 4)) (pe_op op_mulW (pe_ix (ix_list_K (K := K) rfl) (pv 0) (pv 2) (fun _ _ => rfl)) (pv 5))) (pv 3)))))), ?_⟩
    walk_at "go"
    refine ⟨true, true, r, h, _, _, rfl, SqL.of er, SqL.of eh, ?_⟩
    intro D nD
    refine lc_zip (p := true) (q := true) (K := K) (fun x y => (g t * x - f' t * y) / l) (by rw [rw_len, rw_len]) (by rw [rw_len]; omega) (SqL.of er) (SqL.of eh) nD (fun x y => rfl) (fun x y H1 Q1 hx hy s1 q1 => ?_) (fun H1 s1 e1 => ?_)
    · obtain ⟨jx, jm, rfl⟩ := rw_mem hx
      obtain ⟨jy, jn, rfl⟩ := rw_mem hy
      walk_at "go"
      refine ⟨h, _, _, _, rfl, rfl, SqL.of (s1 _ _ eh), at_map (rw_at tm), ?_⟩
      walk_at "go"
      refine ⟨wide_mul (bfg t tm).2 (bfg jx jm).1 (by decide) (by decide) (by decide), ?_⟩
      walk_at "go"
      refine ⟨r, _, _, _, rfl, rfl, SqL.of (s1 _ _ er), at_map (rw_at tm), ?_⟩
      walk_at "go"
      refine ⟨wide_mul (bfg t tm).1 (bfg jy jn).2 (by decide) (by decide) (by decide), ?_⟩
      walk_at "go"
      refine ⟨wide_div l0 bl (by decide) (by decide), ?_⟩
      exact q1
    · walk_at "go"
      rw [rw_zip] at e1
      exact q D H1 s1 nD e1
/-! ### the equations -/
def Bm (n : Nat) (X : Nat) : Prop := 1 ≤ X ∧ (n * X) ^ n < 2 ^ 4300
def spSol : Sp := fun vs H Q _ => ∃ (a : Addr) (n X : Nat) (M : Nat → Nat → Int), vs = [.ref a] ∧ MaF H a n (n + 1) M ∧ n ≤ 50 ∧ MM n M ∧ Bm n X ∧ (∀ r k, r < n → k < n + 1 → (M r k).natAbs ≤ X) ∧
  ∀ (t l : Addr) H', Same H H' → H' t = some (.tup [.ref l, .int (bt M n).2]) → H' l = some (.lst ((rw_ n fun k => (bt M n).1 k n).map V.int)) → Q (.ref t) H'
theorem ok_solve (F : FnP K "solve" s_solve f fd) (m_len : mg "len" = none) (m_range : mg "range" = none) (m_enumerate : mg "enumerate" = none) (c_without_unknown : Cal P w K mg base 1 "without_unknown" spWu) : FnOk P w K mg base CX0 2 f fd P_solve spSol := by
  refine F.ok sc_solve (fun vs H Q E h => ?_) (fun cdv A outer s H vs Q E hr h => ?_)
  · obtain ⟨a, n, X, M, rfl, _⟩ := h
    rfl
  · obtain ⟨a, n, X, M, rfl, hM, n50, mm, ⟨x1, xb⟩, hX, q⟩ := h
    refine ⟨_, PSs.nox (pss_cons (ps_set (i := 1) sc_solve.nd rfl (by first | exact .inl rfl | exact .inr rfl) pe_int)
      (pss_cons (ps_for PassesOwn.never rfl (pi_range1 (by rfl) m_range (pa_cons (pe_callB call_len_seq (by rfl) m_len PySem.boot_len (pa_cons (pv 0) pa_nil)) pa_nil)) (pg_name (i := 2) sc_solve.nd rfl (by first | exact .inl rfl | exact .inr rfl))
        (pss_cons (ps_set (i := 3) sc_solve.nd rfl (by first | exact .inl rfl | exact .inr rfl) (pe_ix ix_list (pv 0) (pv 2) (fun _ _ => rfl)))
      (pss_cons (ps_setLc (i := 0) (own := [("k", 4), ("row", 5)]) (g := (gTup K 2 (gCons (gName 4) (gCons (gName 5) gNil)))) (tt := tYes) (by rfl) sc_solve.nd rfl rfl (sw_true rfl rfl rfl (by decide +kernel)) (pi_enumM (by rfl) m_enumerate (pa_cons (pv 0) pa_nil)) (blkOk_by (own := [("k", 4), ("row", 5)]) (N := N_solve) (sc := defScope s_solve) (by decide +kernel)) (fun _ _ _ _ _ => (pg_tup rfl (pgs_cons (pg_name (i := 4) sc_solve.nd rfl (by first | exact .inl rfl | exact .inr rfl)) (pgs_cons (pg_name (i := 5) sc_solve.nd rfl (by first | exact .inl rfl | exact .inr rfl)) pgs_nil)))) (fun _ _ _ _ _ => pts_nil) (fun _ _ _ _ _ => (pe_ifExp (pt_cmpR op_eq (pv 4) (pv 2) (nomark _)) (pv 5) (pe_cl c_without_unknown hr (by decide) (by rfl) (pa_cons (pv 5) (pa_cons (pv 3) (pa_cons (pv 2) (pa_cons (pv 1) pa_nil))))))))
      (pss_one (ps_set (i := 1) sc_solve.nd rfl (by first | exact .inl rfl | exact .inr rfl) (pe_ix ix_list (pv 3) (pv 2) (fun _ _ => rfl)))))))
      (pss_one (ps_ret (pe_tup (pa_cons (pe_lc (own := [("row", 5)]) (g := (gName 5)) (tt := tYes) (by rfl) sc_solve.nd (pi_list (pv 0)) (blkOk_by (own := [("row", 5)]) (N := N_solve) (sc := defScope s_solve) (by decide +kernel)) (fun _ _ _ _ _ => (pg_name (i := 5) sc_solve.nd rfl (by first | exact .inl rfl | exact .inr rfl))) (fun _ _ _ _ _ => pts_nil) (fun _ _ _ _ _ => (pe_ix (ix_list_K (K := K) rfl) (pv 5) (pe_un un_neg pe_int) (fun _ _ => rfl)))) (pa_cons (pv 1) pa_nil))))))), ?_⟩
    have sz : ∀ t, t ≤ n → ∀ i j, i < n → j < n + 1 → Bg ((bt M t).1 i j) := fun t ht i j hi hj => Nat.lt_of_le_of_lt (bt_size mm (by omega) x1 hX ht hi hj) xb
    have sd : ∀ t, t ≤ n → Bg ((bt M t).2) := fun t ht => Nat.lt_of_le_of_lt (bt_d_size (m := n + 1) mm (by omega) x1 hX t ht) xb
    walk_at "go"
    obtain ⟨ps0, ea0, lp0, hp0⟩ := hM
    refine ⟨a, _, rfl, .inl (SqL.of ea0), ?_⟩
    rw [List.length_map, lp0]
    walk_at "go"
    refine for_gen (n := n) (fun t σ J => Same H J ∧ ∃ (b : Addr) (v2 v3 : Option V), MaF J b n (n + 1) (bt M t).1 ∧ σ = [some (.ref b), some (.int (bt M t).2), v2, v3, none, none]) ⟨Same.refl _, a, none, none, ⟨ps0, ea0, lp0, hp0⟩, rfl⟩ ?_ ?_ ?_ ?_
    · intro t σ J ht _
      show t < (n : Int).toNat
      omega
    · intro σ J _
      show (n : Int).toNat ≤ n
      omega
    · rintro t σ J x J' ht ⟨s1, b, v2, v3, ⟨ps, eb, lp, hp⟩, rfl⟩ ⟨rfl, rfl⟩
      rw [show (0 : Int) + (t : Int) = (t : Int) by omega]
      have htp : t < ps.length := by omega
      have eh := hp t ps[t] (List.getElem?_eq_getElem htp)
      walk_at "go"
      refine ⟨b, _, _, _, rfl, rfl, SqL.of eb, atI_nat (by rw [List.getElem?_map, List.getElem?_eq_getElem htp]; rfl), ?_⟩
      walk_at "go"
      dsimp only [List.set]
      refine ⟨true, b, _, rfl, SqL.of eb, ?_⟩
      intro D nD
      have bD : b ≠ D := ne_of_none eb nD
      refine lc_gen (n := n) (fun k H1 => Same J' H1 ∧ ∃ qs : List Addr, H1 D = some (.lst (qs.map V.ref)) ∧ qs.length = k ∧ ∀ i p, qs[i]? = some p → p ≠ D ∧ H1 p = some (.lst ((rw_ (n + 1) ((bt M (t + 1)).1 i)).map V.int))) ⟨same_new nD, [], upd_same, rfl, fun i p e => by cases e⟩ ?_ ?_ ?_ ?_
      · rintro k H1 hk ⟨s2, _⟩
        exact ⟨_, .ref (ps[k]'(by omega)), SqL.of (s2 _ _ eb), by rw [List.getElem?_map, List.getElem?_eq_getElem (by omega)]; rfl⟩
      · rintro H1 ⟨s2, _⟩
        exact ⟨_, SqL.of (s2 _ _ eb), by rw [List.length_map]; omega⟩
      · rintro k H1 v H2 hk ⟨s2, qs, eD, lq, hq⟩ ⟨T, y, rfl, hT, rfl, fy⟩
        have fy := fy _ (SqL.of (s2 _ _ eb))
        have hkp : k < ps.length := by omega
        rw [List.getElem?_map, List.getElem?_eq_getElem hkp] at fy
        cases fy
        have ek := hp k ps[k] (List.getElem?_eq_getElem hkp)
        have s3 := s2.trans (same_new (o := .tup [.int (k : Nat), .ref ps[k]]) hT)
        have sT := same_new (o := .tup [.int (k : Nat), .ref ps[k]]) hT
        have eT : (upd H1 T (.tup [.int (k : Nat), .ref ps[k]])) T = some (.tup [.int (k : Nat), .ref ps[k]]) := upd_same
        have eD3 := sT _ _ eD
        generalize upd H1 T (.tup [.int (k : Nat), .ref ps[k]]) = H3 at s3 sT eT eD3
        refine ⟨T, _, rfl, .inl (.inl eT), rfl, _, _, rfl, _, _, rfl, rfl, rfl, ?_⟩
        -- the next row
        have fin : ∀ (p : Addr) H4, Same H3 H4 → p ≠ D → H4 p = some (.lst ((rw_ (n + 1) ((bt M (t + 1)).1 k)).map V.int)) → ∃ acc, H4 D = some (.lst acc) ∧ acc.length < sizeLine ∧ (Same J' (upd H4 D (.lst (acc ++ [.ref p]))) ∧ ∃ qs : List Addr, (upd H4 D (.lst (acc ++ [.ref p]))) D = some (.lst (qs.map V.ref)) ∧ qs.length = k + 1 ∧ ∀ i p', qs[i]? = some p' → p' ≠ D ∧ (upd H4 D (.lst (acc ++ [.ref p]))) p' = some (.lst ((rw_ (n + 1) ((bt M (t + 1)).1 i)).map V.int))) := fun p H4 s4 pD ep => by
          refine ⟨_, s4 _ _ eD3, by rw [List.length_map, lq]; exact Nat.lt_of_lt_of_le (show k < 50 by omega) (by decide), Z.Same.mut (s3.trans s4) nD, qs ++ [p], by rw [upd_same, List.map_append]; rfl, by rw [List.length_append, lq]; rfl, fun i p' e => ?_⟩
          by_cases hi : i < qs.length
          · rw [List.getElem?_append_left hi] at e
            obtain ⟨n1, e1⟩ := hq i p' e
            exact ⟨n1, by rw [upd_ne n1]; exact s4 _ _ (sT _ _ e1)⟩
          · rw [List.getElem?_append_right (by omega)] at e
            have : i - qs.length = 0 := by
              cases h : i - qs.length with
              | zero => rfl
              | succ z =>
                rw [h] at e
                cases e
            rw [this] at e
            cases e
            have : i = k := by omega
            subst this
            exact ⟨pD, by rw [upd_ne pD]; exact ep⟩
        walk_at "go"
        refine ite2 (fun e => ?_) (fun e => ?_)
        · have e : k = t := by
            have e := of_decide_eq_true e
            injection e with e
            omega
          subst e
          walk_at "go"
          refine fin _ _ (Same.refl _) (ne_of_none ek nD) ?_
          rw [s3 _ _ ek]
          have : (bt M (k + 1)).1 k = (bt M k).1 k := by
            funext j
            show bs (bt M k).1 k (bt M k).2 k j = _
            exact if_pos rfl
          rw [this]
        · have e : k ≠ t := fun w => e (by rw [w]; exact decide_eq_true rfl)
          walk_at "go"
          refine ⟨ps[k], ps[t], n + 1, t, (bt M t).1 k, (bt M t).1 t, (bt M t).2, rfl, s3 _ _ ek, s3 _ _ eh, by omega, by omega, bt_pos mm (by omega), sd t (by omega), fun j hj => ⟨sz t (by omega) k j hk hj, sz t (by omega) t j ht hj⟩, fun p H4 s4 np ep => ?_⟩
          refine fin p H4 s4 (ne_of_none eD3 np).symm ?_
          rw [ep]
          have : (bt M (t + 1)).1 k = fun j => ((bt M t).1 t t * (bt M t).1 k j - (bt M t).1 k t * (bt M t).1 t j) / (bt M t).2 := by
            funext j
            show bs (bt M t).1 t (bt M t).2 k j = _
            exact if_neg e
          rw [this]
      · rintro H1 ⟨s2, qs, eD, lq, hq⟩
        walk_at "go"
        refine ⟨ps[t], _, _, _, rfl, rfl, SqL.of (s2 _ _ eh), at_map (rw_at (by omega)), ?_⟩
        refine ⟨s1.trans s2, D, _, _, ⟨qs, eD, lq, fun i p e => (hq i p e).2⟩, rfl⟩
    · rintro σ J ⟨s1, b, v2, v3, ⟨ps, eb, lp, hp⟩, rfl⟩
      walk_at "go"
      refine ⟨⟨_, SqL.of eb⟩, ?_⟩
      intro D nD
      refine lc_gen (n := n) (fun k H1 => Same J H1 ∧ H1 D = some (.lst ((rw_ k fun i => (bt M n).1 i n).map V.int))) ⟨same_new nD, upd_same⟩ ?_ ?_ ?_ ?_
      · rintro k H1 hk ⟨s2, _⟩
        exact ⟨_, .ref (ps[k]'(by omega)), SqL.of (s2 _ _ eb), by rw [List.getElem?_map, List.getElem?_eq_getElem (by omega)]; rfl⟩
      · rintro H1 ⟨s2, _⟩
        exact ⟨_, SqL.of (s2 _ _ eb), by rw [List.length_map]; omega⟩
      · rintro k H1 v H2 hk ⟨s2, eD⟩ ⟨rfl, fy⟩
        have fy := fy _ (SqL.of (s2 _ _ eb))
        have hkp : k < ps.length := by omega
        rw [List.getElem?_map, List.getElem?_eq_getElem hkp] at fy
        cases fy
        have ek := s2 _ _ (hp k ps[k] (List.getElem?_eq_getElem hkp))
        refine ⟨rfl, ?_⟩
        walk_at "go"
        refine ⟨ps[k], _, _, _, rfl, rfl, SqL.of ek, rw_last, ?_⟩
        · refine ⟨_, eD, by rw [List.length_map, rw_len]; exact Nat.lt_of_lt_of_le (show k < 50 by omega) (by decide), Z.Same.mut s2 nD, ?_⟩
          rw [upd_same]
          unfold rw_
          rw [List.range_succ, List.map_append, List.map_append]
          rfl
      · rintro H1 ⟨s2, eD⟩
        walk_at "go"
        intro T nT
        have s3 := same_new (o := .tup [.ref D, .int (bt M n).2]) nT
        exact q T D _ (s1.trans (s2.trans s3)) upd_same (s3 _ _ eD)
end
end Z
set_option pp.maxSteps 700
set_option Elab.async false
set_option linter.all false
set_option maxRecDepth 100000
set_option maxHeartbeats 4000000
open SX (S S_inj S_len S_cat)
namespace Z
open Cl
open PySem PySem.Spec PyProof.Rows L2
open C8 (pss_cut tCut)
local macro_rules | `(tactic| walk_at "num") => `(tactic| first | rfl | omega | decide | exact Nat.le_of_lt (small1000 (by simp)) | exact ⟨by omega, by omega⟩ | exact ⟨by omega, by omega, by omega⟩ | exact ⟨by decide, by decide, by decide⟩ | exact Or.inl ⟨by omega, by omega⟩ | exact Or.inr ⟨by omega, by omega⟩)
local macro_rules | `(tactic| walk_at "go") => `(tactic| repeat (first | refine ⟨_, rfl, ?_⟩ | refine ⟨_, _, rfl, rfl, ?_⟩ | refine ⟨_, _, rfl, ?_⟩ | (refine ⟨_, _, rfl, rfl, ?_, ?_⟩; focus walk_at "num") | refine Or.inl ⟨_, rfl, ?_⟩ | refine ⟨_, _, _, _, rfl, rfl, (by assumption), (by rfl), ?_⟩ | refine ⟨_, _, _, _, _, rfl, (by assumption), (by assumption), (by assumption), (by rfl), ?_⟩ | refine ⟨rfl, ?_⟩ | (refine And.intro ?_ ?_; focus walk_at "num")))
/-! ### sums over the keys -/
theorem sgl {n : Nat} {f : Nat → Int} : ∀ {ks : List Nat}, ks.Nodup → (∀ k ∈ ks, k < n) → (ks.map f).sum = sg n (fun i => if i ∈ ks then f i else 0)
  | [], _, _ => by rw [sg_congr (h := fun _ => 0) fun i _ => if_neg (List.not_mem_nil), sg_zero]; rfl
  | k :: ks, nd, lt => by
    obtain ⟨h1, h2⟩ := List.nodup_cons.mp nd
    rw [List.map_cons, List.sum_cons, sgl (ks := ks) h2 fun j hj => lt j (List.mem_cons_of_mem _ hj), sg_out (f := fun i => if i ∈ k :: ks then f i else 0) (lt k (List.mem_cons_self ..)), if_pos (List.mem_cons_self ..)]
    congr 1
    exact sg_congr fun i _ => by
      by_cases e : i = k
      · rw [if_pos e, if_neg (fun z => h1 (by rw [← e]; exact z))]
      · rw [if_neg e]
        by_cases m : i ∈ ks
        · rw [if_pos m, if_pos (List.mem_cons_of_mem _ m)]
        · rw [if_neg m, if_neg fun z => (List.mem_cons.mp z).elim e m]
theorem sg_36 (f : Nat → Int) : sg 36 f = sg 6 fun i => sg 6 fun j => f (6 * i + j) := by
  simp [sg]
  omega
/-- a sum over some of the keys -/
theorem sum_fil {ks : List Nat} (nd : ks.Nodup) (lt : ∀ k ∈ ks, k < 36) (P : Nat → Bool) (f : Nat → Int) (z : ∀ k, k ∉ ks → f k = 0) : ((ks.filter P).map f).sum = sg 6 fun i => sg 6 fun j => if P (6 * i + j) then f (6 * i + j) else 0 := by
  rw [sgl (n := 36) (nd.filter _) fun k m => lt k (List.mem_filter.mp m).1, sg_36]
  exact sg_congr fun i _ => sg_congr fun j _ => by
    by_cases m : 6 * i + j ∈ ks
    · by_cases e : P (6 * i + j) = true
      · rw [if_pos (List.mem_filter.mpr ⟨m, e⟩), if_pos e]
      · rw [if_neg (fun w => e (List.mem_filter.mp w).2), if_neg e]
    · rw [if_neg (fun w => m (List.mem_filter.mp w).1), z _ m]
      split <;> rfl
/-! ### debts by two parties -/
def dg (g : Nat → Int) (i j : Nat) : Int := if i < 6 ∧ j < 6 then g (6 * i + j) else 0
theorem Db.dd {H : Hp} {D : Addr} {ks : List Nat} {g : Nat → Int} (h : Db H D ks g) : Dd (dg g) where
  nn := fun i j => by
    unfold dg
    split
    · exact h.nn _
    · exact Int.le_refl _
  z := fun i => by
    unfold dg
    split
    · refine h.z _ fun m => ?_
      have := (h.ok _ m).1.2
      omega
    · rfl
theorem Db.lt {H : Hp} {D : Addr} {ks : List Nat} {g : Nat → Int} (h : Db H D ks g) : ∀ k ∈ ks, k < 36 := fun k m => (h.ok k m).1.1
theorem dg_in {g : Nat → Int} {i j : Nat} (hi : i < 6) (hj : j < 6) : dg g i j = g (6 * i + j) := if_pos ⟨hi, hj⟩
theorem sum_owe {H : Hp} {D : Addr} {ks : List Nat} {g : Nat → Int} (h : Db H D ks g) {i : Nat} (hi : i < 6) : ((ks.filter fun k => decide (k / 6 = i)).map g).sum = owe (dg g) i := by
  rw [sum_fil h.nd h.lt _ g h.z, sg_one hi fun a ha ne => by
    rw [sg_congr (h := fun _ => 0) fun j hj => if_neg (by rw [decide_eq_true_eq]; omega), sg_zero]]
  exact sg_congr fun j hj => by
    rw [if_pos (by rw [decide_eq_true_eq]; omega), dg_in hi hj]
theorem sum_rcv {H : Hp} {D : Addr} {ks : List Nat} {g : Nat → Int} (h : Db H D ks g) (s : Nat → Int) {i : Nat} (hi : i < 6) : ((ks.filter fun k => decide (k % 6 = i)).map fun k => g k * s (k / 6)).sum = Cl.rcv (dg g) s i := by
  rw [sum_fil h.nd h.lt _ _ fun k m => by rw [h.z k m, Int.zero_mul]]
  exact sg_congr fun a ha => by
    rw [sg_one hi fun j hj ne => if_neg (by rw [decide_eq_true_eq]; omega), if_pos (by rw [decide_eq_true_eq]; omega), dg_in ha hi, show (6 * a + i) / 6 = a by omega]
theorem sum_full {H : Hp} {D : Addr} {ks : List Nat} {g : Nat → Int} (h : Db H D ks g) (F : List Nat) {i : Nat} (hi : i < 6) : ((ks.filter fun k => decide (k % 6 = i) && !decide (k / 6 ∈ F)).map g).sum = sg 6 fun j => if j ∈ F then 0 else dg g j i := by
  rw [sum_fil h.nd h.lt _ g h.z]
  exact sg_congr fun a ha => by
    have e : (6 * a + i) / 6 = a := by omega
    rw [sg_one hi fun j hj ne => if_neg (by rw [Bool.and_eq_true, decide_eq_true_eq]; omega)]
    by_cases m : a ∈ F
    · rw [if_pos m, if_neg]
      rw [e, decide_eq_true m]
      simp
    · rw [if_neg m, if_pos, dg_in ha hi]
      rw [e, decide_eq_false m, decide_eq_true (show (6 * a + i) % 6 = i by omega)]
      rfl
/-- a comprehension over the items of a locked dict -/
theorem lc_items {K : PySem.W.Frag} {key : Nat → Str} {d D : Addr} {od : Obj} {ks : List Nat} {g0 : Nat → Int} {H0 : Hp} {i j : Nat} {tt : TT} {te : TE} {vs : List Nat} {σ : L2.St} {Qd : Hp → Prop} (p : Nat → Bool) (g : Nat → V) (fz : H0 d = some (.frz od (.dK (tab key ks g0)))) (hn : ks.length ≤ 1000000) (nD : H0 D = none)
    (hw : ∀ x y : V, wipe (((wipe σ vs).set i (some x)).set j (some y)) vs = wipe σ vs)
    (hb : ∀ k H1 (Q : Bool → Hp → Prop), k ∈ ks → Same H0 H1 → Q (p k) H1 → tt (((wipe σ vs).set i (some (.str (key k)))).set j (some (.int (g0 k)))) H1 Q)
    (ht : ∀ k H1 (Q : VK), k ∈ ks → p k = true → Same H0 H1 → Q (g k) H1 → te (((wipe σ vs).set i (some (.str (key k)))).set j (some (.int (g0 k)))) H1 Q)
    (hd : ∀ H1, Same H0 H1 → H1 D = some (.lst ((ks.filter p).map g)) → Qd H1) : lcW (Iti d od (tab key ks g0)) (gTup K 2 (gCons (gName i) (gCons (gName j) gNil))) tt te vs σ D Qd H0 := by
  refine lc_gen (n := ks.length) (fun k H1 => Same H0 H1 ∧ H1 D = some (.lst (((ks.take k).filter p).map g))) ⟨same_new nD, upd_same⟩ ?_ ?_ ?_ ?_
  · rintro k H1 hk ⟨s, e⟩
    exact ⟨s _ _ fz, by rw [tab_len]; exact hk⟩
  · rintro H1 ⟨s, e⟩
    exact ⟨s _ _ fz, by rw [tab_len]; exact Nat.le_refl _⟩
  · rintro k H1 v H' hk ⟨s, e⟩ ⟨T, kk, z, ek, rfl, hT, rfl⟩
    rw [tab_at hk] at ek
    cases ek
    have tk : ks.take (k + 1) = ks.take k ++ [ks[k]] := by rw [List.take_succ, List.getElem?_eq_getElem hk]; rfl
    have hm := List.getElem_mem hk
    rw [tk]
    have ll : ((ks.take k).filter p).length ≤ k := Nat.le_trans (List.length_filter_le ..) (by rw [List.length_take]; exact Nat.min_le_left ..)
    generalize ks[k] = c at hm
    have sT : Same H1 (upd H1 T (.tup [.str (key c), .int (g0 c)])) := same_new hT
    have eT : (upd H1 T (.tup [.str (key c), .int (g0 c)])) T = some (.tup [.str (key c), .int (g0 c)]) := upd_same
    have eD := sT _ _ e
    refine ⟨T, _, rfl, .inl (.inl eT), rfl, _, _, rfl, _, _, rfl, rfl, hw _ _, ?_⟩
    refine hb c _ _ hm (s.trans sT) ?_
    cases ep : p c
    · rw [if_neg (by decide)]
      refine ⟨s.trans sT, ?_⟩
      rw [List.filter_append, List.filter_cons_of_neg (by rw [ep]; decide), List.filter_nil, List.append_nil]
      exact eD
    · rw [if_pos rfl]
      refine ht c _ _ hm ep (s.trans sT) ⟨_, eD, ?_, Z.Same.mut (s.trans sT) nD, ?_⟩
      · rw [List.length_map]
        exact Nat.lt_of_le_of_lt ll (Nat.lt_of_lt_of_le hk (Nat.le_trans hn (by decide)))
      · rw [upd_same, List.filter_append, List.filter_cons_of_pos ep, List.filter_nil, List.map_append]
        rfl
  · rintro H1 ⟨s, e⟩
    rw [List.take_of_length_le (Nat.le_refl _)] at e
    exact hd H1 s e
theorem dec_lt1 (a b : Nat) : decide (V.str ⟨#[97 + a]⟩ = V.str (lt1 b)) = decide (a = b) := by
  by_cases e : a = b
  · rw [e]
    rw [decide_eq_true rfl]
    exact decide_eq_true rfl
  · rw [decide_eq_false e]
    refine decide_eq_false fun z => e ?_
    exact lt1_inj (V.str.inj z)
abbrev s_debt_of : Stmt := topS 22
abbrev N_debt_of : List Str := ["debts", "party", "pair", "coins"]
abbrev P_debt_of : List Str := ["debts", "party"]
theorem sc_debt_of : FnScope N_debt_of P_debt_of (defScope s_debt_of) := ⟨rfl, rfl, rfl, by decide +kernel, rfl, by decide +kernel, by decide +kernel⟩
abbrev s_received : Stmt := topS 24
abbrev N_received : List Str := ["debts", "shares", "party", "pair", "coins"]
abbrev P_received : List Str := ["debts", "shares", "party"]
theorem sc_received : FnScope N_received P_received (defScope s_received) := ⟨rfl, rfl, rfl, by decide +kernel, rfl, by decide +kernel, by decide +kernel⟩
section
variable {P : Program} {w : World} {K : PySem.W.Frag} {mg : Str → Option Value} {base : Heap} {f : Addr} {fd : FuncData}
def spOwe : Sp := fun vs H Q _ => ∃ (D : Addr) (ks : List Nat) (g : Nat → Int) (i : Nat), vs = [.ref D, .str (lt1 i)] ∧ Db H D ks g ∧ i < 6 ∧ ∀ H', Same H H' → Q (.int (owe (dg g) i)) H'
theorem ok_debt_of (F : FnP K "debt_of" s_debt_of f fd) (m_sum : mg "sum" = none) : FnOk P w K mg base CX0 1 f fd P_debt_of spOwe := by
  refine F.ok sc_debt_of (fun vs H Q E h => ?_) (fun cdv A outer s H vs Q E hr h => ?_)
  · obtain ⟨D, ks, g, i, rfl, _⟩ := h
    rfl
  · obtain ⟨D, ks, g, i, rfl, hD, hi, q⟩ := h
    refine ⟨_, PSs.nox (pss_one (ps_ret (pe_callB (cr_sum rfl) (by rfl) m_sum (by decide +kernel) (pa_cons (pe_lock (pe_lc (own := [("pair", 2), ("coins", 3)]) (g := (gTup K 2 (gCons (gName 2) (gCons (gName 3) gNil)))) (by rfl) sc_debt_of.nd (pi_items (pv 0)) (blkOk_by (own := [("pair", 2), ("coins", 3)]) (N := N_debt_of) (sc := defScope s_debt_of) (by decide +kernel)) (fun _ _ _ _ _ => (pg_tup rfl (pgs_cons (pg_name (i := 2) sc_debt_of.nd rfl (by first | exact .inl rfl | exact .inr rfl)) (pgs_cons (pg_name (i := 3) sc_debt_of.nd rfl (by first | exact .inl rfl | exact .inr rfl)) pgs_nil)))) (fun _ _ _ _ _ => (pts_one (pt_cmpR op_eq (pe_ix ix_str (pv 2) pe_int (fun _ _ => rfl)) (pv 1) (nomark _)))) (fun _ _ _ _ _ => (pv 3)))) pa_nil)))), ?_⟩
    have ll := hD.len
    walk_at "go"
    refine ⟨D, _, hD.e, trivial, fun od => ?_⟩
    have fz : (upd H D (.frz od (.dK (tab ky ks g)))) D = some (.frz od (.dK (tab ky ks g))) := upd_same
    walk_at "go"
    refine ⟨D, od, _, rfl, fz, fun C nC => ?_⟩
    refine lc_items (K := K) (fun k => decide (k / 6 = i)) (fun k => .int (g k)) fz (by omega) nC (fun _ _ => rfl) ?_ ?_ ?_
    · intro k H2 Q1 hm s2 q1
      walk_at "go"
      refine ⟨ky k, _, 97 + k / 6, rfl, rfl, by rw [ky_len]; exact szl (by decide), rfl, ?_⟩
      walk_at "go"
      rw [show decide (V.str ⟨#[97 + k / 6]⟩ = V.str (lt1 i)) = decide (k / 6 = i) from dec_lt1 _ _]
      exact q1
    · intro k H2 Q1 hm _ s2 q1
      walk_at "go"
      exact q1
    intro J2 s2 eC
    refine ⟨s2 _ _ fz, ?_⟩
    have s3 := frz_back hD.e s2
    have CD := (frz_new nC).2
    have eC3 : (upd J2 D (.dK (tab ky ks g))) C = some (.lst (((ks.filter fun k => decide (k / 6 = i)).map g).map V.int)) := by
      rw [upd_ne CD, eC, List.map_map]
      rfl
    generalize upd J2 D (.dK (tab ky ks g)) = J3 at s3 eC3
    walk_at "go"
    refine ⟨C, _, rfl, SqL.of eC3, ?_⟩
    rw [sum_owe hD hi]
    exact q J3 s3
/-- shares by parties -/
def Sh (H : Hp) (D : Addr) (ps : List Nat) (s : Nat → Int) : Prop := H D = some (.dK (tab lt1 ps s))
def spRcv : Sp := fun vs H Q _ => ∃ (D S : Addr) (ks ps : List Nat) (g s : Nat → Int) (i : Nat), vs = [.ref D, .ref S, .str (lt1 i)] ∧ Db H D ks g ∧ Sh H S ps s ∧ D ≠ S ∧ i < 6 ∧ (∀ k ∈ ks, k / 6 ∈ ps) ∧ (∀ k, (g k).natAbs < 2 ^ 250) ∧ (∀ i, Bg (s i)) ∧ ∀ H', Same H H' → Q (.int (Cl.rcv (dg g) s i)) H'
theorem ok_received (F : FnP K "received" s_received f fd) (m_sum : mg "sum" = none) : FnOk P w K mg base CX0 1 f fd P_received spRcv := by
  refine F.ok sc_received (fun vs H Q E h => ?_) (fun cdv A outer s H vs Q E hr h => ?_)
  · obtain ⟨D, S', ks, ps, g, sh, i, rfl, _⟩ := h
    rfl
  · obtain ⟨D, S', ks, ps, g, sh, i, rfl, hD, hS, DS, hi, kp, gb, sb, q⟩ := h
    refine ⟨_, PSs.nox (pss_one (ps_ret (pe_callB (cr_sum rfl) (by rfl) m_sum (by decide +kernel) (pa_cons (pe_lock (pe_lc (own := [("pair", 3), ("coins", 4)]) (g := (gTup K 2 (gCons (gName 3) (gCons (gName 4) gNil)))) (by rfl) sc_received.nd (pi_items (pv 0)) (blkOk_by (own := [("pair", 3), ("coins", 4)]) (N := N_received) (sc := defScope s_received) (by decide +kernel)) (fun _ _ _ _ _ => (pg_tup rfl (pgs_cons (pg_name (i := 3) sc_received.nd rfl (by first | exact .inl rfl | exact .inr rfl)) (pgs_cons (pg_name (i := 4) sc_received.nd rfl (by first | exact .inl rfl | exact .inr rfl)) pgs_nil)))) (fun _ _ _ _ _ => (pts_one (pt_cmpR op_eq (pe_ix ix_str (pv 3) pe_int (fun _ _ => rfl)) (pv 2) (nomark _)))) (fun _ _ _ _ _ => (pe_op op_mulW (pv 4) (pe_dget (hu_of hr) (pv 1) (pe_ix ix_str (pv 3) pe_int (fun _ _ => rfl)) (fun _ _ => rfl)))))) pa_nil)))), ?_⟩
    have ll := hD.len
    walk_at "go"
    refine ⟨D, _, hD.e, trivial, fun od => ?_⟩
    have fz : (upd H D (.frz od (.dK (tab ky ks g)))) D = some (.frz od (.dK (tab ky ks g))) := upd_same
    have hS1 : (upd H D (.frz od (.dK (tab ky ks g)))) S' = some (.dK (tab lt1 ps sh)) := by rw [upd_ne DS.symm]; exact hS
    walk_at "go"
    refine ⟨D, od, _, rfl, fz, fun C nC => ?_⟩
    refine lc_items (K := K) (fun k => decide (k % 6 = i)) (fun k => .int (g k * sh (k / 6))) fz (by omega) nC (fun _ _ => rfl) ?_ ?_ ?_
    · intro k H2 Q1 hm s2 q1
      walk_at "go"
      refine ⟨ky k, _, 97 + k % 6, rfl, rfl, by rw [ky_len]; exact szl (by decide), rfl, ?_⟩
      walk_at "go"
      rw [show decide (V.str ⟨#[97 + k % 6]⟩ = V.str (lt1 i)) = decide (k % 6 = i) from dec_lt1 _ _]
      exact q1
    · intro k H2 Q1 hm _ s2 q1
      walk_at "go"
      refine ⟨ky k, _, 97 + k / 6, rfl, rfl, by rw [ky_len]; exact szl (by decide), rfl, ?_⟩
      walk_at "go"
      refine ⟨S', _, rfl, tab_get (key := lt1) (fun _ _ => lt1_inj) (s2 _ _ hS1) (kp k hm), ?_⟩
      walk_at "go"
      refine ⟨wide_mul (gb k) (sb (k / 6)) (by decide) (by decide) (by decide), ?_⟩
      exact q1
    intro J2 s2 eC
    refine ⟨s2 _ _ fz, ?_⟩
    have s3 := frz_back hD.e s2
    have CD := (frz_new nC).2
    have eC3 : (upd J2 D (.dK (tab ky ks g))) C = some (.lst (((ks.filter fun k => decide (k % 6 = i)).map fun k => g k * sh (k / 6)).map V.int)) := by
      rw [upd_ne CD, eC, List.map_map]
      rfl
    generalize upd J2 D (.dK (tab ky ks g)) = J3 at s3 eC3
    walk_at "go"
    refine ⟨C, _, rfl, SqL.of eC3, ?_⟩
    rw [sum_rcv hD sh hi]
    exact q J3 s3
end
end Z
set_option pp.maxSteps 700
set_option Elab.async false
set_option linter.all false
set_option maxRecDepth 100000
set_option maxHeartbeats 4000000
open SX (S S_inj S_len S_cat)
namespace Z
open Cl
open PySem PySem.Spec PyProof.Rows L2
open C8 (pss_cut tCut)
local macro_rules | `(tactic| walk_at "num") => `(tactic| first | rfl | omega | decide | exact Nat.le_of_lt (small1000 (by simp)) | exact ⟨by omega, by omega⟩ | exact ⟨by omega, by omega, by omega⟩ | exact ⟨by decide, by decide, by decide⟩ | exact Or.inl ⟨by omega, by omega⟩ | exact Or.inr ⟨by omega, by omega⟩)
local macro_rules | `(tactic| walk_at "go") => `(tactic| repeat (first | refine ⟨_, rfl, ?_⟩ | refine ⟨_, _, rfl, rfl, ?_⟩ | refine ⟨_, _, rfl, ?_⟩ | (refine ⟨_, _, rfl, rfl, ?_, ?_⟩; focus walk_at "num") | refine Or.inl ⟨_, rfl, ?_⟩ | refine ⟨_, _, _, _, rfl, rfl, (by assumption), (by rfl), ?_⟩ | refine ⟨_, _, _, _, _, rfl, (by assumption), (by assumption), (by assumption), (by rfl), ?_⟩ | refine ⟨rfl, ?_⟩ | (refine And.intro ?_ ?_; focus walk_at "num")))
set_option exponentiation.threshold 5000
abbrev s_equation_of : Stmt := topS 25
abbrev N_equation_of : List Str := ["debts", "purses", "failing", "party", "other", "row", "pair", "coins", "full"]
abbrev P_equation_of : List Str := ["debts", "purses", "failing", "party"]
theorem sc_equation_of : FnScope N_equation_of P_equation_of (defScope s_equation_of) := ⟨rfl, rfl, rfl, by decide +kernel, rfl, by decide +kernel, by decide +kernel⟩

/-- purses -/
structure Pu (H : Hp) (D : Addr) (ps : List Nat) (p : Nat → Int) : Prop where
  e : H D = some (.dK (tab lt1 ps p))
  nd : ps.Nodup
  ok : ∀ i ∈ ps, i < 6 ∧ 0 ≤ p i
  z : ∀ i, i ∉ ps → p i = 0
theorem Pu.mono {H H' : Hp} {D : Addr} {ps : List Nat} {p : Nat → Int} (d : Pu H D ps p) (s : Same H H') : Pu H' D ps p := ⟨s _ _ d.e, d.nd, d.ok, d.z⟩
theorem Pu.nn {H : Hp} {D : Addr} {ps : List Nat} {p : Nat → Int} (d : Pu H D ps p) (i : Nat) : 0 ≤ p i := by
  by_cases m : i ∈ ps
  · exact (d.ok i m).2
  · rw [d.z i m]
    exact Int.le_refl _
theorem Pu.len {H : Hp} {D : Addr} {ps : List Nat} {p : Nat → Int} (d : Pu H D ps p) : ps.length ≤ 6 := SO.nodup_len6 d.nd fun i m => (d.ok i m).1
/-- small debts and purses -/
structure Sm (g p : Nat → Int) : Prop where
  g : ∀ k, (g k).natAbs < 2 ^ 250
  p : ∀ i, (p i).natAbs < 2 ^ 700
theorem dg_sm {g : Nat → Int} (h : ∀ k, (g k).natAbs < 2 ^ 250) (i j : Nat) : (dg g i j).natAbs < 2 ^ 250 := by
  unfold dg
  split
  · exact h _
  · decide
theorem sg6_size {f : Nat → Int} {A : Nat} (h : ∀ i, i < 6 → (f i).natAbs ≤ A) : (sg 6 f).natAbs ≤ 6 * A := by
  have := h 0 (by decide)
  have := h 1 (by decide)
  have := h 2 (by decide)
  have := h 3 (by decide)
  have := h 4 (by decide)
  have := h 5 (by decide)
  simp only [sg]
  omega
theorem mat_size {g p : Nat → Int} (h : Sm g p) (F : List Nat) (r k : Nat) : (mat (dg g) p F r k).natAbs ≤ 2 ^ 702 := by
  have b1 : ∀ i j, (dg g i j).natAbs ≤ 2 ^ 250 := fun i j => Nat.le_of_lt (dg_sm h.g i j)
  have c : 6 * 2 ^ 250 ≤ 2 ^ 700 := by decide
  have c2 : 2 ^ 700 + 2 ^ 700 ≤ 2 ^ 702 := by decide
  have c3 : 2 ^ 250 ≤ 2 ^ 702 := by decide
  unfold mat
  split
  · split
    · have := sg6_size (f := dg g (F.getD r 0)) fun j _ => b1 (F.getD r 0) j
      unfold owe
      omega
    · have := b1 (F.getD k 0) (F.getD r 0)
      omega
  · have h1 := h.p (F.getD r 0)
    have h2 := sg6_size (f := fun i => if i ∈ F then 0 else dg g i (F.getD r 0)) (A := 2 ^ 250) fun j _ => by
      split
      · decide
      · exact b1 _ _
    omega
theorem bm_6 : ∀ n, n < 7 → Bm n (2 ^ 702) := fun n hn => ⟨by decide, (by decide +kernel : ∀ n, n < 7 → (n * 2 ^ 702) ^ n < 2 ^ 4300) n hn⟩
theorem pT_cps {F : List Nat} {k : Nat} (h : k < F.length) : (S (pT F)).cps[k]? = some (97 + F.getD k 0) := by
  show (pT F).toArray[k]? = _
  unfold pT
  rw [List.getElem?_toArray, List.getElem?_map, List.getElem?_eq_getElem h, List.getD_eq_getElem?_getD, List.getElem?_eq_getElem h]
  rfl
theorem pT_sz (F : List Nat) : (S (pT F)).cps.size = F.length := by
  show (pT F).toArray.size = _
  unfold pT
  simp
theorem pT_len (F : List Nat) : (S (pT F)).length = F.length := pT_sz F
theorem db_get {H : Hp} {D : Addr} {ks : List Nat} {g : Nat → Int} (d : Db H D ks g) (k : Nat) : ∃ o, DGet H D (.str (ky k)) o ∧ o.getD (.int 0) = .int (g k) := by
  refine ⟨if k ∈ ks then some (.int (g k)) else none, .inl ⟨tab ky ks g, Sum.inr (ky k), .inl d.e, rfl, by rw [tab_val (fun _ _ => ky_inj)]⟩, ?_⟩
  by_cases m : k ∈ ks
  · rw [if_pos m]
    rfl
  · rw [if_neg m, d.z k m]
    rfl
theorem in_pT (F : List Nat) (i : Nat) : decide (97 + i ∈ (S (pT F)).cps.toList) = decide (i ∈ F) := by
  have : (97 + i ∈ (S (pT F)).cps.toList) ↔ i ∈ F := by
    show 97 + i ∈ (pT F).toArray.toList ↔ _
    unfold pT
    rw [List.toList_toArray, List.mem_map]
    constructor
    · rintro ⟨j, hj, e⟩
      have : j = i := by omega
      rw [← this]
      exact hj
    · intro h
      exact ⟨i, h, rfl⟩
  exact decide_eq_decide.mpr this
section
variable {P : Program} {w : World} {K : PySem.W.Frag} {mg : Str → Option Value} {base : Heap} {f : Addr} {fd : FuncData}
def spEqn : Sp := fun vs H Q _ => ∃ (D Pd : Addr) (ks ps F : List Nat) (g p : Nat → Int) (r : Nat), vs = [.ref D, .ref Pd, .str (S (pT F)), .str (lt1 (F.getD r 0))] ∧ Db H D ks g ∧ Pu H Pd ps p ∧ D ≠ Pd ∧ F.Nodup ∧ (∀ i ∈ F, i ∈ ps) ∧ r < F.length ∧
  ∀ (q : Addr) H', Same H H' → H q = none → H' q = some (.lst ((rw_ (F.length + 1) (mat (dg g) p F r)).map V.int)) → Q (.ref q) H'
theorem ok_equation_of (F : FnP K "equation_of" s_equation_of f fd) (m_sum : mg "sum" = none) (c_debt_of : Cal P w K mg base 1 "debt_of" spOwe) : FnOk P w K mg base CX0 2 f fd P_equation_of spEqn := by
  refine F.ok sc_equation_of (fun vs H Q E h => ?_) (fun cdv A outer s H vs Q E hr h => ?_)
  · obtain ⟨D, Pd, ks, ps, F', g, p, r, rfl, _⟩ := h
    rfl
  · obtain ⟨D, Pd, ks, ps, F', g, p, r, rfl, hD, hP, DP, nd, fps, hr', q⟩ := h
    refine ⟨_, PSs.nox (pss_cons (ps_setLc (i := 5) (own := [("other", 4)]) (g := (gName 4)) (tt := tYes) (by rfl) sc_equation_of.nd rfl rfl (sw_true rfl rfl rfl (by decide +kernel)) (pi_str (pv 2)) (blkOk_by (own := [("other", 4)]) (N := N_equation_of) (sc := defScope s_equation_of) (by decide +kernel)) (fun _ _ _ _ _ => (pg_name (i := 4) sc_equation_of.nd rfl (by first | exact .inl rfl | exact .inr rfl))) (fun _ _ _ _ _ => pts_nil) (fun _ _ _ _ _ => (pe_ifExp (pt_cmpR op_eq (pv 4) (pv 3) (nomark _)) (pe_cl c_debt_of hr (by decide) (by rfl) (pa_cons (pv 0) (pa_cons (pv 3) pa_nil))) (pe_op op_sub pe_int (pe_dget2 (hu_of hr) (pv 0) (pe_op op_add_str (pv 4) (pv 3)) pe_int ⟨rfl, rfl, rfl, rfl⟩)))))
      (pss_cons (ps_set (i := 8) sc_equation_of.nd rfl (by first | exact .inl rfl | exact .inr rfl) (pe_callB (cr_sum rfl) (by rfl) m_sum (by decide +kernel) (pa_cons (pe_lock (pe_lc (own := [("pair", 6), ("coins", 7)]) (g := (gTup K 2 (gCons (gName 6) (gCons (gName 7) gNil)))) (by rfl) sc_equation_of.nd (pi_items (pv 0)) (blkOk_by (own := [("pair", 6), ("coins", 7)]) (N := N_equation_of) (sc := defScope s_equation_of) (by decide +kernel)) (fun _ _ _ _ _ => (pg_tup rfl (pgs_cons (pg_name (i := 6) sc_equation_of.nd rfl (by first | exact .inl rfl | exact .inr rfl)) (pgs_cons (pg_name (i := 7) sc_equation_of.nd rfl (by first | exact .inl rfl | exact .inr rfl)) pgs_nil)))) (fun _ _ _ _ _ => (pts_one (PW.pt (pw_and (pt_cmpR op_eq (pe_ix ix_str (pv 6) pe_int (fun _ _ => rfl)) (pv 3) (nomark _)) (pw_and1 (pt_cmpR op_notIn_sign (pe_ix ix_str (pv 6) pe_int (fun _ _ => rfl)) (pv 2) (by rfl))))))) (fun _ _ _ _ _ => (pv 7)))) pa_nil)))
      (pss_one (ps_ret (pe_op op_cat (pv 5) (pe_lst (pa_cons (pe_op op_add (pe_dget (hu_of hr) (pv 1) (pv 3) (fun _ _ => rfl)) (pv 8)) pa_nil))))))), ?_⟩
    have lt6 : ∀ i ∈ F', i < 6 := fun i m => (hP.ok i (fps i m)).1
    have l6 : F'.length ≤ 6 := SO.nodup_len6 nd lt6
    have r6 := lt6 _ (getD_mem hr')
    have ll := hD.len
    have crm := fps _ (getD_mem hr')
    generalize hcr : F'.getD r 0 = cr at r6 crm ⊢
    rw [show L2.start N_equation_of [V.ref D, V.ref Pd, V.str (S (pT F')), V.str (lt1 (cr))] = [some (V.ref D), some (V.ref Pd), some (V.str (S (pT F'))), some (V.str ⟨#[97 + cr]⟩), none, none, none, none, none] from rfl]
    walk_at "go"
    intro C nC
    refine lc_gen (n := F'.length) (fun k H1 => Same H H1 ∧ H1 C = some (.lst ((rw_ k (mat (dg g) p F' r)).map V.int))) ⟨same_new nC, upd_same⟩ ?_ ?_ ?_ ?_
    · rintro k H1 hk _
      show k < (S (pT F')).cps.size
      rw [pT_sz]
      exact hk
    · rintro H1 _
      show (S (pT F')).cps.size ≤ F'.length
      rw [pT_sz]
      exact Nat.le_refl _
    · rintro k H1 v H2 hk ⟨s1, eC⟩ ⟨rfl, c, ec, rfl⟩
      rw [pT_cps hk] at ec
      cases ec
      have k6 := lt6 _ (getD_mem hk)
      generalize hck : F'.getD k 0 = ck at k6 ⊢
      have fin : ∀ (x : Int) H3, Same H2 H3 → x = mat (dg g) p F' r k → ∃ acc, H3 C = some (.lst acc) ∧ acc.length < sizeLine ∧ (Same H (upd H3 C (.lst (acc ++ [.int x]))) ∧ (upd H3 C (.lst (acc ++ [.int x]))) C = some (.lst ((rw_ (k + 1) (mat (dg g) p F' r)).map V.int))) := fun x H3 s3 ex => by
        refine ⟨_, s3 _ _ eC, by rw [List.length_map, rw_len]; exact szlt (by omega), Z.Same.mut (s1.trans s3) nC, ?_⟩
        rw [upd_same, ex]
        unfold rw_
        rw [List.range_succ, List.map_append, List.map_append]
        rfl
      refine ⟨rfl, ?_⟩
      walk_at "go"
      rw [show decide (V.str ⟨#[97 + ck]⟩ = V.str ⟨#[97 + cr]⟩) = decide (ck = cr) from dec_lt1 _ _]
      refine ite2 (fun e => ?_) (fun e => ?_)
      · have e : k = r := getD_inj nd hk hr' (by rw [hck, hcr]; exact of_decide_eq_true e)
        walk_at "go"
        refine ⟨D, ks, g, cr, rfl, hD.mono s1, r6, fun H3 s3 => ?_⟩
        refine fin _ H3 s3 ?_
        unfold mat
        rw [if_pos hk, if_pos e, hcr]
      · have e : k ≠ r := fun w => e (decide_eq_true (by rw [← hck, ← hcr, w]))
        walk_at "go"
        refine ⟨.inl ⟨_, .inl (hD.mono s1).e⟩, ?_⟩
        walk_at "go"
        have e1 : (⟨#[97 + ck]⟩ : Str) ++ (⟨#[97 + cr]⟩ : Str) = ky (6 * ck + cr) := ky_cat r6
        obtain ⟨o, ho, eo⟩ := db_get (hD.mono s1) (6 * ck + cr)
        refine ⟨szl (show 1 + 1 ≤ 2000 by decide), ?_⟩
        rw [e1]
        walk_at "go"
        refine ⟨o, ho, ?_⟩
        rw [eo]
        walk_at "go"
        refine fin _ _ (Same.refl _) ?_
        unfold mat
        rw [if_pos hk, if_neg e, hck, hcr, dg_in k6 r6]
    · rintro H1 ⟨s1, eC⟩
      walk_at "go"
      have hD1 := hD.mono s1
      have hP1 := hP.mono s1
      refine ⟨D, _, hD1.e, trivial, fun od => ?_⟩
      have fz : (upd H1 D (.frz od (.dK (tab ky ks g)))) D = some (.frz od (.dK (tab ky ks g))) := upd_same
      walk_at "go"
      refine ⟨D, od, _, rfl, fz, fun C2 nC2 => ?_⟩
      refine lc_items (K := K) (fun k => decide (k % 6 = cr) && !decide (k / 6 ∈ F')) (fun k => .int (g k)) fz (by omega) nC2 (fun _ _ => rfl) ?_ ?_ ?_
      · intro k H2 Q1 hm s2 q1
        walk_at "go"
        refine ⟨ky k, _, 97 + k % 6, rfl, rfl, by rw [ky_len]; exact szl (by decide), rfl, ?_⟩
        walk_at "go"
        rw [show decide (V.str ⟨#[97 + k % 6]⟩ = V.str ⟨#[97 + cr]⟩) = decide (k % 6 = cr) from dec_lt1 _ _]
        cases e1 : decide (k % 6 = cr)
        · rw [e1] at q1
          exact q1
        · rw [e1] at q1
          rw [if_pos rfl]
          walk_at "go"
          refine ⟨ky k, _, 97 + k / 6, rfl, rfl, by rw [ky_len]; exact szl (by decide), rfl, ?_⟩
          walk_at "go"
          rw [in_pT]
          exact q1
      · intro k H2 Q1 hm _ s2 q1
        walk_at "go"
        exact q1
      intro J2 s2 eC2
      refine ⟨s2 _ _ fz, ?_⟩
      have s3 := frz_back hD1.e s2
      have CD := (frz_new nC2).2
      have eC3 : (upd J2 D (.dK (tab ky ks g))) C2 = some (.lst (((ks.filter fun k => decide (k % 6 = cr) && !decide (k / 6 ∈ F')).map g).map V.int)) := by
        rw [upd_ne CD, eC2, List.map_map]
        rfl
      generalize upd J2 D (.dK (tab ky ks g)) = J3 at s3 eC3
      walk_at "go"
      refine ⟨C2, _, rfl, SqL.of eC3, ?_⟩
      rw [sum_full hD F' r6]
      dsimp only [List.set]
      walk_at "go"
      refine ⟨Pd, _, rfl, tab_get (key := lt1) (fun _ _ => lt1_inj) (s3 _ _ hP1.e) crm, ?_⟩
      walk_at "go"
      intro l nl
      have s4 := same_new (o := .lst [.int (p (cr) + sg 6 (fun j => if j ∈ F' then 0 else dg g j (cr)))]) nl
      have el : (upd J3 l (.lst [.int (p (cr) + sg 6 (fun j => if j ∈ F' then 0 else dg g j (cr)))])) l = some (.lst [.int (p (cr) + sg 6 (fun j => if j ∈ F' then 0 else dg g j (cr)))]) := upd_same
      have eC4 := s4 _ _ (s3 _ _ eC)
      show ∃ _, _
      refine ⟨C, l, _, _, rfl, rfl, eC4, el, by rw [List.length_map, rw_len]; exact szl (by show F'.length + 1 ≤ 2000; omega), fun q' nq => ?_⟩
      refine q q' _ (s1.trans (s3.trans (s4.trans (same_new nq)))) (none_of (s1.trans (s3.trans s4)) nq) ?_
      rw [upd_same]
      unfold rw_
      rw [List.range_succ, List.map_append, List.map_append]
      have : mat (dg g) p F' r F'.length = p (cr) + sg 6 (fun j => if j ∈ F' then 0 else dg g j (cr)) := by
        unfold mat
        rw [if_neg (by omega), hcr]
      rw [List.map_singleton, List.map_singleton, this]
end
end Z
set_option pp.maxSteps 700
set_option Elab.async false
set_option linter.all false
set_option maxRecDepth 100000
set_option maxHeartbeats 4000000
set_option exponentiation.threshold 5000
open SX (S S_inj S_len S_cat)
namespace Z
open Cl
open PySem PySem.Spec PyProof.Rows L2
open C8 (pss_cut tCut)
local macro_rules | `(tactic| walk_at "num") => `(tactic| first | rfl | omega | decide | exact Nat.le_of_lt (small1000 (by simp)) | exact ⟨by omega, by omega⟩ | exact ⟨by omega, by omega, by omega⟩ | exact ⟨by decide, by decide, by decide⟩ | exact Or.inl ⟨by omega, by omega⟩ | exact Or.inr ⟨by omega, by omega⟩)
local macro_rules | `(tactic| walk_at "go") => `(tactic| repeat (first | refine ⟨_, rfl, ?_⟩ | refine ⟨_, _, rfl, rfl, ?_⟩ | refine ⟨_, _, rfl, ?_⟩ | (refine ⟨_, _, rfl, rfl, ?_, ?_⟩; focus walk_at "num") | refine Or.inl ⟨_, rfl, ?_⟩ | refine ⟨_, _, _, _, rfl, rfl, (by assumption), (by rfl), ?_⟩ | refine ⟨_, _, _, _, _, rfl, (by assumption), (by assumption), (by assumption), (by rfl), ?_⟩ | refine ⟨rfl, ?_⟩ | (refine And.intro ?_ ?_; focus walk_at "num")))
abbrev s_shares_when : Stmt := topS 26
abbrev N_shares_when : List Str := ["debts", "purses", "failing", "party", "found", "scale", "shares", "share"]
abbrev P_shares_when : List Str := ["debts", "purses", "failing"]
theorem sc_shares_when : FnScope N_shares_when P_shares_when (defScope s_shares_when) := ⟨rfl, rfl, rfl, by decide +kernel, rfl, by decide +kernel, by decide +kernel⟩

/-- a dict comprehension over the keys of a locked dict: {key: value} -/
theorem dc_keys {key : Nat → Str} (inj : ∀ a b, key a = key b → a = b) {d R : Addr} {od : Obj} {ks : List Nat} {g0 : Nat → Int} {H0 : Hp} {i : Nat} {tk tv : TE} {vs : List Nat} {σ : L2.St} {Qd : Hp → Prop} (v : Nat → Int) (nd : ks.Nodup) (fz : H0 d = some (.frz od (.dK (tab key ks g0)))) (hn : ks.length ≤ 1000) (nR : H0 R = none)
    (hw : ∀ x : V, wipe ((wipe σ vs).set i (some x)) vs = wipe σ vs)
    (ht : ∀ k H1 (Q : VK), k ∈ ks → Same H0 H1 → Q (.str (key k)) H1 → tk ((wipe σ vs).set i (some (.str (key k)))) H1 Q)
    (hv : ∀ k H1 (Q : VK), k ∈ ks → Same H0 H1 → (∀ H2, Same H1 H2 → Q (.int (v k)) H2) → tv ((wipe σ vs).set i (some (.str (key k)))) H1 Q)
    (hd : ∀ H1, Same H0 H1 → H1 R = some (.dK (tab key ks v)) → Qd H1) :
    ∃ W : Nat → Nat → Hp → Prop, (∃ m, W 0 m (upd H0 R (.dK []))) ∧ ∀ i' m H, W i' m H →
      ((Itk d od (tab key ks g0)).stop i' H ∧ Qd H) ∨ ((Itk d od (tab key ks g0)).go i' H ∧ ∃ Nx : Hp → Prop, (∀ H', Nx H' → ∃ m', m' < m ∧ W (i' + 1) m' H') ∧ ∀ x H', (Itk d od (tab key ks g0)).yld i' H x H' → gName i x (wipe σ vs) H' fun σ2 H2 => wipe σ2 vs = wipe σ vs ∧ tYes σ2 H2 fun b H3 =>
        if b = true then tk σ2 H3 fun y H4 => tv σ2 H4 fun z H5 => ∃ kvs k, y = kV k ∧ H5 R = some (.dK kvs) ∧ kvs.length < sizeLine ∧ Nx (upd H5 R (.dK (putK kvs k z))) else Nx H3) := by
  refine dc_gen (J := Itk d od (tab key ks g0)) (n := ks.length) (fun k J => Same H0 J ∧ J R = some (.dK (tab key (ks.take k) v))) ⟨same_new nR, upd_same⟩ ?_ ?_ ?_ ?_
  · rintro k J hk ⟨s, _⟩
    exact ⟨s _ _ fz, by rw [tab_len]; exact hk⟩
  · rintro J ⟨s, _⟩
    exact ⟨s _ _ fz, by rw [tab_len]; exact Nat.le_refl _⟩
  · rintro k J x J2 hk ⟨s, eR⟩ ⟨rfl, kk, z, e, rfl⟩
    rw [tab_at hk] at e
    cases e
    have tk' : ks.take (k + 1) = ks.take k ++ [ks[k]] := by rw [List.take_succ, List.getElem?_eq_getElem hk]; rfl
    have nin : ks[k] ∉ ks.take k := fun z => by
      obtain ⟨j, hj, ej⟩ := List.getElem_of_mem z
      rw [List.length_take] at hj
      rw [List.getElem_take] at ej
      have := (List.getElem_inj nd).mp ej
      omega
    have hm := List.getElem_mem hk
    have ll : (ks.take k).length ≤ 1000 := by rw [List.length_take]; omega
    rw [tk']
    generalize ks[k] = c at hm nin
    refine ⟨hw _, ?_⟩
    refine ht c _ _ hm s (hv c _ _ hm s fun H2 s2 => ?_)
    refine ⟨_, Sum.inr (key c), rfl, s2 _ _ eR, by rw [tab_len]; exact szlt (by omega), Z.Same.mut (s.trans s2) nR, ?_⟩
    rw [upd_same, tab_put inj, if_neg nin]
    refine congrArg _ (congrArg _ (tab_congr fun j hj => ?_))
    split
    · rename_i e
      rw [e]
    · rfl
  · rintro J ⟨s, eR⟩
    rw [List.take_of_length_le (Nat.le_refl _)] at eR
    exact hd J s eR
section
variable {P : Program} {w : World} {K : PySem.W.Frag} {mg : Str → Option Value} {base : Heap} {f : Addr} {fd : FuncData}
/-- what shares_when and what follows it wants of debts, purses and failing ones -/
structure Wh (H : Hp) (D Pd : Addr) (ks ps F : List Nat) (g p : Nat → Int) : Prop where
  db : Db H D ks g
  pu : Pu H Pd ps p
  ne : D ≠ Pd
  sm : Sm g p
  nd : F.Nodup
  fp : ∀ i ∈ F, i ∈ ps
  nc : NC (dg g) F
  kp : ∀ k ∈ ks, k / 6 ∈ ps ∧ k % 6 ∈ ps
theorem Wh.mono {H H' : Hp} {D Pd : Addr} {ks ps F : List Nat} {g p : Nat → Int} (h : Wh H D Pd ks ps F g p) (s : Same H H') : Wh H' D Pd ks ps F g p := ⟨h.db.mono s, h.pu.mono s, h.ne, h.sm, h.nd, h.fp, h.nc, h.kp⟩
theorem Wh.lt {H : Hp} {D Pd : Addr} {ks ps F : List Nat} {g p : Nat → Int} (h : Wh H D Pd ks ps F g p) : ∀ i ∈ F, i < 6 := fun i m => (h.pu.ok i (h.fp i m)).1
theorem Wh.l6 {H : Hp} {D Pd : Addr} {ks ps F : List Nat} {g p : Nat → Int} (h : Wh H D Pd ks ps F g p) : F.length ≤ 6 := SO.nodup_len6 h.nd h.lt
theorem Wh.bg {H : Hp} {D Pd : Addr} {ks ps F : List Nat} {g p : Nat → Int} (h : Wh H D Pd ks ps F g p) : Bg (sclF (dg g) p F) ∧ ∀ i, Bg (shrF (dg g) p F i) := by
  have mm := mm_mat h.db.dd (p := p) h.nd h.lt h.nc
  obtain ⟨x1, xb⟩ := bm_6 F.length (by have := h.l6; omega)
  have hX : ∀ r k, r < F.length → k < F.length + 1 → (mat (dg g) p F r k).natAbs ≤ 2 ^ 702 := fun r k _ _ => mat_size h.sm F r k
  have e1 : Bg (sclF (dg g) p F) := Nat.lt_of_le_of_lt (bt_d_size (m := F.length + 1) mm (by omega) x1 hX F.length (Nat.le_refl _)) xb
  refine ⟨e1, fun i => ?_⟩
  unfold shrF
  split
  · rename_i m
    exact Nat.lt_of_le_of_lt (bt_size mm (m := F.length + 1) (by omega) x1 hX (Nat.le_refl _) (ixF_lt m) (by omega)) xb
  · exact e1
def spSwh : Sp := fun vs H Q _ => ∃ (D Pd : Addr) (ks ps F : List Nat) (g p : Nat → Int), vs = [.ref D, .ref Pd, .str (S (pT F))] ∧ Wh H D Pd ks ps F g p ∧
  ∀ (t S' : Addr) H', Same H H' → H S' = none → H' t = some (.tup [.ref S', .int (sclF (dg g) p F)]) → H' S' = some (.dK (tab lt1 ps (shrF (dg g) p F))) → Q (.ref t) H'
theorem ok_shares_when (F : FnP K "shares_when" s_shares_when f fd) (m_zip : mg "zip" = none) (c_solve : Cal P w K mg base 2 "solve" spSol) (c_equation_of : Cal P w K mg base 2 "equation_of" spEqn) : FnOk P w K mg base CX0 3 f fd P_shares_when spSwh := by
  refine F.ok sc_shares_when (fun vs H Q E h => ?_) (fun cdv A outer s H vs Q E hr h => ?_)
  · obtain ⟨D, Pd, ks, ps, F', g, p, rfl, _⟩ := h
    rfl
  · obtain ⟨D, Pd, ks, ps, F', g, p, rfl, hW, q⟩ := h
    refine ⟨_, PSs.nox (pss_cons (ps_asg (pe_cl c_solve hr (by decide) (by rfl) (pa_cons (pe_lc (own := [("party", 3)]) (g := (gName 3)) (tt := tYes) (by rfl) sc_shares_when.nd (pi_str (pv 2)) (blkOk_by (own := [("party", 3)]) (N := N_shares_when) (sc := defScope s_shares_when) (by decide +kernel)) (fun _ _ _ _ _ => (pg_name (i := 3) sc_shares_when.nd rfl (by first | exact .inl rfl | exact .inr rfl))) (fun _ _ _ _ _ => pts_nil) (fun _ _ _ _ _ => (pe_cl c_equation_of hr (by decide) (by rfl) (pa_cons (pv 0) (pa_cons (pv 1) (pa_cons (pv 2) (pa_cons (pv 3) pa_nil))))))) pa_nil)) (pg_tup rfl (pgs_cons (pg_name (i := 4) sc_shares_when.nd rfl (by first | exact .inl rfl | exact .inr rfl)) (pgs_cons (pg_name (i := 5) sc_shares_when.nd rfl (by first | exact .inl rfl | exact .inr rfl)) pgs_nil))))
      (pss_cons (ps_lock (ps_setDc (i := 6) (own := [("party", 3)]) (g := (gName 3)) (tt := tYes) (by rfl) sc_shares_when.nd rfl rfl (sw_trueD rfl rfl rfl (by decide +kernel)) (pi_keys (pv 1)) (blkOk_by (own := [("party", 3)]) (N := N_shares_when) (sc := defScope s_shares_when) (by decide +kernel)) (fun _ _ _ _ _ => (pg_name (i := 3) sc_shares_when.nd rfl (by first | exact .inl rfl | exact .inr rfl))) (fun _ _ _ _ _ => pts_nil) (fun _ _ _ _ _ => (pv 3)) (fun _ _ _ _ _ => (pv 5))))
      (pss_cons (ps_for PassesOwn.never rfl (pi_zipS (by rfl) m_zip (pa_cons (pv 2) (pa_cons (pv 4) pa_nil))) (pg_tup rfl (pgs_cons (pg_name (i := 3) sc_shares_when.nd rfl (by first | exact .inl rfl | exact .inr rfl)) (pgs_cons (pg_name (i := 7) sc_shares_when.nd rfl (by first | exact .inl rfl | exact .inr rfl)) pgs_nil)))
        (pss_one (ps_dput (hu_of hr) (pv 6) (pv 3) (pv 7) rfl)))
      (pss_one (ps_ret (pe_tup (pa_cons (pv 6) (pa_cons (pv 5) pa_nil)))))))), ?_⟩
    have l6 := hW.l6
    rw [show L2.start N_shares_when [V.ref D, V.ref Pd, V.str (S (pT F'))] = [some (V.ref D), some (V.ref Pd), some (V.str (S (pT F'))), none, none, none, none, none] from rfl]
    walk_at "go"
    intro C nC
    refine lc_gen (n := F'.length) (fun k H1 => Same H H1 ∧ ∃ qs : List Addr, H1 C = some (.lst (qs.map V.ref)) ∧ qs.length = k ∧ ∀ i x, qs[i]? = some x → x ≠ C ∧ H1 x = some (.lst ((rw_ (F'.length + 1) (mat (dg g) p F' i)).map V.int))) ⟨same_new nC, [], upd_same, rfl, fun i x e => by cases e⟩ ?_ ?_ ?_ ?_
    · rintro k H1 hk _
      show k < (S (pT F')).cps.size
      rw [pT_sz]
      exact hk
    · rintro H1 _
      show (S (pT F')).cps.size ≤ F'.length
      rw [pT_sz]
      exact Nat.le_refl _
    · rintro k H1 v H2 hk ⟨s1, qs, eC, lq, hq⟩ ⟨rfl, c, ec, rfl⟩
      rw [pT_cps hk] at ec
      cases ec
      refine ⟨rfl, ?_⟩
      walk_at "go"
      refine ⟨D, Pd, ks, ps, F', g, p, k, rfl, hW.db.mono s1, hW.pu.mono s1, hW.ne, hW.nd, hW.fp, hk, fun x H3 s3 nx ex => ?_⟩
      have xC : x ≠ C := (ne_of_none eC nx).symm
      refine ⟨_, s3 _ _ eC, by rw [List.length_map, lq]; exact szlt (by omega), Z.Same.mut (s1.trans s3) nC, qs ++ [x], by rw [upd_same, List.map_append]; rfl, by rw [List.length_append, lq]; rfl, fun i y e => ?_⟩
      by_cases hi : i < qs.length
      · rw [List.getElem?_append_left hi] at e
        obtain ⟨n1, e1⟩ := hq i y e
        exact ⟨n1, by rw [upd_ne n1]; exact s3 _ _ e1⟩
      · rw [List.getElem?_append_right (by omega)] at e
        have : i - qs.length = 0 := by
          cases h : i - qs.length with
          | zero => rfl
          | succ z =>
            rw [h] at e
            cases e
        rw [this] at e
        cases e
        have : i = k := by omega
        subst this
        exact ⟨xC, by rw [upd_ne xC]; exact ex⟩
    · rintro H1 ⟨s1, qs, eC, lq, hq⟩
      walk_at "go"
      have W1 := hW.mono s1
      refine ⟨C, F'.length, 2 ^ 702, mat (dg g) p F', rfl, ⟨qs, eC, lq, fun i x e => (hq i x e).2⟩, by omega, mm_mat W1.db.dd W1.nd W1.lt W1.nc, bm_6 _ (by omega), fun r k _ _ => mat_size W1.sm F' r k, fun t l H2 s2 et el => ?_⟩
      refine ⟨t, _, rfl, SqT.of et, rfl, _, _, rfl, _, _, rfl, ?_⟩
      have W2 := W1.mono s2
      have s12 := s1.trans s2
      have eqs := eqs_of W2.db.dd (p := p) W2.nd W2.lt W2.nc
      change H2 l = some (.lst ((rw_ F'.length fun k => (bt (mat (dg g) p F') F'.length).1 k F'.length).map V.int)) at el
      clear eC hq et W1 s1 s2
      walk_at "go"
      refine ⟨Pd, _, W2.pu.e, trivial, fun od => ?_⟩
      have fz : (upd H2 Pd (.frz od (.dK (tab lt1 ps p)))) Pd = some (.frz od (.dK (tab lt1 ps p))) := upd_same
      walk_at "go"
      refine ⟨Pd, od, rfl, .inl ⟨_, fz, fun R nR => ?_⟩⟩
      refine dc_keys (key := lt1) (fun _ _ => lt1_inj) (fun _ => sclF (dg g) p F') W2.pu.nd fz (by have := W2.pu.len; omega) nR (fun _ => rfl) ?_ ?_ ?_
      · intro k H3 Q1 hm s3 q1
        walk_at "go"
        exact q1
      · intro k H3 Q1 hm s3 q1
        walk_at "go"
        exact q1 _ (Same.refl _)
      intro J3 s3 eR
      refine ⟨s3 _ _ fz, ?_⟩
      have s4 := frz_back W2.pu.e s3
      have RP := (frz_new nR).2
      have nR2 := (frz_new nR).1
      have eR4 : (upd J3 Pd (.dK (tab lt1 ps p))) R = some (.dK (tab lt1 ps fun _ => sclF (dg g) p F')) := by rw [upd_ne RP]; exact eR
      generalize upd J3 Pd (.dK (tab lt1 ps p)) = J4 at s4 eR4
      have el4 := s4 _ _ el
      clear s3 eR nR fz RP
      dsimp only [List.set]
      walk_at "go"
      have lR : l ≠ R := fun z => by rw [z, eR4] at el4; cases el4
      refine ⟨S (pT F'), true, l, _, rfl, SqL.of el4, ?_⟩
      refine for_gen (n := F'.length) (fun k σ J => Same H2 J ∧ J R = some (.dK (tab lt1 ps fun i => if i ∈ F'.take k then shrF (dg g) p F' i else sclF (dg g) p F')) ∧ ∃ v3 v7, σ = [some (.ref D), some (.ref Pd), some (.str (S (pT F'))), v3, some (.ref l), some (.int (sclF (dg g) p F')), some (.ref R), v7]) ⟨s4, ?_, none, none, rfl⟩ ?_ ?_ ?_ ?_
      · rw [eR4]
        exact congrArg _ (congrArg _ (tab_congr fun i _ => by rw [List.take_zero, if_neg List.not_mem_nil]))
      · rintro k σ J hk ⟨sJ, _⟩
        exact ⟨_, _, .int _, pT_cps hk, SqL.of (sJ _ _ el), by rw [List.getElem?_map, rw_at hk]; rfl⟩
      · rintro σ J ⟨sJ, _⟩
        exact ⟨_, SqL.of (sJ _ _ el), .inl (by rw [pT_sz]; exact Nat.le_refl _), by rw [pT_sz]; exact Nat.le_refl _, by rw [List.length_map, rw_len]; exact Nat.le_refl _⟩
      · rintro k σ J x J' hk ⟨sJ, eRJ, v3, v7, rfl⟩ ⟨T, c, y, rfl, nT, rfl, ec, hy⟩
        rw [pT_cps hk] at ec
        cases ec
        have hy := hy _ (SqL.of (sJ _ _ el))
        rw [List.getElem?_map, rw_at hk] at hy
        cases hy
        have sT := same_new (o := .tup [.str ⟨#[97 + F'.getD k 0]⟩, .int ((bt (mat (dg g) p F') F'.length).1 k F'.length)]) nT
        have eT : (upd J T (.tup [.str ⟨#[97 + F'.getD k 0]⟩, .int ((bt (mat (dg g) p F') F'.length).1 k F'.length)])) T = some (.tup [.str ⟨#[97 + F'.getD k 0]⟩, .int ((bt (mat (dg g) p F') F'.length).1 k F'.length)]) := upd_same
        have eR2 := sT _ _ eRJ
        generalize upd J T (.tup [.str ⟨#[97 + F'.getD k 0]⟩, .int ((bt (mat (dg g) p F') F'.length).1 k F'.length)]) = J' at sT eT eR2
        refine ⟨T, _, rfl, SqT.of eT, rfl, _, _, rfl, _, _, rfl, ?_⟩
        walk_at "go"
        have fm := getD_mem hk
        have dp := DPut.k (k := Sum.inr (lt1 (F'.getD k 0))) (v := .int ((bt (mat (dg g) p F') F'.length).1 k F'.length)) eR2 (by rw [tab_len]; exact szlt (by have := hW.pu.len; omega))
        rw [tab_put (fun _ _ => lt1_inj), if_pos (hW.fp _ fm)] at dp
        refine ⟨R, _, rfl, dp, Z.Same.mut (sJ.trans sT) nR2, ?_, _, _, rfl⟩
        rw [upd_same]
        refine congrArg _ (congrArg _ (tab_congr fun i hi => ?_))
        have tk : F'.take (k + 1) = F'.take k ++ [F'.getD k 0] := by
          rw [List.take_succ, List.getElem?_eq_getElem hk, List.getD_eq_getElem?_getD, List.getElem?_eq_getElem hk]
          rfl
        rw [tk]
        by_cases e : i = F'.getD k 0
        · rw [if_pos e, if_pos (List.mem_append.mpr (.inr (List.mem_singleton.mpr e))), e]
          unfold shrF
          rw [if_pos fm, ix_getD hW.nd hk]
        · rw [if_neg e]
          by_cases m : i ∈ F'.take k
          · rw [if_pos m, if_pos (List.mem_append.mpr (.inl m))]
          · rw [if_neg m, if_neg fun z => (List.mem_append.mp z).elim m fun w => e (List.mem_singleton.mp w)]
      · rintro σ J ⟨sJ, eRJ, v3, v7, rfl⟩
        walk_at "go"
        intro T nT
        refine q T R _ (s12.trans (sJ.trans (same_new nT))) (none_of s12 nR2) upd_same ?_
        rw [same_new nT _ _ eRJ]
        refine congrArg _ (congrArg _ (tab_congr fun i hi => ?_))
        rw [List.take_of_length_le (Nat.le_refl _)]
        by_cases m : i ∈ F'
        · rw [if_pos m]
        · rw [if_neg m]
          exact (if_neg m).symm
end
end Z
set_option pp.maxSteps 700
set_option Elab.async false
set_option linter.all false
set_option maxRecDepth 100000
set_option maxHeartbeats 4000000
set_option exponentiation.threshold 5000
open SX (S S_inj S_len S_cat)
namespace Z
open Cl
open PySem PySem.Spec PyProof.Rows L2
open C8 (pss_cut tCut)
local macro_rules | `(tactic| walk_at "num") => `(tactic| first | rfl | omega | decide | exact Nat.le_of_lt (small1000 (by simp)) | exact ⟨by omega, by omega⟩ | exact ⟨by omega, by omega, by omega⟩ | exact ⟨by decide, by decide, by decide⟩ | exact Or.inl ⟨by omega, by omega⟩ | exact Or.inr ⟨by omega, by omega⟩)
local macro_rules | `(tactic| walk_at "go") => `(tactic| repeat (first | refine ⟨_, rfl, ?_⟩ | refine ⟨_, _, rfl, rfl, ?_⟩ | refine ⟨_, _, rfl, ?_⟩ | (refine ⟨_, _, rfl, rfl, ?_, ?_⟩; focus walk_at "num") | refine Or.inl ⟨_, rfl, ?_⟩ | refine ⟨_, _, _, _, rfl, rfl, (by assumption), (by rfl), ?_⟩ | refine ⟨_, _, _, _, _, rfl, (by assumption), (by assumption), (by assumption), (by rfl), ?_⟩ | refine ⟨rfl, ?_⟩ | (refine And.intro ?_ ?_; focus walk_at "num")))
abbrev s_short_parties : Stmt := topS 27
abbrev N_short_parties : List Str := ["debts", "purses", "shares", "scale", "found", "party"]
abbrev P_short_parties : List Str := ["debts", "purses", "shares", "scale"]
theorem sc_short_parties : FnScope N_short_parties P_short_parties (defScope s_short_parties) := ⟨rfl, rfl, rfl, by decide +kernel, rfl, by decide +kernel, by decide +kernel⟩
abbrev s_collapse : Stmt := topS 28
abbrev N_collapse : List Str := ["debts", "purses", "failing", "waves", "shares", "scale", "fresh"]
abbrev P_collapse : List Str := ["debts", "purses"]
theorem sc_collapse : FnScope N_collapse P_collapse (defScope s_collapse) := ⟨rfl, rfl, rfl, by decide +kernel, rfl, by decide +kernel, by decide +kernel⟩
theorem abc_at : ∀ i, i < 6 → (Str.ofString "abcdef").cps[i]? = some (97 + i) := by decide +kernel
theorem abc_sz : (Str.ofString "abcdef").cps.size = 6 := by decide +kernel
theorem owe_out {H : Hp} {D Pd : Addr} {ks ps F : List Nat} {g p : Nat → Int} (h : Wh H D Pd ks ps F g p) {i : Nat} (n : i ∉ ps) : owe (dg g) i = 0 := by
  unfold owe
  rw [sg_congr (h := fun _ => 0) fun j hj => ?_, sg_zero]
  unfold dg
  split
  · rename_i z
    refine h.db.z _ fun m => n ?_
    have := (h.kp _ m).1
    rwa [show (6 * i + j) / 6 = i by omega] at this
  · rfl
theorem frs_ps {H : Hp} {D Pd : Addr} {ks ps F : List Nat} {g p : Nat → Int} (h : Wh H D Pd ks ps F g p) (iv : Iv (dg g) p F) {i : Nat} (m : i ∈ frs (dg g) p F) : i ∈ ps := by
  apply Classical.byContradiction
  intro n
  obtain ⟨h1, h2, h3⟩ := mem_frs.mp m
  rw [owe_out h n, h.pu.z i n] at h3
  have := rcv_nn h.db.dd (s := shrF (dg g) p F) (fun j _ => iv.nn h.db.dd j) i
  omega
theorem pT_app (F G : List Nat) : S (pT F) ++ S (pT G) = S (pT (F ++ G)) := by
  rw [S_cat]
  unfold pT
  rw [List.map_append]
theorem pT_inj {F G : List Nat} (h : S (pT F) = S (pT G)) : F = G := by
  have := S_inj h
  unfold pT at this
  exact (List.map_inj_right (fun a b e => by omega)).mp this
theorem owe_bg {g : Nat → Int} (h : ∀ k, (g k).natAbs < 2 ^ 250) (i : Nat) : (owe (dg g) i).natAbs < 2 ^ 253 := by
  have := sg6_size (f := dg g i) (A := 2 ^ 250 - 1) fun j _ => by have := dg_sm h i j; omega
  have c : 6 * (2 ^ 250 - 1) < 2 ^ 253 := by decide
  unfold owe
  omega
section
variable {P : Program} {w : World} {K : PySem.W.Frag} {mg : Str → Option Value} {base : Heap} {f : Addr} {fd : FuncData}
theorem Wh.kp1 {H : Hp} {D Pd : Addr} {ks ps F : List Nat} {g p : Nat → Int} (h : Wh H D Pd ks ps F g p) : ∀ k ∈ ks, k / 6 ∈ ps := fun k m => (h.kp k m).1
def spShp : Sp := fun vs H Q _ => ∃ (D Pd S' : Addr) (ks ps F : List Nat) (g p : Nat → Int), vs = [.ref D, .ref Pd, .ref S', .int (sclF (dg g) p F)] ∧ Wh H D Pd ks ps F g p ∧ Iv (dg g) p F ∧ D ≠ S' ∧ H S' = some (.dK (tab lt1 ps (shrF (dg g) p F))) ∧ ∀ H', Same H H' → Q (.str (S (pT (frs (dg g) p F)))) H'
theorem ok_short_parties (F : FnP K "short_parties" s_short_parties f fd) (tok_PARTIES : Tok) (g_PARTIES : mg "PARTIES" = some (.str "abcdef" tok_PARTIES)) (c_debt_of : Cal P w K mg base 1 "debt_of" spOwe) (c_received : Cal P w K mg base 1 "received" spRcv) : FnOk P w K mg base CX0 2 f fd P_short_parties spShp := by
  refine F.ok sc_short_parties (fun vs H Q E h => ?_) (fun cdv A outer s H vs Q E hr h => ?_)
  · obtain ⟨D, Pd, S', ks, ps, F', g, p, rfl, _⟩ := h
    rfl
  · obtain ⟨D, Pd, S', ks, ps, F', g, p, rfl, hW, iv, DS, eS, q⟩ := h
    refine ⟨_, PSs.nox (pss_cons (ps_set (i := 4) sc_short_parties.nd rfl (by first | exact .inl rfl | exact .inr rfl) pe_str)
      (pss_cons (ps_for PassesOwn.never rfl (pi_str (pe_glob (by rfl) g_PARTIES (relv_str (x := "abcdef")))) (pg_name (i := 5) sc_short_parties.nd rfl (by first | exact .inl rfl | exact .inr rfl))
        (pss_one (ps_if (PW.pt (pw_and (pt_cmp (pc_din (hu_of hr) (pv 5) (pv 1)) (by rfl)) (pw_and1 (pt_cmpR op_eq (pe_dget (hu_of hr) (pv 2) (pv 5) (fun _ _ => rfl)) (pv 3) (nomark _))))) (pss_one (ps_if (pt_cmpR op_lt (pe_op op_add (pe_op op_mulW (pe_dget (hu_of hr) (pv 1) (pv 5) (fun _ _ => rfl)) (pv 3)) (pe_cl c_received hr (by decide) (by rfl) (pa_cons (pv 0) (pa_cons (pv 2) (pa_cons (pv 5) pa_nil))))) (pe_op op_mulW (pe_cl c_debt_of hr (by decide) (by rfl) (pa_cons (pv 0) (pa_cons (pv 5) pa_nil))) (pv 3)) (nomark _)) (pss_one (ps_set (i := 4) sc_short_parties.nd rfl (by first | exact .inl rfl | exact .inr rfl) (pe_op op_add_str (pv 4) (pv 5)))) pss_nil)) pss_nil)))
      (pss_one (ps_ret (pv 4))))), ?_⟩
    obtain ⟨b1, b2⟩ := hW.bg
    have scp := (iv.eqs hW.db.dd).pos
    rw [show L2.start N_short_parties [V.ref D, V.ref Pd, V.ref S', V.int (sclF (dg g) p F')] = [some (V.ref D), some (V.ref Pd), some (V.ref S'), some (V.int (sclF (dg g) p F')), none, none] from rfl]
    walk_at "go"
    refine for_gen (n := 6) (fun i σ J => Same H J ∧ ∃ v5, σ = [some (.ref D), some (.ref Pd), some (.ref S'), some (.int (sclF (dg g) p F')), some (.str (S (pT ((List.range i).filter fun j => decide (j ∈ frs (dg g) p F'))))), v5]) ⟨Same.refl _, none, rfl⟩ ?_ ?_ ?_ ?_
    · rintro i σ J hi _
      show i < (Str.ofString "abcdef").cps.size
      rw [abc_sz]
      exact hi
    · rintro σ J _
      show (Str.ofString "abcdef").cps.size ≤ 6
      rw [abc_sz]
      exact Nat.le_refl _
    · rintro i σ J x J' hi ⟨s1, v5, rfl⟩ ⟨rfl, c, ec, rfl⟩
      rw [abc_at i hi] at ec
      cases ec
      have W1 := hW.mono s1
      have eS1 := s1 _ _ eS
      have no : i ∉ frs (dg g) p F' → S (pT ((List.range (i + 1)).filter fun j => decide (j ∈ frs (dg g) p F'))) = S (pT ((List.range i).filter fun j => decide (j ∈ frs (dg g) p F'))) := fun n => by
        rw [List.range_succ, List.filter_append, List.filter_cons_of_neg (by rw [decide_eq_true_eq]; exact n), List.filter_nil, List.append_nil]
      have yes : i ∈ frs (dg g) p F' → S (pT ((List.range (i + 1)).filter fun j => decide (j ∈ frs (dg g) p F'))) = S (pT ((List.range i).filter fun j => decide (j ∈ frs (dg g) p F'))) ++ (⟨#[97 + i]⟩ : Str) := fun m => by
        rw [List.range_succ, List.filter_append, List.filter_cons_of_pos (p := fun j => decide (j ∈ Cl.frs (dg g) p F')) (decide_eq_true m), List.filter_nil, ← pT_app]
        rfl
      walk_at "go"
      have dP : DGet J' Pd (.str (lt1 i)) (if i ∈ ps then some (.int (p i)) else none) := .inl ⟨tab lt1 ps p, Sum.inr (lt1 i), .inl W1.pu.e, rfl, by rw [tab_val (fun _ _ => lt1_inj)]⟩
      refine ⟨Pd, _, rfl, dP, ?_⟩
      walk_at "go"
      by_cases mp : i ∈ ps
      · rw [if_pos mp]
        refine iteT ?_
        walk_at "go"
        refine ⟨S', _, rfl, tab_get (key := lt1) (fun _ _ => lt1_inj) eS1 mp, ?_⟩
        walk_at "go"
        refine ite2 (fun e => ?_) (fun e => ?_)
        · have e : shrF (dg g) p F' i = sclF (dg g) p F' := by
            have e := of_decide_eq_true e
            injection e
          have nF : i ∉ F' := fun m => by
            have := (iv.sh i m).2
            omega
          walk_at "go"
          refine ⟨Pd, _, rfl, tab_get (key := lt1) (fun _ _ => lt1_inj) W1.pu.e mp, ?_⟩
          walk_at "go"
          refine ⟨wide_mul (hW.sm.p i) b1 (by decide) (by decide) (by decide), ?_⟩
          walk_at "go"
          refine ⟨D, S', ks, ps, g, shrF (dg g) p F', i, rfl, W1.db, eS1, DS, hi, W1.kp1, hW.sm.g, b2, fun H2 s2 => ?_⟩
          walk_at "go"
          refine ⟨D, ks, g, i, rfl, W1.db.mono s2, hi, fun H3 s3 => ?_⟩
          walk_at "go"
          refine ⟨wide_mul (owe_bg hW.sm.g i) b1 (by decide) (by decide) (by decide), ?_⟩
          walk_at "go"
          refine ite2 (fun l => ?_) (fun l => ?_)
          · have m : i ∈ Cl.frs (dg g) p F' := mem_frs.mpr ⟨hi, nF, of_decide_eq_true l⟩
            walk_at "go"
            refine ⟨szl ?_, ?_⟩
            · rw [pT_len]
              show _ + 1 ≤ 2000
              have := List.length_filter_le (fun j => decide (j ∈ Cl.frs (dg g) p F')) (List.range i)
              rw [List.length_range] at this
              omega
            · rw [← yes m]
              exact ⟨s1.trans (s2.trans s3), _, rfl⟩
          · have m : i ∉ Cl.frs (dg g) p F' := fun m => l (decide_eq_true (mem_frs.mp m).2.2)
            rw [no m]
            exact ⟨s1.trans (s2.trans s3), _, rfl⟩
        · have m : i ∉ Cl.frs (dg g) p F' := fun m => e (decide_eq_true (by rw [(iv.eqs hW.db.dd).off i (mem_frs.mp m).2.1]))
          rw [no m]
          exact ⟨s1, _, rfl⟩
      · rw [if_neg mp]
        refine iteF ?_
        rw [no fun m => mp (frs_ps hW iv m)]
        exact ⟨s1, _, rfl⟩
    · rintro σ J ⟨s1, v5, rfl⟩
      walk_at "go"
      have : (List.range 6).filter (fun j => decide (j ∈ Cl.frs (dg g) p F')) = Cl.frs (dg g) p F' := by
        have e : ∀ j, decide (j ∈ Cl.frs (dg g) p F') = decide (j < 6 ∧ j ∉ F' ∧ p j * sclF (dg g) p F' + Cl.rcv (dg g) (shrF (dg g) p F') j < owe (dg g) j * sclF (dg g) p F') := fun j => decide_eq_decide.mpr mem_frs
        rw [List.filter_congr fun j _ => e j]
        unfold Cl.frs
        exact List.filter_congr fun j hj => decide_eq_decide.mpr ⟨fun h => h.2, fun h => ⟨List.mem_range.mp hj, h⟩⟩
      rw [this]
      exact q J s1
/-- the waves as texts -/
def wvT (ws : List (List Nat)) : List V := ws.map fun F => V.str (S (pT F))
def spCol : Sp := fun vs H Q _ => ∃ (D Pd : Addr) (ks ps : List Nat) (g p : Nat → Int), vs = [.ref D, .ref Pd] ∧ Wh H D Pd ks ps [] g p ∧
  ∀ (t S' w : Addr) H', Same H H' → H S' = none → H' t = some (.tup [.ref S', .int (sclF (dg g) p (fin (dg g) p)), .ref w]) → H' S' = some (.dK (tab lt1 ps (shrF (dg g) p (fin (dg g) p)))) → H' w = some (.tup (wvT (wav (dg g) p 7 []))) → (∀ k ∈ fin (dg g) p, k ∈ ps) → Q (.ref t) H'
theorem ok_collapse (F : FnP K "collapse" s_collapse f fd) (m_tuple : mg "tuple" = none) (c_shares_when : Cal P w K mg base 3 "shares_when" spSwh) (c_short_parties : Cal P w K mg base 2 "short_parties" spShp) : FnOk P w K mg base CX0 4 f fd P_collapse spCol := by
  refine F.ok sc_collapse (fun vs H Q E h => ?_) (fun cdv A outer s H vs Q E hr h => ?_)
  · obtain ⟨D, Pd, ks, ps, g, p, rfl, _⟩ := h
    rfl
  · obtain ⟨D, Pd, ks, ps, g, p, rfl, hW, q⟩ := h
    refine ⟨_, PSs.nox (pss_cons (ps_par (i := 2) (j := 3) (by rfl) sc_collapse.nd rfl rfl (by decide) rfl rfl (pa_cons pe_str (pa_cons (pe_lst pa_nil) pa_nil)) (by rfl))
      (pss_cons (ps_asg (pe_cl c_shares_when hr (by decide) (by rfl) (pa_cons (pv 0) (pa_cons (pv 1) (pa_cons (pv 2) pa_nil)))) (pg_tup rfl (pgs_cons (pg_name (i := 4) sc_collapse.nd rfl (by first | exact .inl rfl | exact .inr rfl)) (pgs_cons (pg_name (i := 5) sc_collapse.nd rfl (by first | exact .inl rfl | exact .inr rfl)) pgs_nil))))
      (pss_cons (ps_set (i := 6) sc_collapse.nd rfl (by first | exact .inl rfl | exact .inr rfl) (pe_cl c_short_parties hr (by decide) (by rfl) (pa_cons (pv 0) (pa_cons (pv 1) (pa_cons (pv 4) (pa_cons (pv 5) pa_nil))))))
      (pss_cons (ps_while PassesOwn.never (pt_cmpR op_ne (pv 6) pe_str (nomark _))
        (pss_cons (ps_expr (pe_bm PySem.F.plainAttrs_list PySem.F.slot_list_append PySem.F.type_list_append mt_append (pv 3) (pa_cons (pv 6) pa_nil)))
      (pss_cons (ps_set (i := 2) sc_collapse.nd rfl (by first | exact .inl rfl | exact .inr rfl) (pe_op op_add_str (pv 2) (pv 6)))
      (pss_cons (ps_asg (pe_cl c_shares_when hr (by decide) (by rfl) (pa_cons (pv 0) (pa_cons (pv 1) (pa_cons (pv 2) pa_nil)))) (pg_tup rfl (pgs_cons (pg_name (i := 4) sc_collapse.nd rfl (by first | exact .inl rfl | exact .inr rfl)) (pgs_cons (pg_name (i := 5) sc_collapse.nd rfl (by first | exact .inl rfl | exact .inr rfl)) pgs_nil))))
      (pss_one (ps_set (i := 6) sc_collapse.nd rfl (by first | exact .inl rfl | exact .inr rfl) (pe_cl c_short_parties hr (by decide) (by rfl) (pa_cons (pv 0) (pa_cons (pv 1) (pa_cons (pv 4) (pa_cons (pv 5) pa_nil)))))))))))
      (pss_one (ps_ret (pe_tup (pa_cons (pv 4) (pa_cons (pv 5) (pa_cons (pe_callTy call_tuple_of (by rfl) m_tuple (by decide +kernel) (pa_cons (pv 3) pa_nil)) pa_nil)))))))))), ?_⟩
    rw [show L2.start N_collapse [V.ref D, V.ref Pd] = [some (.ref D), some (.ref Pd), none, none, none, none, none] from rfl]
    have hd := hW.db.dd
    have hp := hW.pu.nn
    walk_at "go"
    intro L nL
    have sL := same_new (o := .lst []) nL
    have eL : (upd H L (.lst [])) L = some (.lst []) := upd_same
    generalize upd H L (.lst []) = H1 at sL eL
    walk_at "go"
    dsimp only [List.set]
    refine ⟨D, Pd, ks, ps, [], g, p, rfl, hW.mono sL, fun t S1 H2 s2 nS et eS => ?_⟩
    refine ⟨t, _, rfl, SqT.of et, rfl, _, _, rfl, _, _, rfl, ?_⟩
    have e0 : Str.ofString "" = S (pT []) := by decide +kernel
    have DS : D ≠ S1 := (ne_of_none (sL _ _ hW.db.e) nS)
    rw [e0]
    walk_at "go"
    dsimp only [List.set]
    refine ⟨D, Pd, S1, ks, ps, [], g, p, rfl, (hW.mono sL).mono s2, iv_nil _ _, DS, eS, fun H3 s3 => ?_⟩
    have nLH : H L = none := nL
    have s12 := sL.trans s2
    have eL3 := s3 _ _ (s2 _ _ eL)
    have eS3 := s3 _ _ eS
    have s13 := s12.trans s3
    have nSH := none_of sL nS
    clear eL eS et s2 s3 s12 nS
    show tSeq _ _ _ _ _
    refine while_by (fun σ J => Same H J ∧ ∃ (F : List Nat) (ws : List (List Nat)) (n : Nat) (S' : Addr), Iv (dg g) p F ∧ (∀ i ∈ F, i ∈ ps) ∧ ws ++ wav (dg g) p n F = wav (dg g) p 7 [] ∧ F = ws.flatten ∧ 6 < F.length + n ∧ H S' = none ∧ J S' = some (.dK (tab lt1 ps (shrF (dg g) p F))) ∧ J L = some (.lst (wvT ws)) ∧ σ = [some (.ref D), some (.ref Pd), some (.str (S (pT F))), some (.ref L), some (.ref S'), some (.int (sclF (dg g) p F)), some (.str (S (pT (Cl.frs (dg g) p F))))]) (fun σ _ => match σ with | [_, _, some (.str z), _, _, _, _] => 6 - z.length | _ => 0) ⟨s13, [], [], 7, S1, iv_nil _ _, fun i m => (List.not_mem_nil m).elim, rfl, rfl, by decide, nSH, eS3, eL3, rfl⟩ ?_ ?_
    · rintro σ J ⟨sJ, F1, ws, n, S2, iv, fp, ew, ef, ln, nS2, eS2, eL2, rfl⟩
      have WJ : Wh J D Pd ks ps F1 g p := ⟨hW.db.mono sJ, hW.pu.mono sJ, hW.ne, hW.sm, iv.nd, fp, iv.nc, hW.kp⟩
      have l1 := WJ.l6
      have fps : ∀ i ∈ F1 ++ Cl.frs (dg g) p F1, i ∈ ps := fun i m => (List.mem_append.mp m).elim (fp i) fun z => frs_ps WJ iv z
      obtain ⟨iv2, _⟩ := iv_step hd hp iv
      have l2 : (F1 ++ Cl.frs (dg g) p F1).length ≤ 6 := nd_len6 iv2.nd iv2.lt
      obtain ⟨m, rfl⟩ : ∃ m, n = m + 1 := ⟨n - 1, by omega⟩
      walk_at "go"
      refine ite2 (fun ne => ?_) (fun ne => ?_)
      · have ne : Cl.frs (dg g) p F1 ≠ [] := fun z => by
          rw [z, decide_eq_true rfl] at ne
          exact absurd ne (by decide)
        have ewv : wav (dg g) p (m + 1) F1 = Cl.frs (dg g) p F1 :: wav (dg g) p m (F1 ++ Cl.frs (dg g) p F1) := if_neg ne
        walk_at "go"
        refine ⟨.inl ⟨rfl, _, SqL.of eL2⟩, ?_⟩
        walk_at "go"
        have lw : ws.length ≤ 7 := by
          have e := congrArg List.length ew
          rw [List.length_append] at e
          have : ∀ n F, (wav (dg g) p n F).length ≤ n := fun n => by
            induction n with
            | zero => intro F; exact Nat.le_refl _
            | succ n ih =>
              intro F
              unfold wav
              split
              · exact Nat.zero_le _
              · have := ih (F ++ Cl.frs (dg g) p F)
                rw [List.length_cons]
                omega
          have := this 7 []
          omega
        refine ⟨L, _, _, rfl, rfl, eL2, by unfold wvT; rw [List.length_map]; exact szlt (by omega), ?_⟩
        have s2 := Z.Same.mut (o := .lst (wvT ws ++ [.str (S (pT (Cl.frs (dg g) p F1)))])) sJ nLH
        have eL3 : (upd J L (.lst (wvT ws ++ [.str (S (pT (Cl.frs (dg g) p F1)))]))) L = some (.lst (wvT (ws ++ [Cl.frs (dg g) p F1]))) := by
          rw [upd_same]
          unfold wvT
          rw [List.map_append]
          rfl
        generalize upd J L (.lst (wvT ws ++ [.str (S (pT (Cl.frs (dg g) p F1)))])) = J2 at s2 eL3
        clear eS2 eL2 sJ WJ
        walk_at "go"
        refine ⟨by rw [pT_len, pT_len]; rw [List.length_append] at l2; exact szl (by omega), ?_⟩
        rw [pT_app]
        walk_at "go"
        dsimp only [List.set]
        have W2 : Wh J2 D Pd ks ps (F1 ++ Cl.frs (dg g) p F1) g p := ⟨hW.db.mono s2, hW.pu.mono s2, hW.ne, hW.sm, iv2.nd, fps, iv2.nc, hW.kp⟩
        refine ⟨D, Pd, ks, ps, _, g, p, rfl, W2, fun t S3 J3 s3 nS3 et eS3 => ?_⟩
        refine ⟨t, _, rfl, SqT.of et, rfl, _, _, rfl, _, _, rfl, ?_⟩
        walk_at "go"
        dsimp only [List.set]
        have DS3 : D ≠ S3 := ne_of_none W2.db.e nS3
        refine ⟨D, Pd, S3, ks, ps, _, g, p, rfl, W2.mono s3, iv2, DS3, eS3, fun J4 s4 => ?_⟩
        dsimp only [List.set]
        refine ⟨⟨s2.trans (s3.trans s4), F1 ++ Cl.frs (dg g) p F1, ws ++ [Cl.frs (dg g) p F1], m, S3, iv2, fps, ?_, ?_, ?_, none_of s2 nS3, s4 _ _ eS3, s4 _ _ (s3 _ _ eL3), rfl⟩, ?_⟩
        · rw [← ew, ewv, List.append_assoc]
          rfl
        · rw [List.flatten_append, ← ef]
          simp
        · rw [List.length_append]
          have := List.length_pos_iff.mpr ne
          omega
        · show 6 - (S (pT (F1 ++ Cl.frs (dg g) p F1))).length < 6 - (S (pT F1)).length
          rw [pT_len, pT_len]
          rw [List.length_append] at l2 ⊢
          have := List.length_pos_iff.mpr ne
          omega
      · have e : Cl.frs (dg g) p F1 = [] := by
          apply Classical.byContradiction
          intro z
          refine ne ?_
          have : ¬ V.str (S (pT (Cl.frs (dg g) p F1))) = V.str (S (pT [])) := fun w => z (pT_inj (V.str.inj w))
          rw [decide_eq_false this]
          rfl
        have ewv : wav (dg g) p (m + 1) F1 = [] := if_pos e
        rw [ewv, List.append_nil] at ew
        have efin : F1 = fin (dg g) p := by
          unfold fin
          rw [← ew]
          exact ef
        walk_at "go"
        refine ⟨L, _, rfl, .inl ⟨SqL.of eL2, fun w nw => ?_⟩⟩
        have s2 := same_new (o := .tup (wvT ws)) nw
        have ew2 : (upd J w (.tup (wvT ws))) w = some (.tup (wvT ws)) := upd_same
        have eS3 := s2 _ _ eS2
        generalize upd J w (.tup (wvT ws)) = J2 at s2 ew2 eS3
        walk_at "go"
        intro t nt
        have s3 := same_new (o := .tup [.ref S2, .int (sclF (dg g) p F1), .ref w]) nt
        rw [efin] at s3 fp ⊢
        rw [efin] at eS3
        rw [ew] at ew2
        exact q t S2 w _ (sJ.trans (s2.trans s3)) nS2 upd_same (s3 _ _ eS3) (s3 _ _ ew2) fp
    · rintro σ J Q1 Q2 h12 ⟨v, e, h1, k, e2, h2⟩
      exact ⟨v, e, h1, k, e2, h12 _ _ h2⟩
end
end Z
set_option pp.maxSteps 700
set_option Elab.async false
set_option linter.all false
set_option maxRecDepth 100000
set_option maxHeartbeats 4000000
set_option exponentiation.threshold 5000
open SX (S S_inj S_len S_cat)
namespace Z
open Cl
open PySem PySem.Spec PyProof.Rows L2
open C8 (pss_cut tCut)
local macro_rules | `(tactic| walk_at "num") => `(tactic| first | rfl | omega | decide | exact Nat.le_of_lt (small1000 (by simp)) | exact ⟨by omega, by omega⟩ | exact ⟨by omega, by omega, by omega⟩ | exact ⟨by decide, by decide, by decide⟩ | exact Or.inl ⟨by omega, by omega⟩ | exact Or.inr ⟨by omega, by omega⟩)
local macro_rules | `(tactic| walk_at "go") => `(tactic| repeat (first | refine ⟨_, rfl, ?_⟩ | refine ⟨_, _, rfl, rfl, ?_⟩ | refine ⟨_, _, rfl, ?_⟩ | (refine ⟨_, _, rfl, rfl, ?_, ?_⟩; focus walk_at "num") | refine Or.inl ⟨_, rfl, ?_⟩ | refine ⟨_, _, _, _, rfl, rfl, (by assumption), (by rfl), ?_⟩ | refine ⟨_, _, _, _, _, rfl, (by assumption), (by assumption), (by assumption), (by rfl), ?_⟩ | refine ⟨rfl, ?_⟩ | (refine And.intro ?_ ?_; focus walk_at "num")))
abbrev s_check_party : Stmt := topS 10
abbrev N_check_party : List Str := ["party"]
abbrev P_check_party : List Str := ["party"]
theorem sc_check_party : FnScope N_check_party P_check_party (defScope s_check_party) := ⟨rfl, rfl, rfl, by decide +kernel, rfl, by decide +kernel, by decide +kernel⟩
theorem putK_new {kvs : List (Key × V)} {k : Key} {v : V} (h : ∀ kv ∈ kvs, kv.1 ≠ k) : putK kvs k v = kvs ++ [(k, v)] := by
  unfold putK
  rw [if_neg]
  rw [List.any_eq_true]
  rintro ⟨kv, m, e⟩
  exact h kv m (of_decide_eq_true e)
abbrev s_check_purses : Stmt := topS 11
abbrev N_check_purses : List Str := ["purses", "party", "coins"]
abbrev P_check_purses : List Str := ["purses"]
theorem sc_check_purses : FnScope N_check_purses P_check_purses (defScope s_check_purses) := ⟨rfl, rfl, rfl, by decide +kernel, rfl, by decide +kernel, by decide +kernel⟩
abbrev s_checked : Stmt := topS 23
abbrev N_checked : List Str := ["debts", "purses", "found", "party", "pair"]
abbrev P_checked : List Str := ["debts", "purses"]
theorem sc_checked : FnScope N_checked P_checked (defScope s_checked) := ⟨rfl, rfl, rfl, by decide +kernel, rfl, by decide +kernel, by decide +kernel⟩
abbrev s_clear : Stmt := topS 29
abbrev N_clear : List Str := ["debts", "purses", "due", "shares", "scale", "waves", "party", "paid"]
abbrev P_clear : List Str := ["debts", "purses"]
theorem sc_clear : FnScope N_clear P_clear (defScope s_clear) := ⟨rfl, rfl, rfl, by decide +kernel, rfl, by decide +kernel, by decide +kernel⟩
section
variable {P : Program} {w : World} {K : PySem.W.Frag} {mg : Str → Option Value} {base : Heap} {f : Addr} {fd : FuncData}
def spChkP : Sp := fun vs H Q _ => ∃ i : Nat, vs = [.str (lt1 i)] ∧ i < 6 ∧ Q .non H
theorem ok_check_party (F : FnP K "check_party" s_check_party f fd) (c_is_party : Cal P w K mg base 1 "is_party" spParty) : FnOk P w K mg base CX0 2 f fd P_check_party spChkP := by
  refine F.ok sc_check_party (fun vs H Q E h => ?_) (fun cdv A outer s H vs Q E hr h => ?_)
  · obtain ⟨i, rfl, _⟩ := h
    rfl
  · obtain ⟨i, rfl, hi, q⟩ := h
    refine ⟨_, PSs.nox (pss_one (ps_if (pt_not (pt_val (pe_cl c_is_party hr (by decide) (by rfl) (pa_cons (pv 0) pa_nil)))) (pss_one ps_never) pss_nil)), ?_⟩
    walk_at "go"
    exact q
def spChkPs : Sp := fun vs H Q _ => ∃ (Pd : Addr) (ps : List Nat) (p : Nat → Int), vs = [.ref Pd] ∧ Pu H Pd ps p ∧ ∀ H', Same H H' → Q .non H'
theorem ok_check_purses (F : FnP K "check_purses" s_check_purses f fd) (m_list : mg "list" = none) (c_check_party : Cal P w K mg base 2 "check_party" spChkP) : FnOk P w K mg base CX0 3 f fd P_check_purses spChkPs := by
  refine F.ok sc_check_purses (fun vs H Q E h => ?_) (fun cdv A outer s H vs Q E hr h => ?_)
  · obtain ⟨Pd, ps, p, rfl, _⟩ := h
    rfl
  · obtain ⟨d, ps, p, rfl, hP, q⟩ := h
    refine ⟨_, PSs.nox (pss_cons (ps_lock (ps_for PassesOwn.never rfl (pi_keys (pv 0)) (pg_name (i := 1) sc_check_purses.nd rfl (by first | exact .inl rfl | exact .inr rfl))
        (pss_one (ps_expr (pe_cl c_check_party hr (by decide) (by rfl) (pa_cons (pv 1) pa_nil))))))
      (pss_one (ps_for PassesOwn.never rfl (pi_list (pe_listVals rfl (pv 0) (by rfl) m_list (by decide +kernel))) (pg_name (i := 2) sc_check_purses.nd rfl (by first | exact .inl rfl | exact .inr rfl))
        (pss_one (ps_if (pt_cmpR op_lt (pv 2) pe_int (nomark _)) (pss_one ps_never) pss_nil))))), ?_⟩
    have hd := hP.e
    have lp := hP.len
    walk_at "go"
    refine ⟨d, _, hd, trivial, fun od => ?_⟩
    have fz : (upd H d (.frz od (.dK (tab lt1 ps p)))) d = some (.frz od (.dK (tab lt1 ps p))) := upd_same
    have sb : SB d H (upd H d (.frz od (.dK (tab lt1 ps p)))) := fun b o n e => by rw [upd_ne n]; exact e
    generalize upd H d (.frz od (.dK (tab lt1 ps p))) = J at fz sb
    walk_at "go"
    refine ⟨d, od, rfl, .inl ⟨_, fz, ?_⟩⟩
    refine for_gen (n := ps.length) (fun i σ J1 => J1 = J ∧ ∃ v1 v2, σ = [some (.ref d), v1, v2]) ⟨rfl, _, _, rfl⟩ ?_ ?_ ?_ ?_
    · rintro i σ J1 hi ⟨rfl, _⟩
      exact ⟨fz, by rw [tab_len]; exact hi⟩
    · rintro σ J1 ⟨rfl, _⟩
      exact ⟨fz, by rw [tab_len]; exact Nat.le_refl _⟩
    · rintro i σ J1 x J2 hi ⟨rfl, v1, v2, rfl⟩ ⟨rfl, k, v, e, rfl⟩
      rw [tab_at hi] at e
      cases e
      have hk1 := hP.ok _ (List.getElem_mem hi)
      generalize ps[i] = k at hk1
      walk_at "go"
      exact ⟨_, _, rfl⟩
    rintro σ J1 ⟨rfl, v1, v2, rfl⟩
    walk_at "go"
    have s1 : Same H (upd J1 d (.dK (tab lt1 ps p))) := fun a o e => by
      by_cases c : a = d
      · subst c
        rw [upd_same, ← hd, e]
      · rw [upd_ne c]
        exact sb a o c e
    have hd1 : (upd J1 d (.dK (tab lt1 ps p))) d = some (.dK (tab lt1 ps p)) := upd_same
    generalize upd J1 d (.dK (tab lt1 ps p)) = J3 at s1 hd1
    walk_at "go"
    refine ⟨d, _, rfl, hd1, fun l nl => ?_⟩
    have s2 := s1.trans (same_new (o := .lst ((tab lt1 ps p).map (·.2))) nl)
    have el : (upd J3 l (.lst ((tab lt1 ps p).map (·.2)))) l = some (.lst (ps.map fun k => V.int (p k))) := by
      rw [upd_same]
      unfold tab
      rw [List.map_map]
      rfl
    generalize upd J3 l (.lst ((tab lt1 ps p).map (·.2))) = J4 at s2 el
    walk_at "go"
    refine ⟨⟨_, SqL.of el⟩, ?_⟩
    refine for_gen (n := ps.length) (fun i σ J1 => J1 = J4 ∧ ∃ v1 v2, σ = [some (.ref d), v1, v2]) ⟨rfl, _, _, rfl⟩ ?_ ?_ ?_ ?_
    · rintro i σ J1 hi ⟨rfl, _⟩
      exact ⟨_, .int (p ps[i]), SqL.of el, by rw [List.getElem?_map, List.getElem?_eq_getElem hi]; rfl⟩
    · rintro σ J1 ⟨rfl, _⟩
      exact ⟨_, SqL.of el, by rw [List.length_map]; exact Nat.le_refl _⟩
    · rintro i σ J1 x J2 hi ⟨rfl, v1, v2, rfl⟩ ⟨rfl, hx⟩
      have hx := hx _ (SqL.of el)
      rw [List.getElem?_map, List.getElem?_eq_getElem hi] at hx
      cases hx
      have g0 := (hP.ok _ (List.getElem_mem hi)).2
      walk_at "go"
      refine ite2 (fun e => ?_) (fun e => ?_)
      · have e : p ps[i] < 0 := of_decide_eq_true e
        exact absurd e (by omega)
      · exact ⟨rfl, _, _, rfl⟩
    · rintro σ J1 ⟨rfl, v1, v2, rfl⟩
      exact q _ s2
/-- debts and purses that may be cleared -/
structure Cb (H : Hp) (D Pd : Addr) (ks ps : List Nat) (g p : Nat → Int) : Prop where
  db : Db H D ks g
  pu : Pu H Pd ps p
  ne : D ≠ Pd
  sm : Sm g p
  kp : ∀ k ∈ ks, 0 < g k → k / 6 ∈ ps ∧ k % 6 ∈ ps
theorem Cb.mono {H H' : Hp} {D Pd : Addr} {ks ps : List Nat} {g p : Nat → Int} (h : Cb H D Pd ks ps g p) (s : Same H H') : Cb H' D Pd ks ps g p := ⟨h.db.mono s, h.pu.mono s, h.ne, h.sm, h.kp⟩
def spChd : Sp := fun vs H Q _ => ∃ (D Pd : Addr) (ks ps : List Nat) (g p : Nat → Int), vs = [.ref D, .ref Pd] ∧ Cb H D Pd ks ps g p ∧ ∀ (d : Addr) (js : List Nat) H', Same H H' → H d = none → Wh H' d Pd js ps [] g p → Q (.ref d) H'
theorem ok_checked (F : FnP K "checked" s_checked f fd) (m_any : mg "any" = none) (tok_PARTIES : Tok) (g_PARTIES : mg "PARTIES" = some (.str "abcdef" tok_PARTIES)) (c_check_debts : Cal P w K mg base 3 "check_debts" spCheck) (c_check_purses : Cal P w K mg base 3 "check_purses" spChkPs) (c_tidy : Cal P w K mg base 1 "tidy" spTidy) : FnOk P w K mg base CX0 4 f fd P_checked spChd := by
  refine F.ok sc_checked (fun vs H Q E h => ?_) (fun cdv A outer s H vs Q E hr h => ?_)
  · obtain ⟨D, Pd, ks, ps, g, p, rfl, _⟩ := h
    rfl
  · obtain ⟨D, Pd, ks, ps, g, p, rfl, hC, q⟩ := h
    refine ⟨_, PSs.nox (pss_cons (ps_expr (pe_cl c_check_debts hr (by decide) (by rfl) (pa_cons (pv 0) pa_nil)))
      (pss_cons (ps_expr (pe_cl c_check_purses hr (by decide) (by rfl) (pa_cons (pv 1) pa_nil)))
      (pss_cons (ps_set (i := 2) sc_checked.nd rfl (by first | exact .inl rfl | exact .inr rfl) (pe_cl c_tidy hr (by decide) (by rfl) (pa_cons (pv 0) pa_nil)))
      (pss_cons (ps_for PassesOwn.never rfl (pi_str (pe_glob (by rfl) g_PARTIES (relv_str (x := "abcdef")))) (pg_name (i := 3) sc_checked.nd rfl (by first | exact .inl rfl | exact .inr rfl))
        (pss_one (ps_if (PW.pt (pw_and (pt_cmp (pc_dnotin (hu_of hr) (pv 3) (pv 1)) (by rfl)) (pw_and1 (pt_val (pe_callB (cr_any rfl) (by rfl) m_any (by decide +kernel) (pa_cons (pe_lock (pe_lc (own := [("pair", 4)]) (g := (gName 4)) (tt := tYes) (by rfl) sc_checked.nd (pi_keys (pv 2)) (blkOk_by (own := [("pair", 4)]) (N := N_checked) (sc := defScope s_checked) (by decide +kernel)) (fun _ _ _ _ _ => (pg_name (i := 4) sc_checked.nd rfl (by first | exact .inl rfl | exact .inr rfl))) (fun _ _ _ _ _ => pts_nil) (fun _ _ _ _ _ => (pe_cmpR op_in_sign (pv 3) (pv 4) (by rfl))))) pa_nil)))))) (pss_one ps_never) pss_nil)))
      (pss_one (ps_ret (pv 2))))))), ?_⟩
    rw [show L2.start N_checked [V.ref D, V.ref Pd] = [some (.ref D), some (.ref Pd), none, none, none] from rfl]
    have ll := hC.db.len
    walk_at "go"
    refine ⟨D, ks, g, rfl, hC.db.e, hC.db.ok, by omega, fun H1 s1 => ?_⟩
    walk_at "go"
    have C1 := hC.mono s1
    refine ⟨Pd, ps, p, rfl, C1.pu, fun H2 s2 => ?_⟩
    walk_at "go"
    have C2 := C1.mono s2
    refine ⟨D, ks, g, rfl, C2.db.e, C2.db.nd, by omega, fun d js H3 s3 ja jm nd ed => ?_⟩
    have C3 := C2.mono s3
    have jsub : ∀ k ∈ js, k ∈ ks := fun k m => ((jm k).mp m).1
    have hD3 : Db H3 d js g := ⟨ed, ja.imp fun h => Nat.ne_of_lt h, fun k m => C2.db.ok k (jsub k m), fun k n => by
      by_cases m : k ∈ ks
      · have := (C2.db.ok k m).2
        have : ¬ 0 < g k := fun z => n ((jm k).mpr ⟨m, z⟩)
        omega
      · exact C2.db.z k m⟩
    have kp : ∀ k ∈ js, k / 6 ∈ ps ∧ k % 6 ∈ ps := fun k m => hC.kp k (jsub k m) ((jm k).mp m).2
    have s13 := s1.trans (s2.trans s3)
    have lj := hD3.len
    dsimp only [List.set]
    walk_at "go"
    refine for_gen (n := 6) (fun i σ J => Same H3 J ∧ ∃ v3 v4, σ = [some (.ref D), some (.ref Pd), some (.ref d), v3, v4]) ⟨Same.refl _, none, none, rfl⟩ ?_ ?_ ?_ ?_
    · rintro i σ J hi _
      show i < (Str.ofString "abcdef").cps.size
      rw [abc_sz]
      exact hi
    · rintro σ J _
      show (Str.ofString "abcdef").cps.size ≤ 6
      rw [abc_sz]
      exact Nat.le_refl _
    · rintro i σ J x J' hi ⟨s4, v3, v4, rfl⟩ ⟨rfl, c, ec, rfl⟩
      rw [abc_at i hi] at ec
      cases ec
      have dP : DGet J' Pd (.str (lt1 i)) (if i ∈ ps then some (.int (p i)) else none) := .inl ⟨tab lt1 ps p, Sum.inr (lt1 i), .inl (C3.mono s4).pu.e, rfl, by rw [tab_val (fun _ _ => lt1_inj)]⟩
      walk_at "go"
      refine ⟨Pd, _, rfl, dP, ?_⟩
      by_cases mp : i ∈ ps
      · rw [if_pos mp]
        walk_at "go"
        exact ⟨_, _, rfl⟩
      · rw [if_neg mp]
        walk_at "go"
        refine ⟨d, _, s4 _ _ ed, trivial, fun od => ?_⟩
        have fz : (upd J' d (.frz od (.dK (tab ky js g)))) d = some (.frz od (.dK (tab ky js g))) := upd_same
        walk_at "go"
        refine ⟨d, od, rfl, .inl ⟨_, fz, fun C nC => ?_⟩⟩
        refine lc_keys (fun _ => true) (fun _ => .bl false) fz (by omega) nC (fun _ => rfl) ?_ ?_ ?_
        · intro k H4 Q1 hm s5 q1
          exact q1
        · intro k H4 Q1 hm _ s5 q1
          walk_at "go"
          have e : decide (97 + i ∈ (ky k).cps.toList) = false := by
            refine decide_eq_false fun z => ?_
            have z : 97 + i ∈ (kyL k).toArray.toList := z
            rw [List.toList_toArray] at z
            unfold kyL at z
            have h6 := kp k hm
            simp only [List.mem_cons, List.not_mem_nil, or_false] at z
            rcases z with z | z
            · exact mp (by rw [show i = k / 6 by omega]; exact h6.1)
            · exact mp (by rw [show i = k % 6 by omega]; exact h6.2)
          rw [e]
          exact q1
        intro J2 s5 eC
        refine ⟨s5 _ _ fz, ?_⟩
        have s6 := frz_back (s4 _ _ ed) s5
        have CD := (frz_new nC).2
        have eC3 : (upd J2 d (.dK (tab ky js g))) C = some (.lst (js.map fun _ => V.bl false)) := by
          rw [upd_ne CD, eC, List.filter_eq_self.mpr fun _ _ => rfl]
        generalize upd J2 d (.dK (tab ky js g)) = J3 at s6 eC3
        walk_at "go"
        refine ⟨C, js.map fun _ => false, rfl, by rw [List.map_map]; exact SqL.of eC3, ?_⟩
        have ea : (js.map fun _ => false).any id = false := by
          rw [List.any_eq_false]
          intro b hb
          obtain ⟨_, _, e⟩ := List.mem_map.mp hb
          rw [← e]
          decide
        rw [ea]
        walk_at "go"
        exact ⟨s4.trans s6, _, _, rfl⟩
    · rintro σ J ⟨s4, v3, v4, rfl⟩
      walk_at "go"
      exact q d js J (s13.trans s4) (none_of (s1.trans s2) nd) ⟨hD3.mono s4, (C3.mono s4).pu, (ne_of_none C2.pu.e nd).symm, hC.sm, List.nodup_nil, fun i m => (List.not_mem_nil m).elim, (iv_nil _ (p)).nc, kp⟩
/-- what is paid: pairs in lowest terms -/
def PaD (H : Hp) (a : Addr) (ps : List Nat) (x y : Nat → Nat) : Prop := ∃ ta : Nat → Addr, H a = some (.dK (ps.map fun i => (Sum.inr (lt1 i), V.ref (ta i)))) ∧ ∀ i ∈ ps, H (ta i) = some (.tup [.int (x i : Int), .int (y i : Int)])
theorem PaD.mono {H H' : Hp} {a : Addr} {ps : List Nat} {x y : Nat → Nat} (s : Same H H') (h : PaD H a ps x y) : PaD H' a ps x y := by
  obtain ⟨ta, h1, h2⟩ := h
  exact ⟨ta, s _ _ h1, fun i m => s _ _ (h2 i m)⟩
def spClr : Sp := fun vs H Q _ => ∃ (D Pd : Addr) (ks ps : List Nat) (g p : Nat → Int), vs = [.ref D, .ref Pd] ∧ Cb H D Pd ks ps g p ∧
  ∀ (t a w : Addr) H', Same H H' → H a = none → H' t = some (.tup [.ref a, .ref w]) → PaD H' a ps (pyX (dg g) p) (pyY (dg g) p) → H' w = some (.tup (wvT (wav (dg g) p 7 []))) → (∀ k ∈ fin (dg g) p, k ∈ ps) → Q (.ref t) H'
theorem ok_clear (F : FnP K "clear" s_clear f fd) (c_checked : Cal P w K mg base 4 "checked" spChd) (c_collapse : Cal P w K mg base 4 "collapse" spCol) (c_debt_of : Cal P w K mg base 1 "debt_of" spOwe) (c_lowest_terms : Cal P w K mg base 2 "lowest_terms" spLow) : FnOk P w K mg base CX0 5 f fd P_clear spClr := by
  refine F.ok sc_clear (fun vs H Q E h => ?_) (fun cdv A outer s H vs Q E hr h => ?_)
  · obtain ⟨D, Pd, ks, ps, g, p, rfl, _⟩ := h
    rfl
  · obtain ⟨D, Pd, ks, ps, g, p, rfl, hC, q⟩ := h
    refine ⟨_, PSs.nox (pss_cons (ps_set (i := 2) sc_clear.nd rfl (by first | exact .inl rfl | exact .inr rfl) (pe_cl c_checked hr (by decide) (by rfl) (pa_cons (pv 0) (pa_cons (pv 1) pa_nil))))
      (pss_cons (ps_asg (pe_cl c_collapse hr (by decide) (by rfl) (pa_cons (pv 2) (pa_cons (pv 1) pa_nil))) (pg_tup rfl (pgs_cons (pg_name (i := 3) sc_clear.nd rfl (by first | exact .inl rfl | exact .inr rfl)) (pgs_cons (pg_name (i := 4) sc_clear.nd rfl (by first | exact .inl rfl | exact .inr rfl)) (pgs_cons (pg_name (i := 5) sc_clear.nd rfl (by first | exact .inl rfl | exact .inr rfl)) pgs_nil)))))
      (pss_cons (ps_lock (ps_setDc (i := 7) (own := [("party", 6)]) (g := (gName 6)) (tt := tYes) (by rfl) sc_clear.nd rfl rfl (sw_trueD rfl rfl rfl (by decide +kernel)) (pi_keys (pv 1)) (blkOk_by (own := [("party", 6)]) (N := N_clear) (sc := defScope s_clear) (by decide +kernel)) (fun _ _ _ _ _ => (pg_name (i := 6) sc_clear.nd rfl (by first | exact .inl rfl | exact .inr rfl))) (fun _ _ _ _ _ => pts_nil) (fun _ _ _ _ _ => (pv 6)) (fun _ _ _ _ _ => (pe_cl c_lowest_terms hr (by decide) (by rfl) (pa_cons (pe_op op_mulW (pe_cl c_debt_of hr (by decide) (by rfl) (pa_cons (pv 2) (pa_cons (pv 6) pa_nil))) (pe_dget (hu_of hr) (pv 3) (pv 6) (fun _ _ => rfl))) (pa_cons (pv 4) pa_nil))))))
      (pss_one (ps_ret (pe_tup (pa_cons (pv 7) (pa_cons (pv 5) pa_nil)))))))), ?_⟩
    rw [show L2.start N_clear [V.ref D, V.ref Pd] = [some (.ref D), some (.ref Pd), none, none, none, none, none, none] from rfl]
    have lp := hC.pu.len
    walk_at "go"
    refine ⟨D, Pd, ks, ps, g, p, rfl, hC, fun d js H1 s1 nd W1 => ?_⟩
    walk_at "go"
    dsimp only [List.set]
    refine ⟨d, Pd, js, ps, g, p, rfl, W1, fun t S' wv H2 s2 nS et eS ew fp => ?_⟩
    refine ⟨t, _, rfl, SqT.of et, rfl, _, _, rfl, _, _, rfl, _, _, rfl, ?_⟩
    have W2 := W1.mono s2
    have s12 := s1.trans s2
    have hd := W2.db.dd
    have hp := W2.pu.nn
    have iv := fin_iv hd hp
    have WF : Wh H2 d Pd js ps (fin (dg g) p) g p := ⟨W2.db, W2.pu, W2.ne, W2.sm, iv.nd, fp, iv.nc, W2.kp⟩
    obtain ⟨b1, b2⟩ := WF.bg
    have scp := (iv.eqs hd).pos
    have esc : sclF (dg g) p (fin (dg g) p) = ((pyS (dg g) p : Nat) : Int) := by unfold pyS; omega
    have epn : ∀ i, owe (dg g) i * shrF (dg g) p (fin (dg g) p) i = ((pyN (dg g) p i : Nat) : Int) := fun i => by
      have := Int.mul_nonneg (owe_nn hd i) (iv.nn hd i)
      unfold pyN
      omega
    have PS : Pd ≠ S' := (ne_of_none W1.pu.e nS)
    walk_at "go"
    refine ⟨Pd, _, W2.pu.e, trivial, fun od => ?_⟩
    have fz : (upd H2 Pd (.frz od (.dK (tab lt1 ps p)))) Pd = some (.frz od (.dK (tab lt1 ps p))) := upd_same
    have eSz : (upd H2 Pd (.frz od (.dK (tab lt1 ps p)))) S' = some (.dK (tab lt1 ps (shrF (dg g) p (fin (dg g) p)))) := by rw [upd_ne PS.symm]; exact eS
    have hdz : Db (upd H2 Pd (.frz od (.dK (tab lt1 ps p)))) d js g := ⟨by rw [upd_ne W2.ne]; exact W2.db.e, W2.db.nd, W2.db.ok, W2.db.z⟩
    walk_at "go"
    refine ⟨Pd, od, rfl, .inl ⟨_, fz, fun R nR => ?_⟩⟩
    generalize eHz : upd H2 Pd (.frz od (.dK (tab lt1 ps p))) = Hz at fz eSz hdz nR
    refine dc_gen (J := Itk Pd od (tab lt1 ps p)) (n := ps.length) (fun k J => Same Hz J ∧ ∃ ta : Nat → Addr, J R = some (.dK ((ps.take k).map fun i => (Sum.inr (lt1 i), V.ref (ta i)))) ∧ ∀ i ∈ ps.take k, ta i ≠ R ∧ J (ta i) = some (.tup [.int (pyX (dg g) p i : Int), .int (pyY (dg g) p i : Int)])) ⟨same_new nR, fun _ => 0, upd_same, fun i m => by rw [List.take_zero] at m; cases m⟩ ?_ ?_ ?_ ?_
    · rintro k J hk ⟨sJ, _⟩
      exact ⟨sJ _ _ fz, by rw [tab_len]; exact hk⟩
    · rintro J ⟨sJ, _⟩
      exact ⟨sJ _ _ fz, by rw [tab_len]; exact Nat.le_refl _⟩
    · rintro k J x J2 hk ⟨sJ, ta, eR, ht⟩ ⟨rfl, kk, z, e, rfl⟩
      rw [tab_at hk] at e
      cases e
      have tk' : ps.take (k + 1) = ps.take k ++ [ps[k]] := by rw [List.take_succ, List.getElem?_eq_getElem hk]; rfl
      have nin : ps[k] ∉ ps.take k := fun z => by
        obtain ⟨j, hj, ej⟩ := List.getElem_of_mem z
        rw [List.length_take] at hj
        rw [List.getElem_take] at ej
        have := (List.getElem_inj W2.pu.nd).mp ej
        omega
      have hm := List.getElem_mem hk
      have ll : (ps.take k).length ≤ 1000 := by rw [List.length_take]; omega
      rw [tk']
      generalize ps[k] = c at hm nin
      have hc6 := (W2.pu.ok c hm).1
      refine ⟨rfl, ?_⟩
      walk_at "go"
      refine ⟨d, js, g, c, rfl, hdz.mono sJ, hc6, fun J3 s3 => ?_⟩
      walk_at "go"
      refine ⟨S', _, rfl, tab_get (key := lt1) (fun _ _ => lt1_inj) (s3 _ _ (sJ _ _ eSz)) hm, ?_⟩
      walk_at "go"
      refine ⟨wide_mul (owe_bg W2.sm.g c) (b2 c) (by decide) (by decide) (by decide), ?_⟩
      walk_at "go"
      refine ⟨pyN (dg g) p c, pyS (dg g) p, by show [V.int (owe (dg g) c * shrF (dg g) p (fin (dg g) p) c), V.int (sclF (dg g) p (fin (dg g) p))] = _; rw [epn, esc], by omega, by rw [← esc]; exact b1, fun q' J4 s4 nq eq4 => ?_⟩
      have qR : q' ≠ R := (ne_of_none (s3 _ _ eR) nq).symm
      refine ⟨_, Sum.inr (lt1 c), rfl, s4 _ _ (s3 _ _ eR), by rw [List.length_map]; exact szlt (by omega), Z.Same.mut (sJ.trans (s3.trans s4)) nR, fun i => if i = c then q' else ta i, ?_, fun i m => ?_⟩
      · rw [upd_same, putK_new fun kv hkv e => ?_, List.map_append]
        · refine congrArg _ (congrArg _ ?_)
          have e1 : ((ps.take k).map fun i => ((Sum.inr (lt1 i) : Key), V.ref (ta i))) = (ps.take k).map fun i => (Sum.inr (lt1 i), V.ref (if i = c then q' else ta i)) := List.map_congr_left fun i hi => by rw [if_neg fun e => nin (by rw [← e]; exact hi)]
          rw [e1]
          show _ ++ [(Sum.inr (lt1 c), V.ref q')] = _ ++ [(Sum.inr (lt1 c), V.ref (if c = c then q' else ta c))]
          rw [if_pos rfl]
        · obtain ⟨i, hi, rfl⟩ := List.mem_map.mp hkv
          have : i = c := lt1_inj (Sum.inr.inj e)
          exact nin (by rw [← this]; exact hi)
      · show (if i = c then q' else ta i) ≠ R ∧ _
        rcases List.mem_append.mp m with m | m
        · have ne : i ≠ c := fun e => nin (by rw [← e]; exact m)
          obtain ⟨n1, e1⟩ := ht i m
          simp only [if_neg ne]
          exact ⟨n1, by rw [upd_ne n1]; exact s4 _ _ (s3 _ _ e1)⟩
        · have e : i = c := List.mem_singleton.mp m
          subst e
          simp only [if_true]
          exact ⟨qR, by rw [upd_ne qR]; exact eq4⟩
    · rintro J ⟨sJ, ta, eR, ht⟩
      rw [List.take_of_length_le (Nat.le_refl _)] at eR ht
      subst eHz
      dsimp only [List.set]
      have fzJ := sJ _ _ fz
      refine ⟨fzJ, ?_⟩
      have s4 := frz_back W2.pu.e sJ
      have RP := (frz_new nR).2
      have nR2 := (frz_new nR).1
      have eR4 : (upd J Pd (.dK (tab lt1 ps p))) R = some (.dK (ps.map fun i => (Sum.inr (lt1 i), V.ref (ta i)))) := by rw [upd_ne RP]; exact eR
      have ht4 : ∀ i ∈ ps, (upd J Pd (.dK (tab lt1 ps p))) (ta i) = some (.tup [.int (pyX (dg g) p i : Int), .int (pyY (dg g) p i : Int)]) := fun i m => by
        have e := (ht i m).2
        rw [upd_ne (fun z => by rw [z, fzJ] at e; cases e)]
        exact e
      generalize upd J Pd (.dK (tab lt1 ps p)) = J4 at s4 eR4 ht4
      walk_at "go"
      intro t2 nt2
      have s5 := same_new (o := .tup [.ref R, .ref wv]) nt2
      exact q t2 R wv _ (s12.trans (s4.trans s5)) (none_of s12 nR2) upd_same ⟨ta, s5 _ _ eR4, fun i m => s5 _ _ (ht4 i m)⟩ (s5 _ _ (s4 _ _ ew)) fp
end
end Z
set_option pp.maxSteps 700
set_option Elab.async false
set_option linter.all false
set_option maxRecDepth 100000
set_option maxHeartbeats 4000000
set_option exponentiation.threshold 5000
open SX (S S_inj S_len S_cat)
namespace Z
open Cl
open PySem PySem.Spec PyProof.Rows L2
open C8 (pss_cut tCut)
local macro_rules | `(tactic| walk_at "num") => `(tactic| first | rfl | omega | decide | exact Nat.le_of_lt (small1000 (by simp)) | exact ⟨by omega, by omega⟩ | exact ⟨by omega, by omega, by omega⟩ | exact ⟨by decide, by decide, by decide⟩ | exact Or.inl ⟨by omega, by omega⟩ | exact Or.inr ⟨by omega, by omega⟩)
local macro_rules | `(tactic| walk_at "go") => `(tactic| repeat (first | refine ⟨_, rfl, ?_⟩ | refine ⟨_, _, rfl, rfl, ?_⟩ | refine ⟨_, _, rfl, ?_⟩ | (refine ⟨_, _, rfl, rfl, ?_, ?_⟩; focus walk_at "num") | refine Or.inl ⟨_, rfl, ?_⟩ | refine ⟨_, _, _, _, rfl, rfl, (by assumption), (by rfl), ?_⟩ | refine ⟨_, _, _, _, _, rfl, (by assumption), (by assumption), (by assumption), (by rfl), ?_⟩ | refine ⟨rfl, ?_⟩ | (refine And.intro ?_ ?_; focus walk_at "num")))
abbrev s_purses : Stmt := topS 39
abbrev N_purses : List Str := ["_law_draws_here", "_law_place", "_law_parties_here", "_law_scale", "_law_base_here", "_law_debts_here", "_law_purses_here", "_law_turn", "_law_k", "_law_party", "_law_draw", "_law_coins_here", "_law_lap", "_law_pair", "_law_named"]
abbrev P_purses : List Str := ["_law_draws_here", "_law_place", "_law_parties_here", "_law_scale", "_law_base_here", "_law_debts_here"]
theorem sc_purses : FnScope N_purses P_purses (defScope s_purses) := ⟨rfl, rfl, rfl, by decide +kernel, rfl, by decide +kernel, by decide +kernel⟩
theorem Pu.put {H J : Hp} {D : Addr} {us : List Nat} {p : Nat → Int} (d : Pu H D us p) {x : Nat} (hx : x < 6) {c : Int} (c0 : 0 ≤ c) : Pu (upd J D (.dK (putK (tab lt1 us p) (Sum.inr (lt1 x)) (.int c)))) D (if x ∈ us then us else us ++ [x]) (fun j => if j = x then c else p j) where
  e := by rw [upd_same, tab_put (fun _ _ => lt1_inj)]
  nd := by
    split
    · exact d.nd
    · rename_i n
      exact List.nodup_append.mpr ⟨d.nd, by simp, fun a ha b hb z => n (by rw [← List.mem_singleton.mp hb, ← z]; exact ha)⟩
  ok := fun j hj => by
    by_cases e : j = x
    · subst e
      rw [if_pos rfl]
      exact ⟨hx, c0⟩
    · rw [if_neg e]
      refine d.ok j ?_
      split at hj
      · exact hj
      · rcases List.mem_append.mp hj with hj | hj
        · exact hj
        · exact absurd (List.mem_singleton.mp hj) e
  z := fun j hj => by
    have e : j ≠ x := fun e => by
      subst e
      split at hj
      · exact hj (by assumption)
      · exact hj (List.mem_append.mpr (.inr (List.mem_singleton.mpr rfl)))
    rw [if_neg e]
    refine d.z j fun m => hj ?_
    split
    · exact m
    · exact List.mem_append.mpr (.inl m)
theorem Pu.dput {H : Hp} {D : Addr} {us : List Nat} {p : Nat → Int} (d : Pu H D us p) (x : Nat) (c : Int) : DPut H D (.str (lt1 x)) (.int c) (upd H D (.dK (putK (tab lt1 us p) (Sum.inr (lt1 x)) (.int c)))) := DPut.k (k := Sum.inr (lt1 x)) (v := .int c) d.e (by rw [tab_len]; exact szlt (by have := d.len; omega))
/-- the purses made so far -/
def PrI (K : PySem.W.Frag) (a q0 : Addr) (ds : List Int) (n : Nat) (H : Hp) (D : Addr) (ks : List Nat) (g : Nat → Int) (Pd : Addr) (ps : List Nat) (tn i : Nat) (J : Hp) : Prop := Tk K a q0 ds n H J ∧ Db J D ks g ∧ ∃ (us : List Nat) (p : Nat → Int), Pu J Pd us p ∧ (∀ i, p i ≤ 10 ^ 200) ∧ (∀ k, k < i → (∃ c ∈ ks, 0 < g c ∧ (c / 6 = ps.getD ((k + tn) % ps.length) 0 ∨ c % 6 = ps.getD ((k + tn) % ps.length) 0)) → ps.getD ((k + tn) % ps.length) 0 ∈ us) ∧ ∀ i ∈ us, i ∈ ps
section
variable {P : Program} {w : World} {K : PySem.W.Frag} {mg : Str → Option Value} {base : Heap} {f : Addr} {fd : FuncData}
def spPrs (K : PySem.W.Frag) : Sp := fun vs H Q _ => ∃ (a q : Addr) (n : Nat) (ds : List Int) (ps : List Nat) (sc ba : Int) (D : Addr) (ks : List Nat) (g : Nat → Int), vs = [.ref a, .ref q, .str (S (pT ps)), .int sc, .int ba, .ref D] ∧ Tk K a q ds n H H ∧ ps.Nodup ∧ (∀ x ∈ ps, x < 6) ∧ 2 ≤ ps.length ∧ ps.length ≤ 6 ∧ 0 ≤ ba ∧ ba ≤ 10 ^ 60 - 3 ∧ Db H D ks g ∧ (∀ k ∈ ks, k / 6 ∈ ps ∧ k % 6 ∈ ps) ∧ D ≠ q ∧
  ∀ Pd us (p : Nat → Int) H', Tk K a q ds n H H' → H Pd = none → Pu H' Pd us p → (∀ i, p i ≤ 10 ^ 200) → (∀ k ∈ ks, 0 < g k → k / 6 ∈ us ∧ k % 6 ∈ us) → (∀ i ∈ us, i ∈ ps) → Q (.ref Pd) H'
theorem ok_purses (F : FnP K "_law_purses" s_purses f fd) (m_int : mg "int" = none) (m_len : mg "len" = none) (m_range : mg "range" = none) (c_take : Cal P w K mg base 1 "_law_take" (spTake K)) (c_coins : Cal P w K mg base 3 "_law_coins" (spCoins K)) : FnOk P w K mg base CX0 4 f fd P_purses (spPrs K) := by
  refine F.ok sc_purses (fun vs H Q E h => ?_) (fun cdv A outer s H vs Q E hr h => ?_)
  · obtain ⟨a, q, n, ds, ps, sc, ba, D, ks, g, rfl, _⟩ := h
    rfl
  · obtain ⟨a, q0, n, ds, ps, sc, ba, D, ks, g, rfl, hT, nd, p6, l2, l6, b0, b1, hD, kps, Dq, q⟩ := h
    refine ⟨_, PSs.nox (pss_cons (ps_set (i := 6) sc_purses.nd rfl (by first | exact .inl rfl | exact .inr rfl) pe_dnewK)
      (pss_cons (ps_set (i := 7) sc_purses.nd rfl (by first | exact .inl rfl | exact .inr rfl) (pe_op op_mod (pe_callTy call_int1 (by rfl) m_int (by decide +kernel) (pa_cons (pe_cl c_take hr (by decide) (by rfl) (pa_cons (pv 0) (pa_cons (pv 1) pa_nil))) pa_nil)) (pe_callB call_len_str (by rfl) m_len PySem.boot_len (pa_cons (pv 2) pa_nil))))
      (pss_cons (ps_for PassesOwn.never rfl (pi_range1 (by rfl) m_range (pa_cons (pe_callB call_len_str (by rfl) m_len PySem.boot_len (pa_cons (pv 2) pa_nil)) pa_nil)) (pg_name (i := 8) sc_purses.nd rfl (by first | exact .inl rfl | exact .inr rfl))
        (pss_cons (ps_set (i := 9) sc_purses.nd rfl (by first | exact .inl rfl | exact .inr rfl) (pe_ix ix_str (pv 2) (pe_op op_mod (pe_callTy call_int1 (by rfl) m_int (by decide +kernel) (pa_cons (pe_op op_add (pv 8) (pv 7)) pa_nil)) (pe_callB call_len_str (by rfl) m_len PySem.boot_len (pa_cons (pv 2) pa_nil))) (fun _ _ => rfl)))
      (pss_cons (ps_set (i := 10) sc_purses.nd rfl (by first | exact .inl rfl | exact .inr rfl) (pe_cl c_take hr (by decide) (by rfl) (pa_cons (pv 0) (pa_cons (pv 1) pa_nil))))
      (pss_cons (ps_set (i := 11) sc_purses.nd rfl (by first | exact .inl rfl | exact .inr rfl) (pe_cl c_coins hr (by decide) (by rfl) (pa_cons (pv 0) (pa_cons (pv 1) (pa_cons (pv 3) (pa_cons (pv 4) pa_nil))))))
      (pss_cut (ps_if (pt_cmpR op_lt (pe_op op_mod (pe_callTy call_int1 (by rfl) m_int (by decide +kernel) (pa_cons (pv 10) pa_nil)) pe_int) pe_int (nomark _)) (pss_one (ps_set (i := 11) sc_purses.nd rfl (by first | exact .inl rfl | exact .inr rfl) pe_int)) pss_nil)
      (pss_cut (ps_if (pt_cmpR op_eq (pe_op op_mod (pe_callTy call_int1 (by rfl) m_int (by decide +kernel) (pa_cons (pv 10) pa_nil)) pe_int) pe_int (nomark _)) (pss_one (ps_set (i := 11) sc_purses.nd rfl (by first | exact .inl rfl | exact .inr rfl) (pe_op op_mod (pe_callTy call_int1 (by rfl) m_int (by decide +kernel) (pa_cons (pe_op op_fdiv (pv 10) pe_int) pa_nil)) pe_int))) pss_nil)
      (pss_cut (ps_if (pt_cmpR op_eq (pe_op op_mod (pe_callTy call_int1 (by rfl) m_int (by decide +kernel) (pa_cons (pe_op op_fdiv (pv 10) pe_int) pa_nil)) pe_int) pe_int (nomark _)) (pss_one (ps_set (i := 11) sc_purses.nd rfl (by first | exact .inl rfl | exact .inr rfl) (pe_op op_sub (pe_op op_mulW (pe_op op_mulW (pe_op op_mulW (pe_op op_pow pe_int pe_int) (pe_op op_pow pe_int pe_int)) (pe_op op_pow pe_int pe_int)) (pe_op op_pow pe_int pe_int)) (pv 11)))) pss_nil)
      (pss_cut (ps_if (pt_cmpR op_eq (pe_op op_mod (pe_callTy call_int1 (by rfl) m_int (by decide +kernel) (pa_cons (pe_op op_fdiv (pv 10) pe_int) pa_nil)) pe_int) pe_int (nomark _)) (pss_cons (ps_set (i := 11) sc_purses.nd rfl (by first | exact .inl rfl | exact .inr rfl) (pe_op op_sub (pe_op op_pow pe_int pe_int) (pv 11)))
      (pss_one (ps_for PassesOwn.never rfl (pi_range1 (by rfl) m_range (pa_cons (pe_op op_mod (pe_callTy call_int1 (by rfl) m_int (by decide +kernel) (pa_cons (pe_op op_fdiv (pv 10) pe_int) pa_nil)) pe_int) pa_nil)) (pg_name (i := 12) sc_purses.nd rfl (by first | exact .inl rfl | exact .inr rfl))
        (pss_one (ps_set (i := 11) sc_purses.nd rfl (by first | exact .inl rfl | exact .inr rfl) (pe_op op_mulW (pv 11) pe_int)))))) pss_nil)
      (pss_cons (ps_lock (ps_setLc (i := 14) (own := [("_law_pair", 13)]) (g := (gName 13)) (by rfl) sc_purses.nd rfl rfl (sw_true rfl rfl rfl (by decide +kernel)) (pi_keys (pv 5)) (blkOk_by (own := [("_law_pair", 13)]) (N := N_purses) (sc := defScope s_purses) (by decide +kernel)) (fun _ _ _ _ _ => (pg_name (i := 13) sc_purses.nd rfl (by first | exact .inl rfl | exact .inr rfl))) (fun _ _ _ _ _ => (pts_one (PW.pt (pw_and (pt_cmpR op_in_sign (pv 9) (pv 13) (by rfl)) (pw_and1 (pt_cmpR op_gt (pe_dget (hu_of hr) (pv 5) (pv 13) (fun _ _ => rfl)) pe_int (nomark _))))))) (fun _ _ _ _ _ => (pv 13))))
      (pss_one (ps_if (PW.pt (pw_or (pt_cmpR op_gt (pe_callB call_len_seq (by rfl) m_len PySem.boot_len (pa_cons (pv 14) pa_nil)) pe_int (nomark _)) (pw_or1 (pt_cmpR op_gt (pe_op op_mod (pe_callTy call_int1 (by rfl) m_int (by decide +kernel) (pa_cons (pe_op op_fdiv (pv 10) pe_int) pa_nil)) pe_int) pe_int (nomark _))))) (pss_one (ps_dput (hu_of hr) (pv 6) (pv 9) (pv 11) rfl)) pss_nil)))))))))))
      (pss_one (ps_ret (pv 6)))))), ?_⟩
    have pl : (S (pT ps)).length = ps.length := by rw [S_len]; exact List.length_map ..
    have hlen : (S (pT ps)).length ≤ sizeLine := by rw [pl]; exact szl (by omega)
    rw [show L2.start N_purses [V.ref a, V.ref q0, V.str (S (pT ps)), V.int sc, V.int ba, V.ref D] = [some (.ref a), some (.ref q0), some (.str (S (pT ps))), some (.int sc), some (.int ba), some (.ref D), none, none, none, none, none, none, none, none, none] from rfl]
    walk_at "go"
    intro Pd nP
    have sP := same_new (o := .dK []) nP
    have aP : a ≠ Pd := ne_of_none hT.hA nP
    have qP : q0 ≠ Pd := by obtain ⟨m, em⟩ := hT.pl; exact ne_of_none em nP
    have DP : D ≠ Pd := ne_of_none hD.e nP
    have hT1 := hT.more sP
    have u0 : Pu (upd H Pd (.dK [])) Pd [] (fun _ => 0) := ⟨upd_same, List.nodup_nil, fun k m => absurd m (by simp), fun k _ => rfl⟩
    have hD1 := hD.mono sP
    generalize upd H Pd (.dK []) = H1 at hT1 u0 hD1
    obtain ⟨m1, em1⟩ := hT1.pl
    walk_at "go"
    refine ⟨a, q0, n, m1, ds, rfl, SqL.of hT1.hA, hT1.hd, em1, hT1.ne, fun r r0 r1 => ?_⟩
    obtain ⟨hT2, sb2⟩ := hT1.next em1
    have u2 : Pu (upd H1 q0 (.lst [.int ((m1 + 1 : Nat) : Int)])) Pd [] (fun _ => 0) := ⟨sb2 _ _ qP.symm u0.e, u0.nd, u0.ok, u0.z⟩
    have hD2 : Db (upd H1 q0 (.lst [.int ((m1 + 1 : Nat) : Int)])) D ks g := ⟨sb2 _ _ Dq hD1.e, hD1.nd, hD1.ok, hD1.z⟩
    generalize upd H1 q0 (.lst [.int ((m1 + 1 : Nat) : Int)]) = H2 at hT2 u2 hD2
    obtain ⟨tn, etn, htn⟩ : ∃ tn : Nat, r % (ps.length : Int) = (tn : Int) ∧ tn < ps.length := by
      have m0 := Int.emod_nonneg r (show (ps.length : Int) ≠ 0 by omega)
      have m1 := Int.emod_lt_of_pos r (show 0 < (ps.length : Int) by omega)
      exact ⟨(r % (ps.length : Int)).toNat, by omega, by omega⟩
    walk_at "go"
    rw [pl]
    have b200 : (10 : Int) ^ 60 ≤ 10 ^ 200 := by decide
    have surj : ∀ x ∈ ps, ∃ k, k < ps.length ∧ ps.getD ((k + tn) % ps.length) 0 = x := fun x hx => by
      obtain ⟨j, hj, e⟩ := List.getElem_of_mem hx
      by_cases c : tn ≤ j
      · refine ⟨j - tn, by omega, ?_⟩
        rw [show j - tn + tn = j by omega, Nat.mod_eq_of_lt hj, List.getD_eq_getElem?_getD, List.getElem?_eq_getElem hj, e]
        rfl
      · refine ⟨j + ps.length - tn, by omega, ?_⟩
        rw [show j + ps.length - tn + tn = j + ps.length by omega, Nat.add_mod_right, Nat.mod_eq_of_lt hj, List.getD_eq_getElem?_getD, List.getElem?_eq_getElem hj, e]
        rfl
    walk_at "go"
    refine for_gen (n := ps.length) (fun i σ J => PrI K a q0 ds n H D ks g Pd ps tn i J ∧ ∃ (v8 v9 v10 v11 v12 v14 : Option V), σ = [some (.ref a), some (.ref q0), some (.str (S (pT ps))), some (.int sc), some (.int ba), some (.ref D), some (.ref Pd), some (.int (r % (ps.length : Int))), v8, v9, v10, v11, v12, none, v14]) ⟨⟨hT2, hD2, [], _, u2, fun _ => by decide, fun k h => absurd h (by omega), fun i m => absurd m (by simp)⟩, none, none, none, none, none, none, rfl⟩ ?_ ?_ ?_ ?_
    · intro i σ J hi _
      show i < (ps.length : Int).toNat
      omega
    · intro σ J _
      show (ps.length : Int).toNat ≤ ps.length
      omega
    · rintro i σ J x J' hi ⟨⟨hT3, hD3, us, p, u3, pb, cov, uin⟩, v8, v9, v10, v11, v12, v14, rfl⟩ ⟨rfl, rfl⟩
      have hmod : (i + tn) % ps.length < ps.length := Nat.mod_lt _ (by omega)
      have ix : ps[(i + tn) % ps.length]? = some (ps.getD ((i + tn) % ps.length) 0) := by rw [List.getElem?_eq_getElem hmod, List.getD_eq_getElem?_getD, List.getElem?_eq_getElem hmod]; rfl
      have xin : ps.getD ((i + tn) % ps.length) 0 ∈ ps := List.mem_of_getElem? ix
      have x6 := p6 _ xin
      have px : atI (S (pT ps)).cps.toList (((i + tn) % ps.length : Nat) : Int) = some (97 + ps.getD ((i + tn) % ps.length) 0) := by
        have := ps_at hmod
        rw [this, List.getD_eq_getElem?_getD, List.getElem?_eq_getElem hmod]
        rfl
      generalize hx : ps.getD ((i + tn) % ps.length) 0 = x at ix xin x6 px
      walk_at "go"
      rw [pl]
      walk_at "go"
      have em : (0 + (i : Int) + r % (ps.length : Int)) % (ps.length : Int) = (((i + tn) % ps.length : Nat) : Int) := by rw [Int.zero_add, etn]; rfl
      refine ⟨S (pT ps), _, 97 + x, rfl, rfl, hlen, by show atI _ ((0 + (i : Int) + r % (ps.length : Int)) % (ps.length : Int)) = _; rw [em]; exact px, ?_⟩
      walk_at "go"
      obtain ⟨m3, em3⟩ := hT3.pl
      refine ⟨a, q0, n, m3, ds, rfl, SqL.of hT3.hA, hT3.hd, em3, hT3.ne, fun r4 r40 r41 => ?_⟩
      obtain ⟨hT4, sb4⟩ := hT3.next em3
      have u4 : Pu (upd J' q0 (.lst [.int ((m3 + 1 : Nat) : Int)])) Pd us p := ⟨sb4 _ _ qP.symm u3.e, u3.nd, u3.ok, u3.z⟩
      have hD4 : Db (upd J' q0 (.lst [.int ((m3 + 1 : Nat) : Int)])) D ks g := ⟨sb4 _ _ Dq hD3.e, hD3.nd, hD3.ok, hD3.z⟩
      generalize upd J' q0 (.lst [.int ((m3 + 1 : Nat) : Int)]) = J4 at hT4 u4 hD4
      dsimp only [List.set]
      walk_at "go"
      refine ⟨a, q0, n, ds, sc, ba, rfl, hT4.slf, b0, b1, fun c J5 hT5 c0 c1 => ?_⟩
      have u5 : Pu J5 Pd us p := ⟨hT5.sb _ _ qP.symm u4.e, u4.nd, u4.ok, u4.z⟩
      have hD5 : Db J5 D ks g := ⟨hT5.sb _ _ Dq hD4.e, hD4.nd, hD4.ok, hD4.z⟩
      have hT6 := hT4.tr hT5
      clear hT3 hD3 u3 hT4 u4 hD4 hT5 sb4 em3
      dsimp only [List.set]
      walk_at "go"
      -- the coins, step by step
      refine ⟨fun σ J => J = J5 ∧ ∃ c : Int, 0 ≤ c ∧ c ≤ 10 ^ 60 ∧ σ = [some (.ref a), some (.ref q0), some (.str (S (pT ps))), some (.int sc), some (.int ba), some (.ref D), some (.ref Pd), some (.int (r % (ps.length : Int))), some (.int (0 + (i : Int))), some (.str ⟨#[97 + x]⟩), some (.int r4), some (.int c), v12, none, v14], ?_, ?_⟩
      · walk_at "go"
        refine ite2 (fun _ => ?_) (fun _ => ?_)
        · walk_at "go"
          first | exact ⟨_, Int.le_refl _, by decide, rfl⟩ | exact ⟨rfl, _, Int.le_refl _, by decide, rfl⟩
        · first | exact ⟨rfl, c, c0, c1, rfl⟩ | exact ⟨c, c0, c1, rfl⟩
      clear c0 c1 c
      rintro σ J ⟨rfl, c, c0, c1, rfl⟩
      refine ⟨fun σ J' => J' = J ∧ ∃ c : Int, 0 ≤ c ∧ c ≤ 10 ^ 60 ∧ σ = [some (.ref a), some (.ref q0), some (.str (S (pT ps))), some (.int sc), some (.int ba), some (.ref D), some (.ref Pd), some (.int (r % (ps.length : Int))), some (.int (0 + (i : Int))), some (.str ⟨#[97 + x]⟩), some (.int r4), some (.int c), v12, none, v14], ?_, ?_⟩
      · walk_at "go"
        refine ite2 (fun _ => ?_) (fun _ => ?_)
        · walk_at "go"
          first | exact ⟨_, by omega, Int.le_trans (show _ ≤ (4 : Int) by omega) (by decide), rfl⟩ | exact ⟨rfl, _, by omega, Int.le_trans (show _ ≤ (4 : Int) by omega) (by decide), rfl⟩
        · first | exact ⟨rfl, c, c0, c1, rfl⟩ | exact ⟨c, c0, c1, rfl⟩
      clear c0 c1 c
      rintro σ J7 ⟨rfl, c, c0, c1, rfl⟩
      refine ⟨fun σ J' => J' = J7 ∧ ∃ c : Int, 0 ≤ c ∧ c ≤ 10 ^ 200 ∧ (r4 / 5 % 40 = 38 → c ≤ 10 ^ 60) ∧ σ = [some (.ref a), some (.ref q0), some (.str (S (pT ps))), some (.int sc), some (.int ba), some (.ref D), some (.ref Pd), some (.int (r % (ps.length : Int))), some (.int (0 + (i : Int))), some (.str ⟨#[97 + x]⟩), some (.int r4), some (.int c), v12, none, v14], ?_, ?_⟩
      · walk_at "go"
        refine ite2 (fun e => ?_) (fun _ => ?_)
        · walk_at "go"
          refine ⟨wide_mul (a := 200) (b := 200) (by decide +kernel) (by decide +kernel) (by decide) (by decide) (by decide), ?_⟩
          walk_at "go"
          refine ⟨wide_mul (a := 400) (b := 200) (by decide +kernel) (by decide +kernel) (by decide) (by decide) (by decide), ?_⟩
          walk_at "go"
          refine ⟨wide_mul (a := 600) (b := 200) (by decide +kernel) (by decide +kernel) (by decide) (by decide) (by decide), ?_⟩
          walk_at "go"
          have e200 : (10 : Int) ^ Int.toNat 50 * 10 ^ Int.toNat 50 * 10 ^ Int.toNat 50 * 10 ^ Int.toNat 50 = 10 ^ 200 := by decide +kernel
          have e := of_decide_eq_true e
          injection e with e
          refine ⟨(10 : Int) ^ Int.toNat 50 * 10 ^ Int.toNat 50 * 10 ^ Int.toNat 50 * 10 ^ Int.toNat 50 - c, by rw [e200]; omega, by rw [e200]; omega, fun z => ?_, rfl⟩
          omega
        · exact ⟨rfl, c, c0, by omega, fun _ => c1, rfl⟩
      clear c0 c1 c
      rintro σ J8 ⟨rfl, c, c0, c1, c2, rfl⟩
      refine ⟨fun σ J' => J' = J8 ∧ ∃ (c : Int) (v12 : Option V), 0 ≤ c ∧ c ≤ 10 ^ 200 ∧ σ = [some (.ref a), some (.ref q0), some (.str (S (pT ps))), some (.int sc), some (.int ba), some (.ref D), some (.ref Pd), some (.int (r % (ps.length : Int))), some (.int (0 + (i : Int))), some (.str ⟨#[97 + x]⟩), some (.int r4), some (.int c), v12, none, v14], ?_, ?_⟩
      · walk_at "go"
        refine ite2 (fun e => ?_) (fun _ => ?_)
        · have e := of_decide_eq_true e
          injection e with e
          have c2 := c2 e
          walk_at "go"
          have e60 : (10 : Int) ^ Int.toNat 60 = 10 ^ 60 := by decide +kernel
          refine for_gen (n := (r4 / 200 % 141).toNat) (fun k σ J' => J' = J8 ∧ ∃ (c : Int) (v12 : Option V), 0 ≤ c ∧ c ≤ ((10 ^ (60 + k) : Nat) : Int) ∧ σ = [some (.ref a), some (.ref q0), some (.str (S (pT ps))), some (.int sc), some (.int ba), some (.ref D), some (.ref Pd), some (.int (r % (ps.length : Int))), some (.int (0 + (i : Int))), some (.str ⟨#[97 + x]⟩), some (.int r4), some (.int c), v12, none, v14]) ⟨rfl, 10 ^ Int.toNat 60 - c, v12, by rw [e60]; omega, by rw [e60]; exact Int.le_trans (show (10 : Int) ^ 60 - c ≤ 10 ^ 60 by omega) (by decide), rfl⟩ ?_ ?_ ?_ ?_
          · intro k σ J hk _
            exact hk
          · intro σ J _
            exact Nat.le_refl _
          · rintro k σ J x J2 hk ⟨rfl, c, v12, c0, c1, rfl⟩ ⟨rfl, rfl⟩
            have k140 : k ≤ 140 := by omega
            have pw : (10 : Nat) ^ (60 + k) ≤ 10 ^ 200 := Nat.pow_le_pow_right (by decide) (by omega)
            have p7 : (10 : Nat) ^ 200 < 2 ^ 700 := by decide +kernel
            walk_at "go"
            refine ⟨wide_mul (a := 700) (b := 4) (by omega) (by decide) (by decide) (by decide) (by decide), ?_⟩
            refine ⟨rfl, c * 10, _, by omega, ?_, rfl⟩
            rw [show 60 + (k + 1) = 60 + k + 1 by omega, Nat.pow_succ]
            generalize (10 : Nat) ^ (60 + k) = A at c1
            omega
          · rintro σ J ⟨rfl, c, v12, c0, c1, rfl⟩
            have k140 : (r4 / 200 % 141).toNat ≤ 140 := by omega
            have pw : (10 : Nat) ^ (60 + (r4 / 200 % 141).toNat) ≤ 10 ^ 200 := Nat.pow_le_pow_right (by decide) (by omega)
            refine ⟨rfl, c, v12, c0, ?_, rfl⟩
            have e : ((10 ^ 200 : Nat) : Int) = 10 ^ 200 := by decide +kernel
            generalize (10 : Nat) ^ (60 + (r4 / 200 % 141).toNat) = A at c1 pw
            omega
        · exact ⟨rfl, c, v12, c0, c1, rfl⟩
      clear c0 c1 c2 c
      rintro σ J9 ⟨rfl, c, v12, c0, c1, rfl⟩
      walk_at "go"
      have ll := hD5.len
      refine ⟨D, _, hD5.e, trivial, fun od => ?_⟩
      have fz : (upd J9 D (.frz od (.dK (tab ky ks g)))) D = some (.frz od (.dK (tab ky ks g))) := upd_same
      walk_at "go"
      refine ⟨D, od, rfl, .inl ⟨_, fz, fun C nC => ?_⟩⟩
      refine lc_keys (fun k => decide (k / 6 = x ∨ k % 6 = x) && decide (0 < g k)) (fun k => .str (ky k)) fz (by omega) nC (fun _ => rfl) ?_ ?_ ?_
      · intro k H2 Q1 hm s2 q1
        walk_at "go"
        have e : decide (97 + x ∈ (ky k).cps.toList) = decide (k / 6 = x ∨ k % 6 = x) := by
          refine decide_eq_decide.mpr ?_
          show 97 + x ∈ (kyL k).toArray.toList ↔ _
          rw [List.toList_toArray]
          unfold kyL
          simp only [List.mem_cons, List.not_mem_nil, or_false]
          omega
        rw [e]
        cases e1 : decide (k / 6 = x ∨ k % 6 = x)
        · rw [e1] at q1
          exact q1
        · rw [e1] at q1
          refine iteT ?_
          walk_at "go"
          refine ⟨D, _, rfl, dget_fz (s2 _ _ fz) hm, ?_⟩
          walk_at "go"
          exact q1
      · intro k H2 Q1 hm _ s2 q1
        walk_at "go"
        exact q1
      intro J2 s2 eC
      refine ⟨s2 _ _ fz, ?_⟩
      have s3 := frz_back hD5.e s2
      have CD := (frz_new nC).2
      have eC3 : (upd J2 D (.dK (tab ky ks g))) C = some (.lst ((ks.filter fun k => decide (k / 6 = x ∨ k % 6 = x) && decide (0 < g k)).map fun k => V.str (ky k))) := by
        rw [upd_ne CD, eC]
      have nC5 := (frz_new nC).1
      generalize upd J2 D (.dK (tab ky ks g)) = J3 at s3 eC3
      have hT7 := hT6.more s3
      have hD7 := hD5.mono s3
      have u7 := u5.mono s3
      walk_at "go"
      refine ⟨C, _, rfl, .inl (SqL.of eC3), ?_⟩
      walk_at "go"
      -- whether it gets a purse
      have put : PrI K a q0 ds n H D ks g Pd ps tn (i + 1) (upd J3 Pd (.dK (putK (tab lt1 us p) (Sum.inr (lt1 x)) (.int c)))) := by
        have sbP : SB Pd J3 (upd J3 Pd (.dK (putK (tab lt1 us p) (Sum.inr (lt1 x)) (.int c)))) := SB.upd (Z.Same.sb (Same.refl J3))
        refine ⟨hT7.mut nP sbP qP.symm (sbP _ _ aP hT7.hA), ⟨sbP _ _ DP hD7.e, hD7.nd, hD7.ok, hD7.z⟩, _, _, u7.put x6 c0, fun j => ?_, fun k hk hc => ?_, fun j hj => ?_⟩
        · split
          · exact c1
          · exact pb j
        · by_cases e : k = i
          · subst e
            rw [hx]
            split
            · assumption
            · exact List.mem_append.mpr (.inr (List.mem_singleton.mpr rfl))
          · have := cov k (by omega) hc
            split
            · exact this
            · exact List.mem_append.mpr (.inl this)
        · split at hj
          · exact uin j hj
          · rcases List.mem_append.mp hj with hj | hj
            · exact uin j hj
            · rw [List.mem_singleton.mp hj]
              exact xin
      have skip : (ks.filter fun k => decide (k / 6 = x ∨ k % 6 = x) && decide (0 < g k)) = [] → PrI K a q0 ds n H D ks g Pd ps tn (i + 1) J3 := fun e0 => by
        refine ⟨hT7, hD7, us, p, u7, pb, fun k hk hc => ?_, uin⟩
        by_cases e : k = i
        · subst e
          obtain ⟨c', hc', g0, o⟩ := hc
          rw [hx] at o
          have : c' ∈ ks.filter fun k => decide (k / 6 = x ∨ k % 6 = x) && decide (0 < g k) := List.mem_filter.mpr ⟨hc', by rw [decide_eq_true o, decide_eq_true g0]; rfl⟩
          rw [e0] at this
          cases this
        · exact cov k (by omega) hc
      refine ite2 (fun e => ?_) (fun e => ?_)
      · refine iteT ?_
        walk_at "go"
        refine ⟨Pd, _, rfl, u7.dput x c, ?_⟩
        exact ⟨put, _, _, _, _, _, _, rfl⟩
      · have e0 : (ks.filter fun k => decide (k / 6 = x ∨ k % 6 = x) && decide (0 < g k)) = [] := by
          apply List.eq_nil_of_length_eq_zero
          have : ¬ (((ks.filter fun k => decide (k / 6 = x ∨ k % 6 = x) && decide (0 < g k)).map fun k => V.str (ky k)).length : Int) > 0 := fun z => e (decide_eq_true z)
          rw [List.length_map] at this
          omega
        walk_at "go"
        refine ite2 (fun _ => ?_) (fun _ => ?_)
        · walk_at "go"
          refine ⟨Pd, _, rfl, u7.dput x c, ?_⟩
          exact ⟨put, _, _, _, _, _, _, rfl⟩
        · exact ⟨skip e0, _, _, _, _, _, _, rfl⟩
    · rintro σ J ⟨⟨hT3, hD3, us, p, u3, pb, cov, uin⟩, v8, v9, v10, v11, v12, v14, rfl⟩
      walk_at "go"
      refine q Pd us p J hT3 nP u3 pb (fun k hk gk => ?_) uin
      obtain ⟨k1, k2⟩ := kps k hk
      obtain ⟨j1, l1, e1⟩ := surj _ k1
      obtain ⟨j2, l2, e2⟩ := surj _ k2
      refine ⟨?_, ?_⟩
      · have := cov j1 l1 ⟨k, hk, gk, .inl e1.symm⟩
        rwa [e1] at this
      · have := cov j2 l2 ⟨k, hk, gk, .inr e2.symm⟩
        rwa [e2] at this
end
end Z
set_option Elab.async false
set_option linter.all false
set_option maxRecDepth 100000
namespace Z
open PySem PySem.Spec PyProof.Rows L2
/-! ### lists and tuples of texts compared -/
theorem dpa_ss {K : PySem.W.Frag} {H : Hp} : ∀ ss : List Str, DpAll K H (ss.map V.str) (ss.map PyData.str)
  | [] => .nil
  | x :: ss => .cons (.str _) (dpa_ss ss)
theorem strOk_S {l : List Nat} (h : ∀ c ∈ l, c < 1000) : PyData.strOk (SX.S l) = true := by
  show (SX.S l).cps.all (· < 0x110000) = true
  rw [Array.all_eq_true']
  intro c hc
  have := h c (by simpa using hc)
  simp
  omega
theorem lay_ss : ∀ ss : List Str, (∀ s ∈ ss, PyData.strOk s = true) → PyData.canLayAll0 (ss.map PyData.str) = true
  | [], _ => rfl
  | x :: r, h => by
    rw [List.map_cons, PyData.canLayAll0, lay_ss r fun s hs => h s (List.mem_cons_of_mem _ hs), PyData.canLay0, h x List.mem_cons_self]
    rfl
theorem dep_ss : ∀ ss : List Str, PyData.depthAll (ss.map PyData.str) = 0
  | [] => rfl
  | x :: r => by
    rw [List.map_cons, PyData.depthAll, dep_ss r]
    rfl
theorem shaped_ssL {ss : List Str} (h : ∀ s ∈ ss, PyData.strOk s = true) : SeqAt.shaped (.list (ss.map PyData.str)) = true := by
  unfold SeqAt.shaped
  show (PyData.canLayAll0 (ss.map PyData.str) && decide (PyData.depthAll (ss.map PyData.str) + 1 ≤ 64)) = true
  rw [lay_ss _ h, dep_ss]
  rfl
theorem shaped_ssT {ss : List Str} (h : ∀ s ∈ ss, PyData.strOk s = true) : SeqAt.shaped (.tuple (ss.map PyData.str)) = true := by
  unfold SeqAt.shaped
  show (PyData.canLayAll0 (ss.map PyData.str) && decide (PyData.depthAll (ss.map PyData.str) + 1 ≤ 64)) = true
  rw [lay_ss _ h, dep_ss]
  rfl
theorem eqv_ssL {ss : List Str} (h : ∀ s ∈ ss, PyData.strOk s = true) : PyData.eqv (.list (ss.map PyData.str)) (.list (ss.map PyData.str)) = true := SeqAt.eqv_refl _ (SeqAt.canLay_of_shaped (shaped_ssL h))
theorem eqv_ssT {ss : List Str} (h : ∀ s ∈ ss, PyData.strOk s = true) : PyData.eqv (.tuple (ss.map PyData.str)) (.tuple (ss.map PyData.str)) = true := SeqAt.eqv_refl _ (SeqAt.canLay_of_shaped (shaped_ssT h))
theorem ne_ssL {K : PySem.W.Frag} {H : Hp} {a b : Addr} {ss : List Str} {Q : VK} (h1 : SqL K H a (ss.map V.str)) (h2 : SqL K H b (ss.map V.str)) (h : ∀ s ∈ ss, PyData.strOk s = true) (q : Q (.bl false) H) : rNeD K (.ref a) (.ref b) H Q := ⟨_, _, .lst h1 (dpa_ss ss), .lst h2 (dpa_ss ss), shaped_ssL h, shaped_ssL h, by rw [eqv_ssL h]; exact q⟩
theorem ne_ssT {K : PySem.W.Frag} {H : Hp} {a b : Addr} {ss : List Str} {Q : VK} (h1 : SqT K H a (ss.map V.str)) (h2 : SqT K H b (ss.map V.str)) (h : ∀ s ∈ ss, PyData.strOk s = true) (q : Q (.bl false) H) : rNeD K (.ref a) (.ref b) H Q := ⟨_, _, .tup h1 (dpa_ss ss), .tup h2 (dpa_ss ss), shaped_ssT h, shaped_ssT h, by rw [eqv_ssT h]; exact q⟩
end Z
set_option Elab.async false
set_option linter.all false
set_option maxRecDepth 100000
set_option maxHeartbeats 4000000
namespace Z
open PySem PySem.Spec PyProof.Rows L2 Cl
open SX (S S_inj S_len S_cat)
/-! ### lists of the pairs of a dict -/
theorem paired_imp {α β : Type} {F G : α → β → Prop} (h : ∀ x y, F x y → G x y) : ∀ {xs : List α} {ys : List β}, Paired F xs ys → Paired G xs ys
  | _, _, .nil => .nil
  | _, _, .cons r t => .cons (h _ _ r) (paired_imp h t)
theorem paired_map {α β γ : Type} {F : α → β → Prop} (f : γ → β) : ∀ {xs : List α} (zs : List γ), Paired F xs (zs.map f) → Paired (fun x z => F x (f z)) xs zs
  | [], [], _ => .nil
  | [], _ :: _, h => by cases h
  | _ :: _, [], h => by cases h
  | x :: xs, z :: zs, h => by
    cases h with
    | cons r t => exact .cons r (paired_map f zs t)
/-- a list of pairs key and value -/
def ItG (H : Hp) (l : Addr) (key : Nat → Str) (v : Nat → V) (ks : List Nat) : Prop := ∃ ts : List Addr, H l = some (.lst (ts.map V.ref)) ∧ Paired (fun (t : Addr) (k : Nat) => H t = some (.tup [.str (key k), v k])) ts ks
theorem ItG.mono {H H' : Hp} {l : Addr} {key : Nat → Str} {v : Nat → V} {ks : List Nat} (h : ItG H l key v ks) (s : Same H H') : ItG H' l key v ks := by
  obtain ⟨ts, e, p⟩ := h
  exact ⟨ts, s _ _ e, paired_imp (fun t q e => s _ _ e) p⟩
def itD (key : Nat → Str) (dv : Nat → PyData) (ks : List Nat) : List PyData := ks.map fun k => .tuple [.str (key k), dv k]
theorem dpa_it {K : PySem.W.Frag} {H : Hp} {key : Nat → Str} {v : Nat → V} {dv : Nat → PyData} : ∀ {ts : List Addr} {ks : List Nat}, (∀ k ∈ ks, Dp K H (v k) (dv k)) → Paired (fun (t : Addr) (k : Nat) => H t = some (.tup [.str (key k), v k])) ts ks → DpAll K H (ts.map V.ref) (itD key dv ks)
  | [], [], _, _ => .nil
  | [], _ :: _, _, h => by cases h
  | _ :: _, [], _, h => by cases h
  | t :: ts, k :: ks, hd, h => by
    cases h with
    | cons e r => exact .cons (.tup (SqT.of e) (.cons (.str _) (.cons (hd k List.mem_cons_self) .nil))) (dpa_it (fun k m => hd k (List.mem_cons_of_mem _ m)) r)
theorem ItG.dp {K : PySem.W.Frag} {H : Hp} {l : Addr} {key : Nat → Str} {v : Nat → V} {dv : Nat → PyData} {ks : List Nat} (h : ItG H l key v ks) (hd : ∀ k ∈ ks, Dp K H (v k) (dv k)) : Dp K H (.ref l) (.list (itD key dv ks)) := by
  obtain ⟨ts, e, p⟩ := h
  exact .lst (SqL.of e) (dpa_it hd p)
/-- flat enough -/
def Fl (d : PyData) : Prop := PyData.canLayAll0 [d] = true ∧ PyData.depthAll [d] ≤ 1
theorem it_flat {key : Nat → Str} {dv : Nat → PyData} : ∀ {ks : List Nat}, (∀ k ∈ ks, PyData.strOk (key k) = true ∧ Fl (dv k)) → PyData.canLayAll0 (itD key dv ks) = true ∧ PyData.depthAll (itD key dv ks) ≤ 2
  | [], _ => ⟨rfl, Nat.zero_le _⟩
  | k :: r, h => by
    have z := it_flat (dv := dv) (ks := r) fun x hx => h x (List.mem_cons_of_mem _ hx)
    obtain ⟨y, f1, f2⟩ := h k List.mem_cons_self
    have e1 : itD key dv (k :: r) = .tuple [.str (key k), dv k] :: itD key dv r := rfl
    rw [e1]
    constructor
    · rw [PyData.canLayAll0, z.1]
      simp [PyData.canLayAll0, PyData.canLay0, y] at f1 ⊢
      exact f1
    · rw [PyData.depthAll]
      have : (PyData.tuple [.str (key k), dv k]).depth ≤ 2 := by
        simp [PyData.depth, PyData.depthAll] at f2 ⊢
        omega
      omega
theorem shaped_it {key : Nat → Str} {dv : Nat → PyData} {ks : List Nat} (h : ∀ k ∈ ks, PyData.strOk (key k) = true ∧ Fl (dv k)) : SeqAt.shaped (.list (itD key dv ks)) = true := by
  have z := it_flat h
  unfold SeqAt.shaped
  show (PyData.canLayAll0 (itD key dv ks) && decide (PyData.depthAll (itD key dv ks) + 1 ≤ 64)) = true
  rw [z.1, decide_eq_true (by omega)]
  rfl
theorem ne_it {K : PySem.W.Frag} {H : Hp} {a b : Addr} {key : Nat → Str} {v v' : Nat → V} {dv : Nat → PyData} {ks : List Nat} {Q : VK} (h1 : ItG H a key v ks) (h2 : ItG H b key v' ks) (d1 : ∀ k ∈ ks, Dp K H (v k) (dv k)) (d2 : ∀ k ∈ ks, Dp K H (v' k) (dv k)) (f : ∀ k ∈ ks, PyData.strOk (key k) = true ∧ Fl (dv k)) (q : Q (.bl false) H) : rNeD K (.ref a) (.ref b) H Q :=
  ⟨_, _, h1.dp d1, h2.dp d2, shaped_it f, shaped_it f, by rw [eqv_same (shaped_it f)]; exact q⟩
theorem fl_int (i : Int) : Fl (.int i) := ⟨rfl, by simp [PyData.depthAll, PyData.depth]⟩
theorem fl_pair (i j : Int) : Fl (.tuple [.int i, .int j]) := ⟨rfl, by simp [PyData.depthAll, PyData.depth]⟩
theorem ky_ok : ∀ k, k < 36 → PyData.strOk (ky k) = true := by decide +kernel
theorem lt_ok : ∀ k, k < 6 → PyData.strOk (lt1 k) = true := by decide +kernel
theorem ItG.tab {H : Hp} {l : Addr} {key : Nat → Str} {ks : List Nat} {g : Nat → Int} {ts : List Addr} (e : H l = some (.lst (ts.map V.ref))) (p : Paired (fun (t : Addr) (q : Key × V) => H t = some (.tup [kV q.1, q.2])) ts (Z.tab key ks g)) : ItG H l key (fun k => .int (g k)) ks := ⟨ts, e, paired_map (fun k => ((Sum.inr (key k) : Key), V.int (g k))) ks p⟩
/-- a list of what is paid -/
def Kp (H : Hp) (l : Addr) (us : List Nat) (x y : Nat → Nat) : Prop := ∃ ta : Nat → Addr, ItG H l lt1 (fun i => .ref (ta i)) us ∧ ∀ i ∈ us, H (ta i) = some (.tup [.int (x i : Int), .int (y i : Int)])
theorem Kp.mono {H H' : Hp} {l : Addr} {us : List Nat} {x y : Nat → Nat} (h : Kp H l us x y) (s : Same H H') : Kp H' l us x y := by
  obtain ⟨ta, a, b⟩ := h
  exact ⟨ta, a.mono s, fun i m => s _ _ (b i m)⟩
theorem ne_kp {K : PySem.W.Frag} {H : Hp} {a b : Addr} {us : List Nat} {x y : Nat → Nat} {Q : VK} (h1 : Kp H a us x y) (h2 : Kp H b us x y) (l : ∀ i ∈ us, i < 6) (q : Q (.bl false) H) : rNeD K (.ref a) (.ref b) H Q := by
  obtain ⟨ta, a1, b1⟩ := h1
  obtain ⟨tb, a2, b2⟩ := h2
  exact ne_it (dv := fun i => .tuple [.int (x i : Int), .int (y i : Int)]) a1 a2 (fun i m => .tup (SqT.of (b1 i m)) (.cons (.int _) (.cons (.int _) .nil))) (fun i m => .tup (SqT.of (b2 i m)) (.cons (.int _) (.cons (.int _) .nil))) (fun i m => ⟨lt_ok i (l i m), fl_pair _ _⟩) q
theorem ne_ints {K : PySem.W.Frag} {H : Hp} {a b : Addr} {key : Nat → Str} {g : Nat → Int} {ks : List Nat} {Q : VK} (h1 : ItG H a key (fun k => .int (g k)) ks) (h2 : ItG H b key (fun k => .int (g k)) ks) (f : ∀ k ∈ ks, PyData.strOk (key k) = true) (q : Q (.bl false) H) : rNeD K (.ref a) (.ref b) H Q :=
  ne_it (dv := fun k => .int (g k)) h1 h2 (fun _ _ => .int _) (fun _ _ => .int _) (fun k m => ⟨f k m, fl_int _⟩) q
end Z
set_option pp.maxSteps 700
set_option Elab.async false
set_option linter.all false
set_option maxRecDepth 100000
set_option maxHeartbeats 4000000
set_option exponentiation.threshold 5000
open SX (S S_inj S_len S_cat)
namespace Z
open Cl
open PySem PySem.Spec PyProof.Rows L2
open C8 (pss_cut tCut)
local macro_rules | `(tactic| walk_at "num") => `(tactic| first | rfl | omega | decide | exact Nat.le_of_lt (small1000 (by simp)) | exact ⟨by omega, by omega⟩ | exact ⟨by omega, by omega, by omega⟩ | exact ⟨by decide, by decide, by decide⟩ | exact Or.inl ⟨by omega, by omega⟩ | exact Or.inr ⟨by omega, by omega⟩)
local macro_rules | `(tactic| walk_at "go") => `(tactic| repeat (first | refine ⟨_, rfl, ?_⟩ | refine ⟨_, _, rfl, rfl, ?_⟩ | refine ⟨_, _, rfl, ?_⟩ | (refine ⟨_, _, rfl, rfl, ?_, ?_⟩; focus walk_at "num") | refine Or.inl ⟨_, rfl, ?_⟩ | refine ⟨_, _, _, _, rfl, rfl, (by assumption), (by rfl), ?_⟩ | refine ⟨_, _, _, _, _, rfl, (by assumption), (by assumption), (by assumption), (by rfl), ?_⟩ | refine ⟨rfl, ?_⟩ | (refine And.intro ?_ ?_; focus walk_at "num")))
abbrev s_is_integer : Stmt := topS 41
abbrev N_is_integer : List Str := ["_law_value"]
abbrev P_is_integer : List Str := ["_law_value"]
theorem sc_is_integer : FnScope N_is_integer P_is_integer (defScope s_is_integer) := ⟨rfl, rfl, rfl, by decide +kernel, rfl, by decide +kernel, by decide +kernel⟩
abbrev s_owes : Stmt := topS 42
abbrev N_owes : List Str := ["_law_debts_here", "_law_party", "_law_pair"]
abbrev P_owes : List Str := ["_law_debts_here", "_law_party"]
theorem sc_owes : FnScope N_owes P_owes (defScope s_owes) := ⟨rfl, rfl, rfl, by decide +kernel, rfl, by decide +kernel, by decide +kernel⟩
abbrev s_parts_fit : Stmt := topS 43
abbrev N_parts_fit : List Str := ["_law_purses_here", "_law_answer", "_law_party", "_law_part", "_law_text"]
abbrev P_parts_fit : List Str := ["_law_purses_here", "_law_answer"]
theorem sc_parts_fit : FnScope N_parts_fit P_parts_fit (defScope s_parts_fit) := ⟨rfl, rfl, rfl, by decide +kernel, rfl, by decide +kernel, by decide +kernel⟩
section
variable {P : Program} {w : World} {K : PySem.W.Frag} {mg : Str → Option Value} {base : Heap} {f : Addr} {fd : FuncData}
def spInt : Sp := fun vs H Q _ => ∃ x : Int, vs = [.int x] ∧ Q (.bl true) H
theorem ok_is_integer (F : FnP K "_law_is_integer" s_is_integer f fd) (m_isinstance : mg "isinstance" = none) (m_int : mg "int" = none) (m_bool : mg "bool" = none) : FnOk P w K mg base CX0 1 f fd P_is_integer spInt := by
  refine F.ok sc_is_integer (fun vs H Q E h => ?_) (fun cdv A outer s H vs Q E hr h => ?_)
  · obtain ⟨x, rfl, _⟩ := h
    rfl
  · obtain ⟨x, rfl, q⟩ := h
    refine ⟨_, PSs.nox (pss_one (ps_ret (pe_and (pe_callB call_isi (by rfl) m_isinstance (by decide +kernel) (pa_cons (pv 0) (pa_cons (pe_bltn (v := .ty "int") (by rfl) m_int (by decide +kernel) rfl) pa_nil))) (pe_one (pe_not (pe_callB call_isi (by rfl) m_isinstance (by decide +kernel) (pa_cons (pv 0) (pa_cons (pe_bltn (v := .ty "bool") (by rfl) m_bool (by decide +kernel) rfl) pa_nil)))))))), ?_⟩
    walk_at "go"
    refine isi (c := "int") (b := true) (.int x) (by decide +kernel) ?_
    walk_at "go"
    refine isi (c := "bool") (b := false) (.int x) (by decide +kernel) ?_
    walk_at "go"
    exact q
theorem ok_owes (F : FnP K "_law_owes" s_owes f fd) (m_sum : mg "sum" = none) : FnOk P w K mg base CX0 1 f fd P_owes spOwe := by
  refine F.ok sc_owes (fun vs H Q E h => ?_) (fun cdv A outer s H vs Q E hr h => ?_)
  · obtain ⟨D, ks, g, i, rfl, _⟩ := h
    rfl
  · obtain ⟨D, ks, g, i, rfl, hD, hi, q⟩ := h
    refine ⟨_, PSs.nox (pss_one (ps_ret (pe_callB (cr_sum rfl) (by rfl) m_sum (by decide +kernel) (pa_cons (pe_lock (pe_lc (own := [("_law_pair", 2)]) (g := (gName 2)) (by rfl) sc_owes.nd (pi_keys (pv 0)) (blkOk_by (own := [("_law_pair", 2)]) (N := N_owes) (sc := defScope s_owes) (by decide +kernel)) (fun _ _ _ _ _ => (pg_name (i := 2) sc_owes.nd rfl (by first | exact .inl rfl | exact .inr rfl))) (fun _ _ _ _ _ => (pts_one (pt_cmpR op_eq (pe_ix ix_str (pv 2) pe_int (fun _ _ => rfl)) (pv 1) (nomark _)))) (fun _ _ _ _ _ => (pe_dget (hu_of hr) (pv 0) (pv 2) (fun _ _ => rfl))))) pa_nil)))), ?_⟩
    have ll := hD.len
    walk_at "go"
    refine ⟨D, _, hD.e, trivial, fun od => ?_⟩
    have fz : (upd H D (.frz od (.dK (tab ky ks g)))) D = some (.frz od (.dK (tab ky ks g))) := upd_same
    walk_at "go"
    refine ⟨D, od, rfl, .inl ⟨_, fz, fun C nC => ?_⟩⟩
    refine lc_keys (fun k => decide (k / 6 = i)) (fun k => .int (g k)) fz (by omega) nC (fun _ => rfl) ?_ ?_ ?_
    · intro k H2 Q1 hm s2 q1
      walk_at "go"
      refine ⟨ky k, _, 97 + k / 6, rfl, rfl, by rw [ky_len]; exact szl (by decide), rfl, ?_⟩
      walk_at "go"
      rw [show decide (V.str ⟨#[97 + k / 6]⟩ = V.str (lt1 i)) = decide (k / 6 = i) from dec_lt1 _ _]
      exact q1
    · intro k H2 Q1 hm _ s2 q1
      walk_at "go"
      exact ⟨D, _, rfl, dget_fz (s2 _ _ fz) hm, q1⟩
    intro J2 s2 eC
    refine ⟨s2 _ _ fz, ?_⟩
    have s3 := frz_back hD.e s2
    have CD := (frz_new nC).2
    have eC3 : (upd J2 D (.dK (tab ky ks g))) C = some (.lst (((ks.filter fun k => decide (k / 6 = i)).map g).map V.int)) := by
      rw [upd_ne CD, eC, List.map_map]
      rfl
    generalize upd J2 D (.dK (tab ky ks g)) = J3 at s3 eC3
    walk_at "go"
    refine ⟨C, _, rfl, SqL.of eC3, ?_⟩
    rw [sum_owe hD hi]
    exact q J3 s3
theorem fz1 {J : Hp} {D : Addr} {od : Obj} {ks : List Nat} {g : Nat → Int} {k : Nat} (f : J D = some (.frz od (.dK (tab lt1 ks g)))) (m : k ∈ ks) : DGet J D (.str (lt1 k)) (some (.int (g k))) := .inl ⟨tab lt1 ks g, Sum.inr (lt1 k), .inr ⟨od, f⟩, rfl, by rw [tab_val (fun _ _ => lt1_inj), if_pos m]⟩
/-- the paid dict at one party -/
theorem valV_map {us : List Nat} (ta : Nat → Addr) {i : Nat} (m : i ∈ us) : valV (us.map fun i => ((Sum.inr (lt1 i) : Key), V.ref (ta i))) (Sum.inr (lt1 i)) = some (.ref (ta i)) := by
  induction us with
  | nil => cases m
  | cons j us ih =>
    by_cases e : j = i
    · subst e
      rw [List.map_cons, valV_pos rfl]
    · rw [List.map_cons, valV_neg (fun z => e (lt1_inj (Sum.inr.inj z)))]
      exact ih ((List.mem_cons.mp m).resolve_left fun z => e z.symm)
theorem PaD.get {H : Hp} {a : Addr} {us : List Nat} {x y : Nat → Nat} (h : PaD H a us x y) {i : Nat} (m : i ∈ us) : ∃ t, DGet H a (.str (lt1 i)) (some (.ref t)) ∧ H t = some (.tup [.int (x i : Int), .int (y i : Int)]) := by
  obtain ⟨ta, h1, h2⟩ := h
  exact ⟨ta i, .inl ⟨_, Sum.inr (lt1 i), .inl h1, rfl, (valV_map ta m).symm⟩, h2 i m⟩
/-- walking over a dict of numbers by parties: the dict is locked -/
theorem walk_lt {d : Addr} {od : Obj} {us : List Nat} {p : Nat → Int} {H : Hp} {tb : TS} {D : Ends} {σ : L2.St} {i : Nat} (fz : H d = some (.frz od (.dK (tab lt1 us p)))) (Pv : Nat → L2.St → Prop) (h0 : Pv 0 σ) (hs : ∀ k (hk : k < us.length) σ, Pv k σ → gName i (.str (lt1 us[k])) σ H fun σ2 H2 => tb { D with nx := fun σ' H' => H' = H ∧ Pv (k + 1) σ', ct := fun σ' H' => H' = H ∧ Pv (k + 1) σ', bk := D.nx } σ2 H2) (hd : ∀ σ, Pv us.length σ → D.nx σ H) : forW (Itk d od (tab lt1 us p)) (gName i) tb D σ H := by
  refine for_gen (n := us.length) (fun k σ J => J = H ∧ Pv k σ) ⟨rfl, h0⟩ ?_ ?_ ?_ ?_
  · rintro k σ J hk ⟨rfl, _⟩
    exact ⟨fz, by rw [tab_len]; exact hk⟩
  · rintro σ J ⟨rfl, _⟩
    exact ⟨fz, by rw [tab_len]; exact Nat.le_refl _⟩
  · rintro k σ J x J2 hk ⟨rfl, pv⟩ ⟨rfl, kk, v, e, rfl⟩
    rw [tab_at hk] at e
    cases e
    exact hs k hk σ pv
  · rintro σ J ⟨rfl, pv⟩
    exact hd σ pv
theorem lock_back {H : Hp} {d : Addr} {o f : HO} (h : H d = some o) : upd (upd H d f) d o = H := by
  funext b
  by_cases e : b = d
  · subst e
    rw [upd_same, h]
  · rw [upd_ne e, upd_ne e]
def spFit : Sp := fun vs H Q _ => ∃ (Pd t a w : Addr) (us : List Nat) (p : Nat → Int) (x y : Nat → Nat) (ws : List (List Nat)), vs = [.ref Pd, .ref t] ∧ Pu H Pd us p ∧ H t = some (.tup [.ref a, .ref w]) ∧ PaD H a us x y ∧ H w = some (.tup (wvT ws)) ∧ Pd ≠ a ∧ (∀ i ∈ us, 0 < y i) ∧ ∀ H', Same H H' → Q (.bl true) H'
theorem ok_parts_fit (F : FnP K "_law_parts_fit" s_parts_fit f fd) (m_isinstance : mg "isinstance" = none) (m_dict : mg "dict" = none) (m_tuple : mg "tuple" = none) (m_str : mg "str" = none) (m_list : mg "list" = none) (m_len : mg "len" = none) (c_is_integer : Cal P w K mg base 1 "_law_is_integer" spInt) : FnOk P w K mg base CX0 2 f fd P_parts_fit spFit := by
  refine F.ok sc_parts_fit (fun vs H Q E h => ?_) (fun cdv A outer s H vs Q E hr h => ?_)
  · obtain ⟨Pd, t, a, wv, us, p, x, y, ws, rfl, _⟩ := h
    rfl
  · obtain ⟨Pd, t0, a, wv, us, p, x, y, ws, rfl, hP, et0, hA, ew, Pa, hf, q⟩ := h
    refine ⟨_, PSs.nox (pss_cons (ps_if (PW.pt (pw_or (pt_not (pt_val (pe_callB call_isi (by rfl) m_isinstance (by decide +kernel) (pa_cons (pv 1) (pa_cons (pe_bltn (v := .ty "tuple") (by rfl) m_tuple (by decide +kernel) rfl) pa_nil))))) (pw_or (pt_cmpR op_ne (pe_callB call_len_seq (by rfl) m_len PySem.boot_len (pa_cons (pv 1) pa_nil)) pe_int (nomark _)) (pw_or1 (pt_not (pt_val (pe_callB call_isi (by rfl) m_isinstance (by decide +kernel) (pa_cons (pe_ix ix_tup (pv 1) pe_int (fun _ _ => rfl)) (pa_cons (pe_bltn (v := .ty "tuple") (by rfl) m_tuple (by decide +kernel) rfl) pa_nil))))))))) (pss_one (ps_ret pe_bl)) pss_nil)
      (pss_cons (ps_if (PW.pt (pw_or (pt_not (pt_val (pe_callB call_isi (by rfl) m_isinstance (by decide +kernel) (pa_cons (pe_ix ix_tup (pv 1) pe_int (fun _ _ => rfl)) (pa_cons (pe_bltn (v := .ty "dict") (by rfl) m_dict (by decide +kernel) rfl) pa_nil))))) (pw_or1 (pt_cmpR (op_neD hr.units) (pe_callTy (call_list_dK rfl) (by rfl) m_list (by decide +kernel) (pa_cons (pe_ix ix_tup (pv 1) pe_int (fun _ _ => rfl)) pa_nil)) (pe_callTy (call_list_dK rfl) (by rfl) m_list (by decide +kernel) (pa_cons (pv 0) pa_nil)) (nomark _))))) (pss_one (ps_ret pe_bl)) pss_nil)
      (pss_cons (ps_lock (ps_for PassesOwn.never rfl (pi_keys (pv 0)) (pg_name (i := 2) sc_parts_fit.nd rfl (by first | exact .inl rfl | exact .inr rfl))
        (pss_cons (ps_set (i := 3) sc_parts_fit.nd rfl (by first | exact .inl rfl | exact .inr rfl) (pe_dget (hu_of hr) (pe_ix ix_tup (pv 1) pe_int (fun _ _ => rfl)) (pv 2) (fun _ _ => rfl)))
      (pss_cons (ps_if (PW.pt (pw_or (pt_not (pt_val (pe_callB call_isi (by rfl) m_isinstance (by decide +kernel) (pa_cons (pv 3) (pa_cons (pe_bltn (v := .ty "tuple") (by rfl) m_tuple (by decide +kernel) rfl) pa_nil))))) (pw_or1 (pt_cmpR op_ne (pe_callB call_len_seq (by rfl) m_len PySem.boot_len (pa_cons (pv 3) pa_nil)) pe_int (nomark _))))) (pss_one (ps_ret pe_bl)) pss_nil)
      (pss_one (ps_if (PW.pt (pw_or (pt_not (pt_val (pe_cl c_is_integer hr (by decide) (by rfl) (pa_cons (pe_ix ix_tup (pv 3) pe_int (fun _ _ => rfl)) pa_nil)))) (pw_or (pt_not (pt_val (pe_cl c_is_integer hr (by decide) (by rfl) (pa_cons (pe_ix ix_tup (pv 3) pe_int (fun _ _ => rfl)) pa_nil)))) (pw_or1 (pt_cmpR op_lt (pe_ix ix_tup (pv 3) pe_int (fun _ _ => rfl)) pe_int (nomark _)))))) (pss_one (ps_ret pe_bl)) pss_nil))))))
      (pss_cons (ps_for PassesOwn.never rfl (pi_tup (pe_ix ix_tup (pv 1) pe_int (fun _ _ => rfl))) (pg_name (i := 4) sc_parts_fit.nd rfl (by first | exact .inl rfl | exact .inr rfl))
        (pss_one (ps_if (pt_not (pt_val (pe_callB call_isi (by rfl) m_isinstance (by decide +kernel) (pa_cons (pv 4) (pa_cons (pe_bltn (v := .ty "str") (by rfl) m_str (by decide +kernel) rfl) pa_nil))))) (pss_one (ps_ret pe_bl)) pss_nil)))
      (pss_one (ps_ret pe_bl)))))), ?_⟩
    have lp := hP.len
    obtain ⟨ta, ea, ht⟩ := id hA
    rw [show L2.start N_parts_fit [V.ref Pd, V.ref t0] = [some (.ref Pd), some (.ref t0), none, none, none] from rfl]
    walk_at "go"
    refine isi (c := "tuple") (b := true) (.tup et0) (by decide +kernel) ?_
    walk_at "go"
    refine ⟨t0, _, rfl, .inr (SqT.of et0), ?_⟩
    walk_at "go"
    refine ⟨t0, _, _, _, rfl, rfl, SqT.of et0, atI_nat (j := 1) rfl, ?_⟩
    walk_at "go"
    refine isi (c := "tuple") (b := true) (.tup ew) (by decide +kernel) ?_
    walk_at "go"
    refine ⟨t0, _, _, _, rfl, rfl, SqT.of et0, atI_nat (j := 0) rfl, ?_⟩
    walk_at "go"
    refine isi (c := "dict") (b := true) (.dK ea) (by decide +kernel) ?_
    walk_at "go"
    refine ⟨t0, _, _, _, rfl, rfl, SqT.of et0, atI_nat (j := 0) rfl, ?_⟩
    walk_at "go"
    refine ⟨a, _, rfl, ea, ?_⟩
    intro l1 nl1
    have s1 := same_new (o := .lst ((us.map fun i => ((Sum.inr (lt1 i) : Key), V.ref (ta i))).map fun kv => kV kv.1)) nl1
    have el1 : (upd H l1 (.lst ((us.map fun i => ((Sum.inr (lt1 i) : Key), V.ref (ta i))).map fun kv => kV kv.1))) l1 = some (.lst ((us.map lt1).map V.str)) := by
      rw [upd_same, List.map_map, List.map_map]
      rfl
    generalize upd H l1 (.lst ((us.map fun i => ((Sum.inr (lt1 i) : Key), V.ref (ta i))).map fun kv => kV kv.1)) = H1 at s1 el1
    walk_at "go"
    refine ⟨Pd, _, rfl, s1 _ _ hP.e, ?_⟩
    intro l2 nl2
    have s2 := same_new (o := .lst ((tab lt1 us p).map fun kv => kV kv.1)) nl2
    have el2 : (upd H1 l2 (.lst ((tab lt1 us p).map fun kv => kV kv.1))) l2 = some (.lst ((us.map lt1).map V.str)) := by
      rw [upd_same, tab_filter, List.map_map]
      rfl
    have el1 := s2 _ _ el1
    generalize upd H1 l2 (.lst ((tab lt1 us p).map fun kv => kV kv.1)) = H2 at s2 el1 el2
    have s12 := s1.trans s2
    refine ne_ssL (SqL.of el1) (SqL.of el2) (fun s hs => ?_) ?_
    · obtain ⟨i, hi, rfl⟩ := List.mem_map.mp hs
      exact strOk_S fun c hc => by
        rw [List.mem_singleton.mp hc]
        have := (hP.ok i hi).1
        omega
    walk_at "go"
    have P2 := hP.mono s12
    have A2 := hA.mono s12
    refine ⟨Pd, _, P2.e, trivial, fun od => ?_⟩
    have fz : (upd H2 Pd (.frz od (.dK (tab lt1 us p)))) Pd = some (.frz od (.dK (tab lt1 us p))) := upd_same
    have A3 : PaD (upd H2 Pd (.frz od (.dK (tab lt1 us p)))) a us x y := by
      obtain ⟨tb, h1, h2⟩ := A2
      exact ⟨tb, by rw [upd_ne Pa.symm]; exact h1, fun i m => by have e := h2 i m; rw [upd_ne (fun z => by rw [z, P2.e] at e; cases e)]; exact e⟩
    have t3 : (upd H2 Pd (.frz od (.dK (tab lt1 us p)))) t0 = some (.tup [.ref a, .ref wv]) := by
      have e := s12 _ _ et0
      rw [upd_ne (fun z => by rw [z, P2.e] at e; cases e)]
      exact e
    have ew2 := s12 _ _ ew
    have et2 := s12 _ _ et0
    have lb := lock_back (f := .frz od (.dK (tab lt1 us p))) P2.e
    walk_at "go"
    refine ⟨Pd, od, rfl, .inl ⟨_, fz, ?_⟩⟩
    generalize upd H2 Pd (.frz od (.dK (tab lt1 us p))) = J at fz A3 lb t3
    refine walk_lt fz (fun k σ => ∃ v2 v3 : Option V, σ = [some (.ref Pd), some (.ref t0), v2, v3, none]) ⟨none, none, rfl⟩ ?_ ?_
    · rintro k hk σ ⟨v2, v3, rfl⟩
      have hm := List.getElem_mem hk
      generalize us[k] = i at hm
      obtain ⟨t, dt, et⟩ := A3.get hm
      have fr := hf i hm
      walk_at "go"
      refine ⟨t0, _, _, _, rfl, rfl, SqT.of t3, atI_nat (j := 0) rfl, ?_⟩
      walk_at "go"
      refine ⟨a, _, rfl, dt, ?_⟩
      walk_at "go"
      refine isi (c := "tuple") (b := true) (.tup et) (by decide +kernel) ?_
      walk_at "go"
      refine ⟨t, _, rfl, .inr (SqT.of et), ?_⟩
      walk_at "go"
      refine ⟨t, _, _, _, rfl, rfl, SqT.of et, atI_nat (j := 0) rfl, ?_⟩
      walk_at "go"
      refine ⟨t, _, _, _, rfl, rfl, SqT.of et, atI_nat (j := 1) rfl, ?_⟩
      walk_at "go"
      refine ⟨t, _, _, _, rfl, rfl, SqT.of et, atI_nat (j := 1) rfl, ?_⟩
      walk_at "go"
      refine ite2 (fun e => absurd (of_decide_eq_true e) (by omega)) (fun _ => ?_)
      exact ⟨rfl, _, _, rfl⟩
    · rintro σ ⟨v2, v3, rfl⟩
      refine ⟨fz, ?_⟩
      rw [lb]
      walk_at "go"
      refine ⟨t0, _, _, _, rfl, rfl, SqT.of et2, atI_nat (j := 1) rfl, ?_⟩
      walk_at "go"
      refine ⟨⟨_, SqT.of ew2⟩, ?_⟩
      refine for_gen (n := ws.length) (fun j σ J => J = H2 ∧ ∃ v4 : Option V, σ = [some (.ref Pd), some (.ref t0), v2, v3, v4]) ⟨rfl, none, rfl⟩ ?_ ?_ ?_ ?_
      · rintro j σ J hj ⟨rfl, _⟩
        exact ⟨_, .str (S (pT ws[j])), SqT.of ew2, by unfold wvT; rw [List.getElem?_map, List.getElem?_eq_getElem hj]; rfl⟩
      · rintro σ J ⟨rfl, _⟩
        exact ⟨_, SqT.of ew2, by unfold wvT; rw [List.length_map]; exact Nat.le_refl _⟩
      · rintro j σ J x J' hj ⟨rfl, v4, rfl⟩ ⟨rfl, fx⟩
        have fx := fx _ (SqT.of ew2)
        unfold wvT at fx
        rw [List.getElem?_map, List.getElem?_eq_getElem hj] at fx
        cases fx
        walk_at "go"
        refine isi (c := "str") (b := true) (.str _) (by decide +kernel) ?_
        walk_at "go"
        first | exact ⟨rfl, _, rfl⟩ | exact ⟨_, rfl⟩
      · rintro σ J ⟨rfl, v4, rfl⟩
        walk_at "go"
        exact q _ s12
end
end Z
set_option pp.maxSteps 700
set_option Elab.async false
set_option linter.all false
set_option maxRecDepth 100000
set_option maxHeartbeats 4000000
set_option exponentiation.threshold 5000
open SX (S S_inj S_len S_cat)
namespace Z
open Cl
open PySem PySem.Spec PyProof.Rows L2
open C8 (pss_cut tCut)
local macro_rules | `(tactic| walk_at "num") => `(tactic| first | rfl | omega | decide | exact Nat.le_of_lt (small1000 (by simp)) | exact ⟨by omega, by omega⟩ | exact ⟨by omega, by omega, by omega⟩ | exact ⟨by decide, by decide, by decide⟩ | exact Or.inl ⟨by omega, by omega⟩ | exact Or.inr ⟨by omega, by omega⟩)
local macro_rules | `(tactic| walk_at "go") => `(tactic| repeat (first | refine ⟨_, rfl, ?_⟩ | refine ⟨_, _, rfl, rfl, ?_⟩ | refine ⟨_, _, rfl, ?_⟩ | (refine ⟨_, _, rfl, rfl, ?_, ?_⟩; focus walk_at "num") | refine Or.inl ⟨_, rfl, ?_⟩ | refine ⟨_, _, _, _, rfl, rfl, (by assumption), (by rfl), ?_⟩ | refine ⟨_, _, _, _, _, rfl, (by assumption), (by assumption), (by assumption), (by rfl), ?_⟩ | refine ⟨rfl, ?_⟩ | (refine And.intro ?_ ?_; focus walk_at "num")))
abbrev s_has : Stmt := topS 44
abbrev N_has : List Str := ["_law_debts_here", "_law_coins_here", "_law_owes_here", "_law_paid", "_law_party", "_law_top", "_law_low", "_law_pair", "_law_below"]
abbrev P_has : List Str := ["_law_debts_here", "_law_coins_here", "_law_owes_here", "_law_paid", "_law_party"]
theorem sc_has : FnScope N_has P_has (defScope s_has) := ⟨rfl, rfl, rfl, by decide +kernel, rfl, by decide +kernel, by decide +kernel⟩
theorem wd_lt {i j : Int} {a b : Nat} (ha : i.natAbs < 2 ^ a) (hb : j.natAbs < 2 ^ b) : (i * j).natAbs < 2 ^ (a + b) := wide_lt ha hb
theorem wd_up {i : Int} {a b : Nat} (ha : i.natAbs < 2 ^ a) (h : a ≤ b) : i.natAbs < 2 ^ b := Nat.lt_of_lt_of_le ha (Nat.pow_le_pow_right (by decide) h)
theorem wd_add {i j : Int} {a : Nat} (ha : i.natAbs < 2 ^ a) (hb : j.natAbs < 2 ^ a) : (i + j).natAbs < 2 ^ (a + 1) := by
  rw [Nat.pow_succ]
  generalize 2 ^ a = A at ha hb
  omega
/-- not greater than behind k debts -/
structure Bk (k : Nat) (x : Int) : Prop where
  h : x.natAbs < 2 ^ (5000 * k + 1000)
theorem Bk.up {k n : Nat} {x : Int} (h : Bk k x) (l : k ≤ n) : Bk n x := ⟨wd_up h.h (by omega)⟩
/-- numbers of debts and purses that are cleared -/
structure Cn (g p : Nat → Int) : Prop where
  dd : Dd (dg g)
  pn : ∀ i, 0 ≤ p i
  sm : Sm g p
theorem Cn.scl {g p : Nat → Int} (c : Cn g p) : Bg (sclF (dg g) p (fin (dg g) p)) := by
  have iv := fin_iv c.dd c.pn
  have mm := mm_mat c.dd (p := p) iv.nd iv.lt iv.nc
  have l6 := nd_len6 iv.nd iv.lt
  obtain ⟨x1, xb⟩ := bm_6 (fin (dg g) p).length (by omega)
  exact Nat.lt_of_le_of_lt (bt_d_size (m := (fin (dg g) p).length + 1) mm (by omega) x1 (fun r k _ _ => mat_size c.sm _ r k) _ (Nat.le_refl _)) xb
theorem Cn.y {g p : Nat → Int} (c : Cn g p) (i : Nat) : (pyY (dg g) p i : Int).natAbs < 2 ^ 4300 := by
  have h := c.scl
  unfold Bg at h
  rw [(py_scl c.dd c.pn).1, Int.natAbs_natCast] at h
  rw [Int.natAbs_natCast]
  exact Nat.lt_of_le_of_lt (Nat.div_le_self ..) h
theorem Cn.x {g p : Nat → Int} (c : Cn g p) (i : Nat) : (pyX (dg g) p i : Int).natAbs < 2 ^ 4553 := by
  have h1 := py_le c.dd c.pn i
  have h2 := wd_lt (owe_bg c.sm.g i) (c.y i)
  exact Nat.lt_of_le_of_lt (by omega) h2
section
variable {P : Program} {w : World} {K : PySem.W.Frag} {mg : Str → Option Value} {base : Heap} {f : Addr} {fd : FuncData}
def spHas : Sp := fun vs H Q _ => ∃ (D O a : Addr) (ks us : List Nat) (g p : Nat → Int) (c : Int) (i : Nat), vs = [.ref D, .int c, .ref O, .ref a, .str (lt1 i)] ∧ Db H D ks g ∧ H O = some (.dK (tab lt1 us (owe (dg g)))) ∧ PaD H a us (pyX (dg g) p) (pyY (dg g) p) ∧ Cn g p ∧ D ≠ O ∧ D ≠ a ∧ i < 6 ∧ (∀ k ∈ ks, 0 < g k → k / 6 ∈ us) ∧ c.natAbs < 2 ^ 700 ∧
  ∀ (t : Addr) (top low : Int) H', Same H H' → H' t = some (.tup [.int top, .int low]) → 0 < low → top * sclF (dg g) p (fin (dg g) p) = low * (c * sclF (dg g) p (fin (dg g) p) + Cl.rcv (dg g) (shrF (dg g) p (fin (dg g) p)) i) → Bk 36 top → Bk 36 low → Q (.ref t) H'
theorem ok_has (F : FnP K "_law_has" s_has f fd) : FnOk P w K mg base CX0 1 f fd P_has spHas := by
  refine F.ok sc_has (fun vs H Q E h => ?_) (fun cdv A outer s H vs Q E hr h => ?_)
  · obtain ⟨D, O, a, ks, us, g, p, c, i, rfl, _⟩ := h
    rfl
  · obtain ⟨D, O, a, ks, us, g, p, c, i, rfl, hD, eO, hA, cn, DO, Da, hi, kp, cb, q⟩ := h
    refine ⟨_, PSs.nox (pss_cons (ps_set (i := 5) sc_has.nd rfl (by first | exact .inl rfl | exact .inr rfl) (pv 1))
      (pss_cons (ps_set (i := 6) sc_has.nd rfl (by first | exact .inl rfl | exact .inr rfl) pe_int)
      (pss_cons (ps_lock (ps_for PassesOwn.never rfl (pi_keys (pv 0)) (pg_name (i := 7) sc_has.nd rfl (by first | exact .inl rfl | exact .inr rfl))
        (pss_one (ps_if (PW.pt (pw_and (pt_cmpR op_eq (pe_ix ix_str (pv 7) pe_int (fun _ _ => rfl)) (pv 4) (nomark _)) (pw_and1 (pt_cmpR op_gt (pe_dget (hu_of hr) (pv 0) (pv 7) (fun _ _ => rfl)) pe_int (nomark _))))) (pss_cons (ps_set (i := 8) sc_has.nd rfl (by first | exact .inl rfl | exact .inr rfl) (pe_op op_mulW (pe_ix ix_tup (pe_dget (hu_of hr) (pv 3) (pe_ix ix_str (pv 7) pe_int (fun _ _ => rfl)) (fun _ _ => rfl)) pe_int (fun _ _ => rfl)) (pe_dget (hu_of hr) (pv 2) (pe_ix ix_str (pv 7) pe_int (fun _ _ => rfl)) (fun _ _ => rfl))))
      (pss_cons (ps_set (i := 5) sc_has.nd rfl (by first | exact .inl rfl | exact .inr rfl) (pe_op op_add (pe_op op_mulW (pv 5) (pv 8)) (pe_op op_mulW (pe_op op_mulW (pe_dget (hu_of hr) (pv 0) (pv 7) (fun _ _ => rfl)) (pe_ix ix_tup (pe_dget (hu_of hr) (pv 3) (pe_ix ix_str (pv 7) pe_int (fun _ _ => rfl)) (fun _ _ => rfl)) pe_int (fun _ _ => rfl))) (pv 6))))
      (pss_one (ps_set (i := 6) sc_has.nd rfl (by first | exact .inl rfl | exact .inr rfl) (pe_op op_mulW (pv 6) (pv 8)))))) pss_nil))))
      (pss_one (ps_ret (pe_tup (pa_cons (pv 5) (pa_cons (pv 6) pa_nil)))))))), ?_⟩
    have ll := hD.len
    rw [show L2.start N_has [V.ref D, V.int c, V.ref O, V.ref a, V.str (lt1 i)] = [some (.ref D), some (.int c), some (.ref O), some (.ref a), some (.str (lt1 i)), none, none, none, none] from rfl]
    walk_at "go"
    refine ⟨D, _, hD.e, trivial, fun od => ?_⟩
    have fz : (upd H D (.frz od (.dK (tab ky ks g)))) D = some (.frz od (.dK (tab ky ks g))) := upd_same
    have eOz : (upd H D (.frz od (.dK (tab ky ks g)))) O = some (.dK (tab lt1 us (owe (dg g)))) := by rw [upd_ne DO.symm]; exact eO
    have hAz : PaD (upd H D (.frz od (.dK (tab ky ks g)))) a us (pyX (dg g) p) (pyY (dg g) p) := by
      obtain ⟨tb, h1, h2⟩ := hA
      exact ⟨tb, by rw [upd_ne Da.symm]; exact h1, fun i m => by have e := h2 i m; rw [upd_ne (fun z => by rw [z, hD.e] at e; cases e)]; exact e⟩
    have lb := lock_back (f := .frz od (.dK (tab ky ks g))) hD.e
    have hscl := cn.scl
    walk_at "go"
    refine ⟨D, od, rfl, .inl ⟨_, fz, ?_⟩⟩
    generalize upd H D (.frz od (.dK (tab ky ks g))) = J at fz eOz hAz lb
    -- what is gathered behind the first k debts
    refine for_gen (n := ks.length) (fun k σ J' => J' = J ∧ ∃ (top low : Int) (v7 v8 : Option V), 0 < low ∧ top * sclF (dg g) p (fin (dg g) p) = low * (c * sclF (dg g) p (fin (dg g) p) + (((ks.take k).filter fun k => decide (k % 6 = i)).map fun k => g k * shrF (dg g) p (fin (dg g) p) (k / 6)).sum) ∧ Bk k top ∧ Bk k low ∧ σ = [some (.ref D), some (.int c), some (.ref O), some (.ref a), some (.str (lt1 i)), some (.int top), some (.int low), v7, v8]) ⟨rfl, c, 1, none, none, by decide, ?_, ⟨wd_up cb (by decide)⟩, ⟨wd_up (a := 1) (by decide) (by decide)⟩, rfl⟩ ?_ ?_ ?_ ?_
    · rw [List.take_zero]
      show c * _ = 1 * (c * _ + 0)
      omega
    · rintro k σ J' hk ⟨rfl, _⟩
      exact ⟨fz, by rw [tab_len]; exact hk⟩
    · rintro σ J' ⟨rfl, _⟩
      exact ⟨fz, by rw [tab_len]; exact Nat.le_refl _⟩
    · rintro k σ J1 x J2 hk ⟨rfl, top, low, v7, v8, l0, eq, bt, bl, rfl⟩ ⟨rfl, kk, z, e, rfl⟩
      rw [tab_at hk] at e
      cases e
      have tk : ks.take (k + 1) = ks.take k ++ [ks[k]] := by rw [List.take_succ, List.getElem?_eq_getElem hk]; rfl
      have hm := List.getElem_mem hk
      rw [tk]
      generalize ks[k] = j at hm
      have up : ∀ {z : Int}, Bk k z → Bk (k + 1) z := fun h => ⟨wd_up h.h (by omega)⟩
      have skip : (decide (j % 6 = i) = false ∨ g j = 0) → top * sclF (dg g) p (fin (dg g) p) = low * (c * sclF (dg g) p (fin (dg g) p) + (((ks.take k ++ [j]).filter fun k => decide (k % 6 = i)).map fun k => g k * shrF (dg g) p (fin (dg g) p) (k / 6)).sum) := fun h => by
        rw [List.filter_append, List.map_append, List.sum_append, eq]
        rcases h with h | h
        · rw [List.filter_cons_of_neg (by rw [h]; decide), List.filter_nil]
          show _ = low * (_ + (_ + 0))
          rw [Int.add_zero]
        · have : ((([j].filter fun k => decide (k % 6 = i))).map fun k => g k * shrF (dg g) p (fin (dg g) p) (k / 6)).sum = 0 := by
            by_cases e : j % 6 = i
            · simp [e, h]
            · simp [e]
          rw [this, Int.add_zero]
      walk_at "go"
      refine ⟨ky j, _, 97 + j % 6, rfl, rfl, by rw [ky_len]; exact szl (by decide), rfl, ?_⟩
      walk_at "go"
      rw [show decide (V.str ⟨#[97 + j % 6]⟩ = V.str (lt1 i)) = decide (j % 6 = i) from dec_lt1 _ _]
      cases e1 : decide (j % 6 = i)
      · refine iteF ?_
        exact ⟨rfl, top, low, _, _, l0, skip (.inl e1), up bt, up bl, rfl⟩
      · refine iteT ?_
        walk_at "go"
        refine ⟨D, _, rfl, dget_fz fz hm, ?_⟩
        walk_at "go"
        refine ite2 (fun e2 => ?_) (fun e2 => ?_)
        · have g0 : 0 < g j := of_decide_eq_true e2
          have hu := kp j hm g0
          obtain ⟨t, dt, et⟩ := hAz.get hu
          have o0 : 0 < owe (dg g) (j / 6) := by
            have := (hD.ok j hm).1.1
            refine sg_pos (fun b _ => cn.dd.nn _ b) (j % 6) (by omega) ?_
            rw [dg_in (by omega) (by omega), show 6 * (j / 6) + j % 6 = j by omega]
            exact g0
          have by_ := wd_lt (cn.y (j / 6)) (owe_bg cn.sm.g (j / 6))
          obtain ⟨st1, st2⟩ := has_step cn.dd cn.pn (j := j / 6) (c := g j) o0 l0 eq
          walk_at "go"
          refine ⟨ky j, _, 97 + j / 6, rfl, rfl, by rw [ky_len]; exact szl (by decide), rfl, ?_⟩
          refine ⟨a, _, rfl, dt, ?_⟩
          walk_at "go"
          refine ⟨t, _, _, _, rfl, rfl, SqT.of et, atI_nat (j := 1) rfl, ?_⟩
          walk_at "go"
          refine ⟨ky j, _, 97 + j / 6, rfl, rfl, by rw [ky_len]; exact szl (by decide), rfl, ?_⟩
          refine ⟨O, _, rfl, tab_get (key := lt1) (fun _ _ => lt1_inj) eOz hu, ?_⟩
          walk_at "go"
          refine ⟨wide_mul (cn.y (j / 6)) (owe_bg cn.sm.g (j / 6)) (by decide) (by decide) (by decide), ?_⟩
          walk_at "go"
          refine ⟨wide_mul bt.h by_ (by omega) (by decide) (by omega), ?_⟩
          walk_at "go"
          refine ⟨D, _, rfl, dget_fz fz hm, ?_⟩
          walk_at "go"
          refine ⟨ky j, _, 97 + j / 6, rfl, rfl, by rw [ky_len]; exact szl (by decide), rfl, ?_⟩
          refine ⟨a, _, rfl, dt, ?_⟩
          walk_at "go"
          refine ⟨t, _, _, _, rfl, rfl, SqT.of et, atI_nat (j := 0) rfl, ?_⟩
          walk_at "go"
          refine ⟨wide_mul (cn.sm.g j) (cn.x (j / 6)) (by decide) (by decide) (by decide), ?_⟩
          walk_at "go"
          refine ⟨wide_mul (wd_lt (cn.sm.g j) (cn.x (j / 6))) bl.h (by decide) (by omega) (by omega), ?_⟩
          walk_at "go"
          refine ⟨wide_mul bl.h by_ (by omega) (by decide) (by omega), ?_⟩
          have n1 : Bk (k + 1) (top * ((pyY (dg g) p (j / 6) : Int) * owe (dg g) (j / 6)) + g j * (pyX (dg g) p (j / 6) : Int) * low) := by
            have b1 := wd_up (wd_lt bt.h by_) (show _ ≤ 5000 * k + 1000 + 4900 by omega)
            have b2 := wd_up (wd_lt (wd_lt (cn.sm.g j) (cn.x (j / 6))) bl.h) (show _ ≤ 5000 * k + 1000 + 4900 by omega)
            exact ⟨wd_up (wd_add b1 b2) (by omega)⟩
          have n2 : Bk (k + 1) (low * ((pyY (dg g) p (j / 6) : Int) * owe (dg g) (j / 6))) := ⟨wd_up (wd_lt bl.h by_) (by omega)⟩
          have n3 : (top * ((pyY (dg g) p (j / 6) : Int) * owe (dg g) (j / 6)) + g j * (pyX (dg g) p (j / 6) : Int) * low) * sclF (dg g) p (fin (dg g) p) = (low * ((pyY (dg g) p (j / 6) : Int) * owe (dg g) (j / 6))) * (c * sclF (dg g) p (fin (dg g) p) + (((ks.take k ++ [j]).filter fun k => decide (k % 6 = i)).map fun k => g k * shrF (dg g) p (fin (dg g) p) (k / 6)).sum) := by
            rw [st2, List.filter_append, List.map_append, List.sum_append]
            have : ((([j].filter fun k => decide (k % 6 = i))).map fun k => g k * shrF (dg g) p (fin (dg g) p) (k / 6)).sum = g j * shrF (dg g) p (fin (dg g) p) (j / 6) := by
              simp [of_decide_eq_true e1]
            rw [this, Int.add_assoc]
          exact ⟨rfl, _, _, _, _, st1, n3, n1, n2, rfl⟩
        · have g0 : g j = 0 := by
            have := (hD.ok j hm).2
            have : ¬ 0 < g j := fun z => e2 (decide_eq_true z)
            omega
          exact ⟨rfl, top, low, _, _, l0, skip (.inr g0), up bt, up bl, rfl⟩
    · rintro σ J' ⟨rfl, top, low, v7, v8, l0, eq, bt, bl, rfl⟩
      rw [List.take_of_length_le (Nat.le_refl _), sum_rcv hD _ hi] at eq
      refine ⟨fz, ?_⟩
      rw [lb]
      walk_at "go"
      intro t nt
      exact q t top low _ (same_new nt) upd_same l0 eq (bt.up ll) (bl.up ll)
end
end Z
set_option pp.maxSteps 700
set_option Elab.async false
set_option linter.all false
set_option maxRecDepth 100000
set_option maxHeartbeats 4000000
set_option exponentiation.threshold 5000
open SX (S S_inj S_len S_cat)
namespace Z
open Cl
open PySem PySem.Spec PyProof.Rows L2
open C8 (pss_cut tCut)
local macro_rules | `(tactic| walk_at "num") => `(tactic| first | rfl | omega | decide | exact Nat.le_of_lt (small1000 (by simp)) | exact ⟨by omega, by omega⟩ | exact ⟨by omega, by omega, by omega⟩ | exact ⟨by decide, by decide, by decide⟩ | exact Or.inl ⟨by omega, by omega⟩ | exact Or.inr ⟨by omega, by omega⟩)
local macro_rules | `(tactic| walk_at "go") => `(tactic| repeat (first | refine ⟨_, rfl, ?_⟩ | refine ⟨_, _, rfl, rfl, ?_⟩ | refine ⟨_, _, rfl, ?_⟩ | (refine ⟨_, _, rfl, rfl, ?_, ?_⟩; focus walk_at "num") | refine Or.inl ⟨_, rfl, ?_⟩ | refine ⟨_, _, _, _, rfl, rfl, (by assumption), (by rfl), ?_⟩ | refine ⟨_, _, _, _, _, rfl, (by assumption), (by assumption), (by assumption), (by rfl), ?_⟩ | refine ⟨rfl, ?_⟩ | (refine And.intro ?_ ?_; focus walk_at "num")))
abbrev s_raised : Stmt := topS 46
abbrev N_raised : List Str := ["_law_purses_here", "_law_owes_here", "_law_named", "_law_inside", "_law_found", "_law_party"]
abbrev P_raised : List Str := ["_law_purses_here", "_law_owes_here", "_law_named", "_law_inside"]
theorem sc_raised : FnScope N_raised P_raised (defScope s_raised) := ⟨rfl, rfl, rfl, by decide +kernel, rfl, by decide +kernel, by decide +kernel⟩
theorem PaD.other {H : Hp} {a q : Addr} {us : List Nat} {x y : Nat → Nat} {kv : List (Key × V)} {o : HO} (h : PaD H a us x y) (e : H q = some (.dK kv)) (n : q ≠ a) : PaD (upd H q o) a us x y := by
  obtain ⟨tb, h1, h2⟩ := h
  exact ⟨tb, by rw [upd_ne n.symm]; exact h1, fun i m => by have e2 := h2 i m; rw [upd_ne (fun z => by rw [z, e] at e2; cases e2)]; exact e2⟩
theorem Db.other {H : Hp} {D q : Addr} {ks : List Nat} {g : Nat → Int} {o : HO} (h : Db H D ks g) (n : D ≠ q) : Db (upd H q o) D ks g := ⟨by rw [upd_ne n]; exact h.e, h.nd, h.ok, h.z⟩
theorem Pu.other {H : Hp} {D q : Addr} {us : List Nat} {p : Nat → Int} {o : HO} (h : Pu H D us p) (n : D ≠ q) : Pu (upd H q o) D us p := ⟨by rw [upd_ne n]; exact h.e, h.nd, h.ok, h.z⟩

/-- debts, purses, what is owed -/
structure Cw (H : Hp) (D Pd O : Addr) (ks us : List Nat) (g p : Nat → Int) : Prop where
  db : Db H D ks g
  pu : Pu H Pd us p
  eO : H O = some (.dK (tab lt1 us (owe (dg g))))
  gb : ∀ k, g k ≤ 10 ^ 60
  pb : ∀ i, p i ≤ 10 ^ 200
  n1 : D ≠ Pd
  n2 : D ≠ O
  n4 : Pd ≠ O
  kp : ∀ k ∈ ks, 0 < g k → k / 6 ∈ us ∧ k % 6 ∈ us
theorem Cw.mono {H H' : Hp} {D Pd O : Addr} {ks us : List Nat} {g p : Nat → Int} (h : Cw H D Pd O ks us g p) (s : Same H H') : Cw H' D Pd O ks us g p := ⟨h.db.mono s, h.pu.mono s, s _ _ h.eO, h.gb, h.pb, h.n1, h.n2, h.n4, h.kp⟩
theorem owe_small {g : Nat → Int} (gb : ∀ k, g k ≤ 10 ^ 60) (i : Nat) : owe (dg g) i ≤ 6 * 10 ^ 60 := by
  have dl : ∀ i j, dg g i j ≤ 10 ^ 60 := fun i j => by
    unfold dg
    split
    · exact gb _
    · decide
  unfold owe
  have := sg_le (n := 6) (f := dg g i) (h := fun _ => 10 ^ 60) fun j _ => dl i j
  have e : sg 6 (fun _ => (10 : Int) ^ 60) = 6 * 10 ^ 60 := by decide +kernel
  rw [e] at this
  exact this
theorem sm_of {H : Hp} {D Pd : Addr} {ks us : List Nat} {g p : Nat → Int} (db : Db H D ks g) (pu : Pu H Pd us p) (gb : ∀ k, g k ≤ 10 ^ 60) (pb : ∀ i, p i ≤ 10 ^ 200) : Sm g p := ⟨fun k => by
  have a := db.nn k
  have b := gb k
  have c : (10 : Int) ^ 60 = ((10 ^ 60 : Nat) : Int) := by decide +kernel
  have d : (10 : Nat) ^ 60 < 2 ^ 250 := by decide +kernel
  rw [c] at b
  generalize (2 : Nat) ^ 250 = X at d
  omega, fun i => by
  have a := pu.nn i
  have b := pb i
  have c : (10 : Int) ^ 200 = ((10 ^ 200 : Nat) : Int) := by decide +kernel
  have d : (10 : Nat) ^ 200 < 2 ^ 700 := by decide +kernel
  rw [c] at b
  generalize (2 : Nat) ^ 700 = X at d
  omega⟩
theorem Cw.cn {H : Hp} {D Pd O : Addr} {ks us : List Nat} {g p : Nat → Int} (h : Cw H D Pd O ks us g p) : Cn g p := ⟨h.db.dd, h.pu.nn, sm_of h.db h.pu h.gb h.pb⟩
theorem rz_le {g p : Nat → Int} (gb : ∀ k, g k ≤ 10 ^ 60) (pb : ∀ i, p i ≤ 10 ^ 200) (B : List Nat) (b : Bool) (i : Nat) : rz (dg g) p B b i ≤ 10 ^ 200 := by
  have h1 := owe_small gb i
  have h2 := pb i
  have h3 : (6 * 10 ^ 60 : Int) ≤ 10 ^ 200 := by decide +kernel
  unfold rz
  split
  · generalize (10 : Int) ^ 200 = X at *
    omega
  · exact h2
/-- who has no purse owes nothing -/
theorem owe_none {H : Hp} {D : Addr} {ks us : List Nat} {g : Nat → Int} (db : Db H D ks g) (kp : ∀ k ∈ ks, 0 < g k → k / 6 ∈ us ∧ k % 6 ∈ us) {i : Nat} (n : i ∉ us) : owe (dg g) i = 0 := by
  have e : owe (dg g) i = sg 6 (fun _ => 0) := sg_congr fun j hj => by
    unfold dg
    split
    · rename_i h
      apply Classical.byContradiction
      intro z
      have nn := db.nn (6 * i + j)
      have m : 6 * i + j ∈ ks := Classical.byContradiction fun w => z (db.z _ w)
      have := (kp _ m (by omega)).1
      rw [show (6 * i + j) / 6 = i by omega] at this
      exact n this
    · rfl
  rw [e, sg_zero]
section
variable {P : Program} {w : World} {K : PySem.W.Frag} {mg : Str → Option Value} {base : Heap} {f : Addr} {fd : FuncData}
def spRsd : Sp := fun vs H Q _ => ∃ (D Pd O : Addr) (ks us B : List Nat) (g p : Nat → Int) (b : Bool), vs = [.ref Pd, .ref O, .str (S (pT B)), .bl b] ∧ Cw H D Pd O ks us g p ∧ ∀ R H', Same H H' → H R = none → Pu H' R us (rz (dg g) p B b) → Q (.ref R) H'
theorem ok_raised (F : FnP K "_law_raised" s_raised f fd) (m_max : mg "max" = none) : FnOk P w K mg base CX0 1 f fd P_raised spRsd := by
  refine F.ok sc_raised (fun vs H Q E h => ?_) (fun cdv A outer s H vs Q E hr h => ?_)
  · obtain ⟨D, Pd, O, ks, us, B, g, p, b, rfl, _⟩ := h
    rfl
  · obtain ⟨D, Pd, O, ks, us, B, g, p, b, rfl, hC, q⟩ := h
    refine ⟨_, PSs.nox (pss_cons (ps_set (i := 4) sc_raised.nd rfl (by first | exact .inl rfl | exact .inr rfl) pe_dnewK)
      (pss_cons (ps_lock (ps_for PassesOwn.never rfl (pi_keys (pv 0)) (pg_name (i := 5) sc_raised.nd rfl (by first | exact .inl rfl | exact .inr rfl))
        (pss_cons (ps_dput (hu_of hr) (pv 4) (pv 5) (pe_dget (hu_of hr) (pv 0) (pv 5) (fun _ _ => rfl)) rfl)
      (pss_one (ps_if (pt_cmpR op_eq (pe_cmpR op_in_sign (pv 5) (pv 2) (by rfl)) (pv 3) (nomark _)) (pss_one (ps_dput (hu_of hr) (pv 4) (pv 5) (pe_callB (call_max2 rfl) (by rfl) m_max (by decide +kernel) (pa_cons (pe_dget (hu_of hr) (pv 0) (pv 5) (fun _ _ => rfl)) (pa_cons (pe_dget (hu_of hr) (pv 1) (pv 5) (fun _ _ => rfl)) pa_nil))) rfl)) pss_nil)))))
      (pss_one (ps_ret (pv 4))))), ?_⟩
    rw [show L2.start N_raised [V.ref Pd, V.ref O, V.str (S (pT B)), V.bl b] = [some (.ref Pd), some (.ref O), some (.str (S (pT B))), some (.bl b), none, none] from rfl]
    have lu := hC.pu.len
    walk_at "go"
    intro R nR
    have s1 := same_new (o := .dK []) nR
    have C1 := hC.mono s1
    have eR : (upd H R (.dK [])) R = some (.dK (tab lt1 [] (rz (dg g) p B b))) := upd_same
    have PR : Pd ≠ R := ne_of_none hC.pu.e nR
    have OR : O ≠ R := ne_of_none hC.eO nR
    generalize upd H R (.dK []) = H1 at s1 C1 eR
    walk_at "go"
    refine ⟨Pd, _, C1.pu.e, trivial, fun od => ?_⟩
    have fz : (upd H1 Pd (.frz od (.dK (tab lt1 us p)))) Pd = some (.frz od (.dK (tab lt1 us p))) := upd_same
    have eOz : (upd H1 Pd (.frz od (.dK (tab lt1 us p)))) O = some (.dK (tab lt1 us (owe (dg g)))) := by rw [upd_ne hC.n4.symm]; exact C1.eO
    have eRz : (upd H1 Pd (.frz od (.dK (tab lt1 us p)))) R = some (.dK (tab lt1 [] (rz (dg g) p B b))) := by rw [upd_ne PR.symm]; exact eR
    walk_at "go"
    refine ⟨Pd, od, rfl, .inl ⟨_, fz, ?_⟩⟩
    generalize eJ : upd H1 Pd (.frz od (.dK (tab lt1 us p))) = J at fz eOz eRz
    refine for_gen (n := us.length) (fun k σ J' => SB R J J' ∧ J' R = some (.dK (tab lt1 (us.take k) (rz (dg g) p B b))) ∧ ∃ v5 : Option V, σ = [some (.ref Pd), some (.ref O), some (.str (S (pT B))), some (.bl b), some (.ref R), v5]) ⟨Z.Same.sb (Same.refl _), eRz, none, rfl⟩ ?_ ?_ ?_ ?_
    · rintro k σ J' hk ⟨sJ, _⟩
      exact ⟨sJ _ _ PR fz, by rw [tab_len]; exact hk⟩
    · rintro σ J' ⟨sJ, _⟩
      exact ⟨sJ _ _ PR fz, by rw [tab_len]; exact Nat.le_refl _⟩
    · rintro k σ J1 x J2 hk ⟨sJ, eR1, v5, rfl⟩ ⟨rfl, kk, z, e, rfl⟩
      rw [tab_at hk] at e
      cases e
      have tk : us.take (k + 1) = us.take k ++ [us[k]] := by rw [List.take_succ, List.getElem?_eq_getElem hk]; rfl
      have nin : us[k] ∉ us.take k := fun z => by
        obtain ⟨j, hj, ej⟩ := List.getElem_of_mem z
        rw [List.length_take] at hj
        rw [List.getElem_take] at ej
        have := (List.getElem_inj hC.pu.nd).mp ej
        omega
      have hm := List.getElem_mem hk
      have ll : (us.take k).length ≤ 1000 := by rw [List.length_take]; omega
      rw [tk]
      generalize us[k] = c at hm nin
      generalize us.take k = ut at eR1 nin ll
      walk_at "go"
      refine ⟨Pd, _, rfl, fz1 (sJ _ _ PR fz) hm, ?_⟩
      have pt := tab_put (key := lt1) (fun _ _ => lt1_inj) ut (rz (dg g) p B b) c (p c)
      rw [if_neg nin] at pt
      walk_at "go"
      refine ⟨R, _, rfl, DPut.k (k := Sum.inr (lt1 c)) (v := .int (p c)) eR1 (by rw [tab_len]; exact szlt (by omega)), ?_⟩
      rw [pt]
      have sb2 : SB R J (upd J2 R (.dK (tab lt1 (ut ++ [c]) fun j => if j = c then p c else rz (dg g) p B b j))) := SB.upd sJ
      have eR2 : (upd J2 R (.dK (tab lt1 (ut ++ [c]) fun j => if j = c then p c else rz (dg g) p B b j))) R = some (.dK (tab lt1 (ut ++ [c]) fun j => if j = c then p c else rz (dg g) p B b j)) := upd_same
      generalize upd J2 R (.dK (tab lt1 (ut ++ [c]) fun j => if j = c then p c else rz (dg g) p B b j)) = J3 at sb2 eR2
      clear pt
      walk_at "go"
      have ei : decide (97 + c ∈ (S (pT B)).cps.toList) = decide (c ∈ B) := in_pT _ _
      rw [ei]
      have lkv : ∀ j, j ≠ c → (if j = c then p c else rz (dg g) p B b j) = rz (dg g) p B b j := fun j n => if_neg n
      refine ite2 (fun e => ?_) (fun e => ?_)
      · have hb : decide (c ∈ B) = b := V.bl.inj (of_decide_eq_true e)
        walk_at "go"
        refine ⟨Pd, _, rfl, fz1 (sb2 _ _ PR fz) hm, ?_⟩
        walk_at "go"
        refine ⟨O, _, rfl, tab_get (key := lt1) (fun _ _ => lt1_inj) (sb2 _ _ OR eOz) hm, ?_⟩
        walk_at "go"
        refine ⟨R, _, rfl, DPut.k (k := Sum.inr (lt1 c)) (v := .int _) eR2 (by rw [tab_len, List.length_append, List.length_singleton]; exact szlt (by omega)), ?_⟩
        have pt := tab_put (key := lt1) (fun _ _ => lt1_inj) (ut ++ [c]) (fun j => if j = c then p c else rz (dg g) p B b j) c (if owe (dg g) c > p c then owe (dg g) c else p c)
        rw [if_pos (List.mem_append.mpr (.inr (List.mem_singleton.mpr rfl)))] at pt
        rw [pt]
        have ef : (fun j => if j = c then (if owe (dg g) c > p c then owe (dg g) c else p c) else if j = c then p c else rz (dg g) p B b j) = rz (dg g) p B b := funext fun j => by
          by_cases e : j = c
          · rw [if_pos e, e]
            unfold rz
            rw [if_pos hb]
            split <;> omega
          · rw [if_neg e, if_neg e]
        rw [ef]
        exact ⟨SB.upd sb2, upd_same, _, rfl⟩
      · have hb : ¬ decide (c ∈ B) = b := fun z => e (decide_eq_true (by rw [z]))
        have ef : (fun j => if j = c then p c else rz (dg g) p B b j) = rz (dg g) p B b := funext fun j => by
          by_cases e : j = c
          · rw [if_pos e, e]
            unfold rz
            rw [if_neg hb]
          · rw [if_neg e]
        rw [ef] at eR2
        exact ⟨sb2, eR2, _, rfl⟩
    · rintro σ J1 ⟨sJ, eR1, v5, rfl⟩
      rw [List.take_of_length_le (Nat.le_refl _)] at eR1
      have fz1 := sJ _ _ PR fz
      refine ⟨fz1, ?_⟩
      subst eJ
      have sbA : SB R H1 (upd J1 Pd (.dK (tab lt1 us p))) := fun b o n e => by
        by_cases c : b = Pd
        · rw [c] at e ⊢
          rw [upd_same, ← e]
          exact C1.pu.e.symm
        · rw [upd_ne c]
          exact sJ _ _ n (by rw [upd_ne c]; exact e)
      have s4 : Same H (upd J1 Pd (.dK (tab lt1 us p))) := fun b o e => sbA b o (ne_of_none e nR) (s1 b o e)
      have eR4 : (upd J1 Pd (.dK (tab lt1 us p))) R = some (.dK (tab lt1 us (rz (dg g) p B b))) := by rw [upd_ne PR.symm]; exact eR1
      walk_at "go"
      exact q R _ s4 nR ⟨eR4, hC.pu.nd, fun i m => ⟨(hC.pu.ok i m).1, rz_nn hC.pu.nn B b i⟩, fun i m => by
        have z := hC.pu.z i m
        have o := owe_none hC.db hC.kp m
        unfold rz
        rw [z, o]
        split <;> rfl⟩
end
end Z
set_option pp.maxSteps 700
set_option Elab.async false
set_option linter.all false
set_option maxRecDepth 100000
set_option maxHeartbeats 4000000
set_option exponentiation.threshold 5000
open SX (S S_inj S_len S_cat)
namespace Z
open Cl
open PySem PySem.Spec PyProof.Rows L2
open C8 (pss_cut tCut)
local macro_rules | `(tactic| walk_at "num") => `(tactic| first | rfl | omega | decide | exact Nat.le_of_lt (small1000 (by simp)) | exact ⟨by omega, by omega⟩ | exact ⟨by omega, by omega, by omega⟩ | exact ⟨by decide, by decide, by decide⟩ | exact Or.inl ⟨by omega, by omega⟩ | exact Or.inr ⟨by omega, by omega⟩)
local macro_rules | `(tactic| walk_at "go") => `(tactic| repeat (first | refine ⟨_, rfl, ?_⟩ | refine ⟨_, _, rfl, rfl, ?_⟩ | refine ⟨_, _, rfl, ?_⟩ | (refine ⟨_, _, rfl, rfl, ?_, ?_⟩; focus walk_at "num") | refine Or.inl ⟨_, rfl, ?_⟩ | refine ⟨_, _, _, _, rfl, rfl, (by assumption), (by rfl), ?_⟩ | refine ⟨_, _, _, _, _, rfl, (by assumption), (by assumption), (by assumption), (by rfl), ?_⟩ | refine ⟨rfl, ?_⟩ | (refine And.intro ?_ ?_; focus walk_at "num")))
abbrev s_next_text : Stmt := topS 45
abbrev N_next_text : List Str := ["_law_debts_here", "_law_purses_here", "_law_owes_here", "_law_paid", "_law_before", "_law_fresh", "_law_party", "_law_has_here"]
abbrev P_next_text : List Str := ["_law_debts_here", "_law_purses_here", "_law_owes_here", "_law_paid", "_law_before"]
theorem sc_next_text : FnScope N_next_text P_next_text (defScope s_next_text) := ⟨rfl, rfl, rfl, by decide +kernel, rfl, by decide +kernel, by decide +kernel⟩
section
variable {P : Program} {w : World} {K : PySem.W.Frag} {mg : Str → Option Value} {base : Heap} {f : Addr} {fd : FuncData}
def spNxt : Sp := fun vs H Q _ => ∃ (D Pd O a : Addr) (ks us B : List Nat) (g p q : Nat → Int), vs = [.ref D, .ref Pd, .ref O, .ref a, .str (S (pT B))] ∧ Cw H D Pd O ks us g p ∧ PaD H a us (pyX (dg g) q) (pyY (dg g) q) ∧ Cn g q ∧ fin (dg g) q = B ∧ (∀ i ∈ B, q i = p i) ∧ D ≠ a ∧ ∀ t H', Same H H' → H' t = some (.tup [.bl true, .str (S (pT (frs (dg g) p B)))]) → Q (.ref t) H'
theorem ok_next_text (F : FnP K "_law_next_text" s_next_text f fd) (c_has : Cal P w K mg base 1 "_law_has" spHas) : FnOk P w K mg base CX0 2 f fd P_next_text spNxt := by
  refine F.ok sc_next_text (fun vs H Q E h => ?_) (fun cdv A outer s H vs Q E hr h => ?_)
  · obtain ⟨D, Pd, O, a, ks, us, B, g, p, q, rfl, _⟩ := h
    rfl
  · obtain ⟨D, Pd, O, a, ks, us, B, g, p, q, rfl, hC, hA, cn, fB, qB, n3, Qk⟩ := h
    refine ⟨_, PSs.nox (pss_cons (ps_set (i := 5) sc_next_text.nd rfl (by first | exact .inl rfl | exact .inr rfl) pe_str)
      (pss_cons (ps_for PassesOwn.never rfl (pi_str pe_str) (pg_name (i := 6) sc_next_text.nd rfl (by first | exact .inl rfl | exact .inr rfl))
        (pss_one (ps_if (pt_cmp (pc_din (hu_of hr) (pv 6) (pv 1)) (by rfl)) (pss_cons (ps_set (i := 7) sc_next_text.nd rfl (by first | exact .inl rfl | exact .inr rfl) (pe_cl c_has hr (by decide) (by rfl) (pa_cons (pv 0) (pa_cons (pe_dget (hu_of hr) (pv 1) (pv 6) (fun _ _ => rfl)) (pa_cons (pv 2) (pa_cons (pv 3) (pa_cons (pv 6) pa_nil)))))))
      (pss_one (ps_if (pt_cmpR op_in_sign (pv 6) (pv 4) (by rfl)) (pss_one (ps_if (pt_cmpR op_ne (pe_op op_mulW (pe_ix ix_tup (pe_dget (hu_of hr) (pv 3) (pv 6) (fun _ _ => rfl)) pe_int (fun _ _ => rfl)) (pe_ix ix_tup (pv 7) pe_int (fun _ _ => rfl))) (pe_op op_mulW (pe_ix ix_tup (pv 7) pe_int (fun _ _ => rfl)) (pe_ix ix_tup (pe_dget (hu_of hr) (pv 3) (pv 6) (fun _ _ => rfl)) pe_int (fun _ _ => rfl))) (nomark _)) (pss_one (ps_ret (pe_tup (pa_cons pe_bl (pa_cons pe_str pa_nil))))) pss_nil)) (pss_cons (ps_if (pt_cmpR op_ne (pe_ix ix_tup (pe_dget (hu_of hr) (pv 3) (pv 6) (fun _ _ => rfl)) pe_int (fun _ _ => rfl)) (pe_op op_mulW (pe_dget (hu_of hr) (pv 2) (pv 6) (fun _ _ => rfl)) (pe_ix ix_tup (pe_dget (hu_of hr) (pv 3) (pv 6) (fun _ _ => rfl)) pe_int (fun _ _ => rfl))) (nomark _)) (pss_one (ps_ret (pe_tup (pa_cons pe_bl (pa_cons pe_str pa_nil))))) pss_nil)
      (pss_one (ps_if (pt_cmpR op_lt (pe_ix ix_tup (pv 7) pe_int (fun _ _ => rfl)) (pe_op op_mulW (pe_dget (hu_of hr) (pv 2) (pv 6) (fun _ _ => rfl)) (pe_ix ix_tup (pv 7) pe_int (fun _ _ => rfl))) (nomark _)) (pss_one (ps_set (i := 5) sc_next_text.nd rfl (by first | exact .inl rfl | exact .inr rfl) (pe_op op_add_str (pv 5) (pv 6)))) pss_nil)))))) pss_nil)))
      (pss_one (ps_ret (pe_tup (pa_cons pe_bl (pa_cons (pv 5) pa_nil))))))), ?_⟩
    rw [show L2.start N_next_text [V.ref D, V.ref Pd, V.ref O, V.ref a, V.str (S (pT B))] = [some (.ref D), some (.ref Pd), some (.ref O), some (.ref a), some (.str (S (pT B))), none, none, none] from rfl]
    have lu := hC.pu.len
    have e0 : Str.ofString "" = S (pT []) := by decide +kernel
    have cs := scl_congr (d := dg g) (p := q) (q := p) qB
    have ch := shr_congr (d := dg g) (p := q) (q := p) qB
    have scn := hC.cn
    have iv := fin_iv cn.dd cn.pn
    rw [fB] at iv
    walk_at "go"
    rw [e0]
    refine for_gen (n := 6) (fun k σ J => Same H J ∧ ∃ v6 v7 : Option V, σ = [some (.ref D), some (.ref Pd), some (.ref O), some (.ref a), some (.str (S (pT B))), some (.str (S (pT ((List.range k).filter fun j => decide (j ∈ frs (dg g) p B))))), v6, v7]) ⟨Same.refl _, none, none, rfl⟩ ?_ ?_ ?_ ?_
    · rintro i σ J hi _
      show i < (Str.ofString "abcdef").cps.size
      rw [abc_sz]
      exact hi
    · rintro σ J _
      show (Str.ofString "abcdef").cps.size ≤ 6
      rw [abc_sz]
      exact Nat.le_refl _
    · rintro i σ J x J' hi ⟨s1, v6, v7, rfl⟩ ⟨rfl, c, ec, rfl⟩
      rw [abc_at i hi] at ec
      cases ec
      have C1 := hC.mono s1
      have A1 := hA.mono s1
      have no : i ∉ frs (dg g) p B → S (pT ((List.range (i + 1)).filter fun j => decide (j ∈ frs (dg g) p B))) = S (pT ((List.range i).filter fun j => decide (j ∈ frs (dg g) p B))) := fun n => by
        rw [List.range_succ, List.filter_append, List.filter_cons_of_neg (by rw [decide_eq_true_eq]; exact n), List.filter_nil, List.append_nil]
      have yes : i ∈ frs (dg g) p B → S (pT ((List.range (i + 1)).filter fun j => decide (j ∈ frs (dg g) p B))) = S (pT ((List.range i).filter fun j => decide (j ∈ frs (dg g) p B))) ++ (⟨#[97 + i]⟩ : Str) := fun m => by
        rw [List.range_succ, List.filter_append, List.filter_cons_of_pos (p := fun j => decide (j ∈ Cl.frs (dg g) p B)) (decide_eq_true m), List.filter_nil, ← pT_app]
        rfl
      walk_at "go"
      have dP : DGet J' Pd (.str (lt1 i)) (if i ∈ us then some (.int (p i)) else none) := .inl ⟨tab lt1 us p, Sum.inr (lt1 i), .inl C1.pu.e, rfl, by rw [tab_val (fun _ _ => lt1_inj)]⟩
      refine ⟨Pd, _, rfl, dP, ?_⟩
      walk_at "go"
      by_cases mp : i ∈ us
      · rw [if_pos mp]
        refine iteT ?_
        walk_at "go"
        refine ⟨Pd, _, rfl, tab_get (key := lt1) (fun _ _ => lt1_inj) C1.pu.e mp, ?_⟩
        walk_at "go"
        refine ⟨D, O, a, ks, us, g, q, p i, i, rfl, C1.db, C1.eO, A1, cn, hC.n2, n3, hi, fun k m z => (hC.kp k m z).1, scn.sm.p i, fun t top low J3 s3 et l0 eq bt bl => ?_⟩
        have C3 := C1.mono s3
        obtain ⟨tq, dq, eq_⟩ := (A1.mono s3).get mp
        have dO := tab_get (key := lt1) (fun _ _ => lt1_inj) C3.eO mp
        rw [fB] at eq
        walk_at "go"
        have ei : decide (97 + i ∈ (S (pT B)).cps.toList) = decide (i ∈ B) := in_pT _ _
        rw [ei]
        refine ite2 (fun e => ?_) (fun e => ?_)
        · have m : i ∈ B := of_decide_eq_true e
          have ee := has_fin cn.dd cn.pn l0 (by rw [fB, qB i m]; exact eq) (by rw [fB]; exact m)
          walk_at "go"
          refine ⟨a, _, rfl, dq, ?_⟩
          walk_at "go"
          refine ⟨tq, _, _, _, rfl, rfl, SqT.of eq_, atI_nat (j := 0) rfl, ?_⟩
          walk_at "go"
          refine ⟨t, _, _, _, rfl, rfl, SqT.of et, atI_nat (j := 1) rfl, ?_⟩
          walk_at "go"
          refine ⟨wide_mul (cn.x i) bl.h (by decide) (by decide) (by decide), ?_⟩
          walk_at "go"
          refine ⟨t, _, _, _, rfl, rfl, SqT.of et, atI_nat (j := 0) rfl, ?_⟩
          walk_at "go"
          refine ⟨a, _, rfl, dq, ?_⟩
          walk_at "go"
          refine ⟨tq, _, _, _, rfl, rfl, SqT.of eq_, atI_nat (j := 1) rfl, ?_⟩
          walk_at "go"
          refine ⟨wide_mul bt.h (cn.y i) (by decide) (by decide) (by decide), ?_⟩
          walk_at "go"
          refine ite2 (fun z => ?_) (fun _ => ?_)
          · rw [show decide (V.int ((pyX (dg g) q i : Int) * low) = V.int (top * (pyY (dg g) q i : Int))) = true from decide_eq_true (by rw [ee])] at z
            exact absurd z (by decide)
          · rw [no fun z => (mem_frs.mp z).2.1 m]
            exact ⟨s1.trans s3, _, _, rfl⟩
        · have m : i ∉ B := fun z => e (decide_eq_true z)
          have pays := (pays_iff cn.dd cn.pn i).mpr (by rw [fB]; exact m)
          have lt := has_frs (d := dg g) cn.dd iv hi m l0 eq
          rw [cs, ch] at lt
          walk_at "go"
          refine ⟨a, _, rfl, dq, ?_⟩
          walk_at "go"
          refine ⟨tq, _, _, _, rfl, rfl, SqT.of eq_, atI_nat (j := 0) rfl, ?_⟩
          walk_at "go"
          refine ⟨O, _, rfl, dO, ?_⟩
          walk_at "go"
          refine ⟨a, _, rfl, dq, ?_⟩
          walk_at "go"
          refine ⟨tq, _, _, _, rfl, rfl, SqT.of eq_, atI_nat (j := 1) rfl, ?_⟩
          walk_at "go"
          refine ⟨wide_mul (owe_bg cn.sm.g i) (cn.y i) (by decide) (by decide) (by decide), ?_⟩
          walk_at "go"
          refine ite2 (fun z => ?_) (fun _ => ?_)
          · rw [show decide (V.int (pyX (dg g) q i : Int) = V.int (owe (dg g) i * (pyY (dg g) q i : Int))) = true from decide_eq_true (by rw [pays])] at z
            exact absurd z (by decide)
          walk_at "go"
          refine ⟨t, _, _, _, rfl, rfl, SqT.of et, atI_nat (j := 0) rfl, ?_⟩
          walk_at "go"
          refine ⟨O, _, rfl, dO, ?_⟩
          walk_at "go"
          refine ⟨t, _, _, _, rfl, rfl, SqT.of et, atI_nat (j := 1) rfl, ?_⟩
          walk_at "go"
          refine ⟨wide_mul (owe_bg cn.sm.g i) bl.h (by decide) (by decide) (by decide), ?_⟩
          walk_at "go"
          refine ite2 (fun l => ?_) (fun l => ?_)
          · have mf : i ∈ Cl.frs (dg g) p B := mem_frs.mpr ⟨hi, m, lt.mp (of_decide_eq_true l)⟩
            walk_at "go"
            refine ⟨szl ?_, ?_⟩
            · rw [pT_len]
              show _ + 1 ≤ 2000
              have := List.length_filter_le (fun j => decide (j ∈ Cl.frs (dg g) p B)) (List.range i)
              rw [List.length_range] at this
              omega
            · rw [← yes mf]
              exact ⟨s1.trans s3, _, _, rfl⟩
          · rw [no fun z => l (decide_eq_true (lt.mpr (mem_frs.mp z).2.2))]
            exact ⟨s1.trans s3, _, _, rfl⟩
      · rw [if_neg mp]
        refine iteF ?_
        rw [no fun z => by
          obtain ⟨_, hn, l⟩ := mem_frs.mp z
          rw [owe_none hC.db hC.kp mp] at l
          rw [← cs, ← ch] at l
          exact not_short (show (0 : Int) ≤ p i from hC.pu.nn i) (iv.eqs cn.dd).pos (rcv_nn cn.dd (fun j _ => iv.nn cn.dd j) i) l]
        exact ⟨s1, _, _, rfl⟩
    · rintro σ J ⟨sJ, v6, v7, rfl⟩
      have e6 : ((List.range 6).filter fun j => decide (j ∈ Cl.frs (dg g) p B)) = Cl.frs (dg g) p B := by
        conv => rhs; unfold Cl.frs
        refine List.filter_congr fun j hj => decide_eq_decide.mpr ?_
        rw [mem_frs]
        exact ⟨fun z => z.2, fun z => ⟨List.mem_range.mp hj, z⟩⟩
      rw [e6]
      walk_at "go"
      intro t nt
      have s1 := same_new (o := .tup [.bl true, .str (S (pT (frs (dg g) p B)))]) nt
      exact Qk t _ (sJ.trans s1) upd_same
end
end Z
set_option pp.maxSteps 700
set_option Elab.async false
set_option linter.all false
set_option maxRecDepth 100000
set_option maxHeartbeats 4000000
set_option exponentiation.threshold 5000
open SX (S S_inj S_len S_cat)
namespace Z
open Cl
open PySem PySem.Spec PyProof.Rows L2
open C8 (pss_cut tCut)
local macro_rules | `(tactic| walk_at "num") => `(tactic| first | rfl | omega | decide | exact Nat.le_of_lt (small1000 (by simp)) | exact ⟨by omega, by omega⟩ | exact ⟨by omega, by omega, by omega⟩ | exact ⟨by decide, by decide, by decide⟩ | exact Or.inl ⟨by omega, by omega⟩ | exact Or.inr ⟨by omega, by omega⟩)
local macro_rules | `(tactic| walk_at "go") => `(tactic| repeat (first | refine ⟨_, rfl, ?_⟩ | refine ⟨_, _, rfl, rfl, ?_⟩ | refine ⟨_, _, rfl, ?_⟩ | (refine ⟨_, _, rfl, rfl, ?_, ?_⟩; focus walk_at "num") | refine Or.inl ⟨_, rfl, ?_⟩ | refine ⟨_, _, _, _, rfl, rfl, (by assumption), (by rfl), ?_⟩ | refine ⟨_, _, _, _, _, rfl, (by assumption), (by assumption), (by assumption), (by rfl), ?_⟩ | refine ⟨rfl, ?_⟩ | (refine And.intro ?_ ?_; focus walk_at "num")))
abbrev s_chain : Stmt := topS 40
abbrev N_chain : List Str := ["_law_draws_here", "_law_place", "_law_parties_here", "_law_top", "_law_debts_here", "_law_purses_here", "_law_k", "_law_draw"]
abbrev P_chain : List Str := ["_law_draws_here", "_law_place", "_law_parties_here"]
theorem sc_chain : FnScope N_chain P_chain (defScope s_chain) := ⟨rfl, rfl, rfl, by decide +kernel, rfl, by decide +kernel, by decide +kernel⟩
/-- a chain so far -/
def ChD (H : Hp) (D : Addr) (ps : List Nat) : Prop := ∃ ks g, Db H D ks g ∧ (∀ k, g k ≤ 10 ^ 60) ∧ ∀ k ∈ ks, k / 6 ∈ ps ∧ k % 6 ∈ ps
def ChP (H : Hp) (Pd : Addr) (ps : List Nat) (i : Nat) : Prop := ∃ us p, Pu H Pd us p ∧ (∀ i, p i ≤ 10 ^ 200) ∧ ∀ m (h : m < ps.length), m < i → ps[m] ∈ us
theorem ChD.sb {H H' : Hp} {D q : Addr} {ps : List Nat} (h : ChD H D ps) (s : SB q H H') (n : D ≠ q) : ChD H' D ps := by
  obtain ⟨ks, g, d, r⟩ := h
  exact ⟨ks, g, ⟨s _ _ n d.e, d.nd, d.ok, d.z⟩, r⟩
theorem ChP.sb {H H' : Hp} {D q : Addr} {ps : List Nat} {i : Nat} (h : ChP H D ps i) (s : SB q H H') (n : D ≠ q) : ChP H' D ps i := by
  obtain ⟨us, p, d, r⟩ := h
  exact ⟨us, p, ⟨s _ _ n d.e, d.nd, d.ok, d.z⟩, r⟩
theorem ChD.put {H : Hp} {D : Addr} {ps : List Nat} (h : ChD H D ps) {u v : Nat} (hu : u ∈ ps) (hv : v ∈ ps) (v6 : v < 6) (hk : KOk (6 * u + v)) {c : Int} (c0 : 0 ≤ c) (c1 : c ≤ 10 ^ 60) : ∃ O, DPut H D (.str (ky (6 * u + v))) (.int c) (upd H D O) ∧ ChD (upd H D O) D ps := by
  obtain ⟨ks, g, d, gb, kp⟩ := h
  refine ⟨_, d.dput (6 * u + v) (.int c), _, _, d.put hk c0, fun k => ?_, fun k hk => ?_⟩
  · show (if _ then _ else _) ≤ _
    split
    · exact c1
    · exact gb k
  · have e : k ∈ ks ∨ k = 6 * u + v := by
      split at hk
      · exact .inl hk
      · exact (List.mem_append.mp hk).imp id List.mem_singleton.mp
    rcases e with e | e
    · exact kp k e
    · rw [e, show (6 * u + v) / 6 = u by omega, show (6 * u + v) % 6 = v by omega]
      exact ⟨hu, hv⟩
theorem ChP.put {H : Hp} {D : Addr} {ps : List Nat} {i : Nat} (h : ChP H D ps i) {c : Int} (hi : i < ps.length) (x6 : ps[i] < 6) (c0 : 0 ≤ c) (c1 : c ≤ 10 ^ 200) : ∃ O, DPut H D (.str (lt1 ps[i])) (.int c) (upd H D O) ∧ ChP (upd H D O) D ps (i + 1) := by
  obtain ⟨us, p, d, pb, cov⟩ := h
  refine ⟨_, d.dput ps[i] c, _, _, d.put x6 c0, fun k => ?_, fun m hm l => ?_⟩
  · show (if _ then _ else _) ≤ _
    split
    · exact c1
    · exact pb k
  · have e : ps[m] ∈ us ∨ m = i := by
      by_cases e : m = i
      · exact .inr e
      · exact .inl (cov m hm (by omega))
    rcases e with e | e
    · split
      · exact e
      · exact List.mem_append.mpr (.inl e)
    · subst e
      split
      · rename_i z
        exact z
      · exact List.mem_append.mpr (.inr (List.mem_singleton.mpr rfl))
theorem ChP.put2 {H : Hp} {D : Addr} {ps : List Nat} {i : Nat} (h : ChP H D ps (i + 1)) {c : Int} (hi : i < ps.length) (x6 : ps[i] < 6) (c0 : 0 ≤ c) (c1 : c ≤ 10 ^ 200) : ∃ O, DPut H D (.str (lt1 ps[i])) (.int c) (upd H D O) ∧ ChP (upd H D O) D ps (i + 1) := by
  obtain ⟨us, p, d, pb, cov⟩ := h
  exact ChP.put ⟨us, p, d, pb, fun m hm l => cov m hm (by omega)⟩ hi x6 c0 c1
section
variable {P : Program} {w : World} {K : PySem.W.Frag} {mg : Str → Option Value} {base : Heap} {f : Addr} {fd : FuncData}
def spChn (K : PySem.W.Frag) : Sp := fun vs H Q _ => ∃ (a q : Addr) (n : Nat) (ds : List Int) (ps : List Nat), vs = [.ref a, .ref q, .str (S (pT ps))] ∧ Tk K a q ds n H H ∧ ps.Nodup ∧ (∀ x ∈ ps, x < 6) ∧ 2 ≤ ps.length ∧ ps.length ≤ 6 ∧
  ∀ t D Pd ks us (g p : Nat → Int) H', Tk K a q ds n H H' → H' t = some (.tup [.ref D, .ref Pd]) → Db H' D ks g → (∀ k, g k ≤ 10 ^ 60) → Pu H' Pd us p → (∀ i, p i ≤ 10 ^ 200) → D ≠ Pd → (∀ k ∈ ks, k / 6 ∈ us ∧ k % 6 ∈ us) → Q (.ref t) H'
theorem ok_chain (F : FnP K "_law_chain" s_chain f fd) (m_int : mg "int" = none) (m_len : mg "len" = none) (m_range : mg "range" = none) (c_take : Cal P w K mg base 1 "_law_take" (spTake K)) : FnOk P w K mg base CX0 2 f fd P_chain (spChn K) := by
  refine F.ok sc_chain (fun vs H Q E h => ?_) (fun cdv A outer s H vs Q E hr h => ?_)
  · obtain ⟨a, q, n, ds, ps, rfl, _⟩ := h
    rfl
  · obtain ⟨a, q0, n, ds, ps, rfl, hT, nd, p6, l2, l6, q⟩ := h
    refine ⟨_, PSs.nox (pss_cons (ps_set (i := 3) sc_chain.nd rfl (by first | exact .inl rfl | exact .inr rfl) (pe_op op_add pe_int (pe_op op_mod (pe_callTy call_int1 (by rfl) m_int (by decide +kernel) (pa_cons (pe_cl c_take hr (by decide) (by rfl) (pa_cons (pv 0) (pa_cons (pv 1) pa_nil))) pa_nil)) pe_int)))
      (pss_cons (ps_set (i := 4) sc_chain.nd rfl (by first | exact .inl rfl | exact .inr rfl) pe_dnewK)
      (pss_cons (ps_set (i := 5) sc_chain.nd rfl (by first | exact .inl rfl | exact .inr rfl) pe_dnewK)
      (pss_cons (ps_for PassesOwn.never rfl (pi_range1 (by rfl) m_range (pa_cons (pe_callB call_len_str (by rfl) m_len PySem.boot_len (pa_cons (pv 2) pa_nil)) pa_nil)) (pg_name (i := 6) sc_chain.nd rfl (by first | exact .inl rfl | exact .inr rfl))
        (pss_cons (ps_set (i := 7) sc_chain.nd rfl (by first | exact .inl rfl | exact .inr rfl) (pe_cl c_take hr (by decide) (by rfl) (pa_cons (pv 0) (pa_cons (pv 1) pa_nil))))
      (pss_cons (ps_dput (hu_of hr) (pv 5) (pe_ix ix_str (pv 2) (pv 6) (fun _ _ => rfl)) (pe_op op_mod (pe_callTy call_int1 (by rfl) m_int (by decide +kernel) (pa_cons (pv 7) pa_nil)) pe_int) rfl)
      (pss_cut (ps_if (pt_cmpR op_eq (pv 6) pe_int (nomark _)) (pss_one (ps_dput (hu_of hr) (pv 5) (pe_ix ix_str (pv 2) (pv 6) (fun _ _ => rfl)) (pe_op op_sub (pe_op op_sub (pv 3) pe_int) (pe_op op_mod (pe_callTy call_int1 (by rfl) m_int (by decide +kernel) (pa_cons (pe_op op_fdiv (pv 7) pe_int) pa_nil)) pe_int)) rfl)) pss_nil)
      (pss_cut (ps_if (pt_cmpR op_lt (pe_op op_add (pv 6) pe_int) (pe_callB call_len_str (by rfl) m_len PySem.boot_len (pa_cons (pv 2) pa_nil)) (nomark _)) (pss_one (ps_dput (hu_of hr) (pv 4) (pe_op op_add_str (pe_ix ix_str (pv 2) (pv 6) (fun _ _ => rfl)) (pe_ix ix_str (pv 2) (pe_op op_add (pv 6) pe_int) (fun _ _ => rfl))) (pe_op op_sub (pv 3) (pv 6)) rfl)) pss_nil)
      (pss_one (ps_if (PW.pt (pw_and (pt_cmpR op_gt (pv 6) pe_int (nomark _)) (pw_and1 (pt_cmpR op_eq (pe_op op_mod (pe_callTy call_int1 (by rfl) m_int (by decide +kernel) (pa_cons (pe_op op_fdiv (pv 7) pe_int) pa_nil)) pe_int) pe_int (nomark _))))) (pss_one (ps_dput (hu_of hr) (pv 4) (pe_op op_add_str (pe_ix ix_str (pv 2) (pv 6) (fun _ _ => rfl)) (pe_ix ix_str (pv 2) (pe_op op_mod (pe_callTy call_int1 (by rfl) m_int (by decide +kernel) (pa_cons (pe_op op_fdiv (pv 7) pe_int) pa_nil)) (pv 6)) (fun _ _ => rfl))) (pe_op op_mod (pe_callTy call_int1 (by rfl) m_int (by decide +kernel) (pa_cons (pe_op op_fdiv (pv 7) pe_int) pa_nil)) pe_int) rfl)) pss_nil)))))))
      (pss_one (ps_ret (pe_tup (pa_cons (pv 4) (pa_cons (pv 5) pa_nil))))))))), ?_⟩
    have pl : (S (pT ps)).length = ps.length := pT_len ps
    have hlen : (S (pT ps)).length ≤ sizeLine := by rw [pl]; exact szl (by omega)
    rw [show L2.start N_chain [V.ref a, V.ref q0, V.str (S (pT ps))] = [some (.ref a), some (.ref q0), some (.str (S (pT ps))), none, none, none, none, none] from rfl]
    obtain ⟨m1, em1⟩ := hT.pl
    walk_at "go"
    refine ⟨a, q0, n, m1, ds, rfl, SqL.of hT.hA, hT.hd, em1, hT.ne, fun r r0 r1 => ?_⟩
    obtain ⟨hT2, _⟩ := hT.next em1
    generalize upd H q0 (.lst [.int ((m1 + 1 : Nat) : Int)]) = H2 at hT2
    have c0 := Int.emod_nonneg r (show (6 : Int) ≠ 0 by decide)
    have c1 := Int.emod_lt_of_pos r (show (0 : Int) < 6 by decide)
    walk_at "go"
    intro D nD
    have sD := same_new (o := .dK []) nD
    have hT3 := hT2.more sD
    have d0 : Db (upd H2 D (.dK [])) D [] (fun _ => 0) := ⟨upd_same, List.nodup_nil, fun k m => absurd m (by simp), fun k _ => rfl⟩
    generalize upd H2 D (.dK []) = H3 at sD hT3 d0
    walk_at "go"
    intro Pd nP
    have sP := same_new (o := .dK []) nP
    have hT4 := hT3.more sP
    have DP : D ≠ Pd := ne_of_none d0.e nP
    have d1 := d0.mono sP
    have u1 : Pu (upd H3 Pd (.dK [])) Pd [] (fun _ => 0) := ⟨upd_same, List.nodup_nil, fun k m => absurd m (by simp), fun k _ => rfl⟩
    generalize upd H3 Pd (.dK []) = H4 at sP hT4 d1 u1
    have Dq : D ≠ q0 := fun z => by
      obtain ⟨m, e⟩ := hT2.pl
      rw [z, e] at nD
      cases nD
    have Pq : Pd ≠ q0 := fun z => by
      obtain ⟨m, e⟩ := hT3.pl
      rw [z, e] at nP
      cases nP
    have nD0 : H D = none := by
      cases e : H D with
      | none => rfl
      | some o =>
        have := hT2.sb _ _ Dq e
        rw [this] at nD
        cases nD
    have nP0 : H Pd = none := by
      cases e : H Pd with
      | none => rfl
      | some o =>
        have := hT3.sb _ _ Pq e
        rw [this] at nP
        cases nP
    have aD : a ≠ D := ne_of_none hT.hA nD0
    have aP : a ≠ Pd := ne_of_none hT.hA nP0
    have cd : ChD H4 D ps := ⟨_, _, d1, fun _ => (by decide), fun k m => absurd m (by simp)⟩
    have cp : ChP H4 Pd ps 0 := ⟨_, _, u1, fun _ => (by decide), fun m h z => absurd z (Nat.not_lt_zero _)⟩
    clear d0 d1 u1 hT2 hT3 sD sP
    have b60 : (18 : Int) ≤ 10 ^ 60 := by decide +kernel
    have b200 : (18 : Int) ≤ 10 ^ 200 := by decide +kernel
    have tput : ∀ {J : Hp} {X : Addr} {o : HO}, Tk K a q0 ds n H J → H X = none → X ≠ q0 → a ≠ X → Tk K a q0 ds n H (upd J X o) ∧ SB X J (upd J X o) := fun {J X o} hT n1 n2 n3 => by
      have sb : SB X J (upd J X o) := SB.upd (Z.Same.sb (Same.refl J))
      exact ⟨hT.mut n1 sb n2 (sb _ _ n3 hT.hA), sb⟩
    walk_at "go"
    rw [pl]
    walk_at "go"
    refine for_gen (n := ps.length) (fun i σ J => Tk K a q0 ds n H J ∧ ChD J D ps ∧ ChP J Pd ps i ∧ ∃ v6 v7 : Option V, σ = [some (.ref a), some (.ref q0), some (.str (S (pT ps))), some (.int (12 + r % 6)), some (.ref D), some (.ref Pd), v6, v7]) ⟨hT4, cd, cp, none, none, rfl⟩ ?_ ?_ ?_ ?_
    · intro i σ J hi _
      show i < (ps.length : Int).toNat
      omega
    · intro σ J _
      show (ps.length : Int).toNat ≤ ps.length
      omega
    · rintro i σ J x J' hi ⟨hT5, cd5, cp5, v6, v7, rfl⟩ ⟨rfl, rfl⟩
      have xin := List.getElem_mem hi
      have x6 := p6 _ xin
      have px := ps_at hi
      rw [show (0 : Int) + (i : Int) = (i : Int) by omega]
      obtain ⟨m5, em5⟩ := hT5.pl
      walk_at "go"
      refine ⟨a, q0, n, m5, ds, rfl, SqL.of hT5.hA, hT5.hd, em5, hT5.ne, fun r4 r40 r41 => ?_⟩
      obtain ⟨hT6, sb6⟩ := hT5.next em5
      have cd6 := cd5.sb sb6 Dq
      have cp6 := cp5.sb sb6 Pq
      generalize upd J' q0 (.lst [.int ((m5 + 1 : Nat) : Int)]) = J6 at hT6 cd6 cp6
      clear hT5 sb6 cd5 cp5 em5
      have d0 := Int.emod_nonneg r4 (show (2 : Int) ≠ 0 by decide)
      have d1 := Int.emod_lt_of_pos r4 (show (0 : Int) < 2 by decide)
      walk_at "go"
      refine ⟨S (pT ps), _, 97 + ps[i], rfl, rfl, hlen, px, ?_⟩
      obtain ⟨O1, dp1, cp7⟩ := cp6.put (c := r4 % 2) hi x6 d0 (by omega)
      obtain ⟨hT7, sb7⟩ := tput (o := O1) hT6 nP0 Pq aP
      have cd7 := cd6.sb sb7 DP
      refine ⟨_, _, rfl, dp1, ?_⟩
      generalize upd J6 Pd O1 = J7 at hT7 cd7 cp7
      clear hT6 cd6 cp6 sb7 dp1
      have ST : ∀ σ : L2.St, σ = [some (.ref a), some (.ref q0), some (.str (S (pT ps))), some (.int (12 + r % 6)), some (.ref D), some (.ref Pd), some (.int (i : Int)), some (.int r4)] → σ = [some (.ref a), some (.ref q0), some (.str (S (pT ps))), some (.int (12 + r % 6)), some (.ref D), some (.ref Pd), some (.int (i : Int)), some (.int r4)] := fun _ z => z
      walk_at "go"
      refine ⟨fun σ J => Tk K a q0 ds n H J ∧ ChD J D ps ∧ ChP J Pd ps (i + 1) ∧ σ = [some (.ref a), some (.ref q0), some (.str (S (pT ps))), some (.int (12 + r % 6)), some (.ref D), some (.ref Pd), some (.int (i : Int)), some (.int r4)], ?_, ?_⟩
      · walk_at "go"
        refine ite2 (fun e => ?_) (fun _ => ?_)
        · have e4 := Int.emod_nonneg (r4 / 2) (show (4 : Int) ≠ 0 by decide)
          have e5 := Int.emod_lt_of_pos (r4 / 2) (show (0 : Int) < 4 by decide)
          walk_at "go"
          refine ⟨S (pT ps), _, 97 + ps[i], rfl, rfl, hlen, px, ?_⟩
          obtain ⟨O2, dp2, cp8⟩ := cp7.put2 (c := 12 + r % 6 - 3 - r4 / 2 % 4) hi x6 (by omega) (by omega)
          obtain ⟨hT8, sb8⟩ := tput (o := O2) hT7 nP0 Pq aP
          exact ⟨_, _, rfl, dp2, hT8, cd7.sb sb8 DP, cp8, rfl⟩
        · exact ⟨hT7, cd7, cp7, rfl⟩
      clear hT7 cd7 cp7 J7
      rintro σ J7 ⟨hT7, cd7, cp7, rfl⟩
      walk_at "go"
      refine ⟨fun σ J => Tk K a q0 ds n H J ∧ ChD J D ps ∧ ChP J Pd ps (i + 1) ∧ σ = [some (.ref a), some (.ref q0), some (.str (S (pT ps))), some (.int (12 + r % 6)), some (.ref D), some (.ref Pd), some (.int (i : Int)), some (.int r4)], ?_, ?_⟩
      · walk_at "go"
        rw [pl]
        refine ite2 (fun e => ?_) (fun _ => ?_)
        · have h1 : i + 1 < ps.length := by
            have e := of_decide_eq_true e
            omega
          have p1 := ps_at h1
          rw [show ((i + 1 : Nat) : Int) = (i : Int) + 1 by omega] at p1
          have y6 := p6 _ (List.getElem_mem h1)
          have kk := kok_of nd p6 hi h1 (by omega)
          walk_at "go"
          refine ⟨S (pT ps), _, 97 + ps[i], rfl, rfl, hlen, px, ?_⟩
          walk_at "go"
          refine ⟨S (pT ps), _, 97 + ps[i + 1], rfl, rfl, hlen, p1, ?_⟩
          walk_at "go"
          refine ⟨szl (show 1 + 1 ≤ 2000 by decide), ?_⟩
          rw [ky_cat y6]
          obtain ⟨O2, dp2, cd8⟩ := cd7.put (c := 12 + r % 6 - (i : Int)) xin (List.getElem_mem h1) y6 kk (by omega) (by omega)
          obtain ⟨hT8, sb8⟩ := tput (o := O2) hT7 nD0 Dq aD
          exact ⟨_, _, rfl, dp2, hT8, cd8, cp7.sb sb8 DP.symm, rfl⟩
        · exact ⟨hT7, cd7, cp7, rfl⟩
      clear hT7 cd7 cp7 J7
      rintro σ J7 ⟨hT7, cd7, cp7, rfl⟩
      walk_at "go"
      refine ite2 (fun e => ?_) (fun _ => ?_)
      · have i0 : 0 < i := by
          have e := of_decide_eq_true e
          omega
        walk_at "go"
        refine ite2 (fun _ => ?_) (fun _ => ?_)
        · have e4 := Int.emod_nonneg (r4 / 6) (show (i : Int) ≠ 0 by omega)
          have e5 := Int.emod_lt_of_pos (r4 / 6) (show 0 < (i : Int) by omega)
          obtain ⟨j, ej, hj⟩ : ∃ j : Nat, r4 / 6 % (i : Int) = (j : Int) ∧ j < i := ⟨(r4 / 6 % (i : Int)).toNat, by omega, by omega⟩
          have hj2 : j < ps.length := by omega
          have p1 := ps_at hj2
          rw [← ej] at p1
          have y6 := p6 _ (List.getElem_mem hj2)
          have kk := kok_of nd p6 hi hj2 (by omega)
          have f0 := Int.emod_nonneg (r4 / 36) (show (4 : Int) ≠ 0 by decide)
          have f1 := Int.emod_lt_of_pos (r4 / 36) (show (0 : Int) < 4 by decide)
          walk_at "go"
          refine ⟨S (pT ps), _, 97 + ps[i], rfl, rfl, hlen, px, ?_⟩
          walk_at "go"
          refine ⟨S (pT ps), _, 97 + ps[j], rfl, rfl, hlen, p1, ?_⟩
          walk_at "go"
          refine ⟨szl (show 1 + 1 ≤ 2000 by decide), ?_⟩
          rw [ky_cat y6]
          obtain ⟨O2, dp2, cd8⟩ := cd7.put (c := r4 / 36 % 4) xin (List.getElem_mem hj2) y6 kk f0 (by omega)
          obtain ⟨hT8, sb8⟩ := tput (o := O2) hT7 nD0 Dq aD
          exact ⟨_, _, rfl, dp2, hT8, cd8, cp7.sb sb8 DP.symm, _, _, rfl⟩
        · exact ⟨hT7, cd7, cp7, _, _, rfl⟩
      · exact ⟨hT7, cd7, cp7, _, _, rfl⟩
    · rintro σ J ⟨hT5, cd5, cp5, v6, v7, rfl⟩
      obtain ⟨ks, g, hD, gb, kp⟩ := cd5
      obtain ⟨us, p, hP, pb, cov⟩ := cp5
      have all : ∀ x ∈ ps, x ∈ us := fun x hx => by
        obtain ⟨m, hm, e⟩ := List.getElem_of_mem hx
        rw [← e]
        exact cov m hm hm
      walk_at "go"
      intro t nt
      have s1 := same_new (o := .tup [.ref D, .ref Pd]) nt
      exact q t D Pd ks us g p _ (hT5.more s1) upd_same (hD.mono s1) gb (hP.mono s1) pb DP fun k m => ⟨all _ (kp k m).1, all _ (kp k m).2⟩
end
end Z
set_option pp.maxSteps 700
set_option Elab.async false
set_option linter.all false
set_option maxRecDepth 100000
set_option maxHeartbeats 4000000
set_option exponentiation.threshold 5000
open SX (S S_inj S_len S_cat)
namespace Z
open Cl
open PySem PySem.Spec PyProof.Rows L2
open C8 (pss_cut tCut)
local macro_rules | `(tactic| walk_at "num") => `(tactic| first | rfl | omega | decide | exact Nat.le_of_lt (small1000 (by simp)) | exact ⟨by omega, by omega⟩ | exact ⟨by omega, by omega, by omega⟩ | exact ⟨by decide, by decide, by decide⟩ | exact Or.inl ⟨by omega, by omega⟩ | exact Or.inr ⟨by omega, by omega⟩)
local macro_rules | `(tactic| walk_at "go") => `(tactic| repeat (first | refine ⟨_, rfl, ?_⟩ | refine ⟨_, _, rfl, rfl, ?_⟩ | refine ⟨_, _, rfl, ?_⟩ | (refine ⟨_, _, rfl, rfl, ?_, ?_⟩; focus walk_at "num") | refine Or.inl ⟨_, rfl, ?_⟩ | refine ⟨_, _, _, _, rfl, rfl, (by assumption), (by rfl), ?_⟩ | refine ⟨_, _, _, _, _, rfl, (by assumption), (by assumption), (by assumption), (by rfl), ?_⟩ | refine ⟨rfl, ?_⟩ | (refine And.intro ?_ ?_; focus walk_at "num")))
abbrev s_law : Stmt := topS 47
abbrev N_law : List Str := ["_law_script", "_law_draws_here", "_law_place", "_law_parties_here", "_law_debts_here", "_law_purses_here", "_law_world", "_law_scale", "_law_base_here", "_law_owes_here", "_law_party", "_law_answer", "_law_before", "_law_last", "_law_k", "_law_told", "_law_fresh", "_law_means", "_law_saved"]
abbrev P_law : List Str := ["_law_script"]
theorem sc_law : FnScope N_law P_law (defScope s_law) := ⟨rfl, rfl, rfl, by decide +kernel, rfl, by decide +kernel, by decide +kernel⟩
/-- debts and purses of a law -/
structure Cs (H : Hp) (D Pd : Addr) (ks us : List Nat) (g p : Nat → Int) : Prop where
  db : Db H D ks g
  pu : Pu H Pd us p
  ne : D ≠ Pd
  gb : ∀ k, g k ≤ 10 ^ 60
  pb : ∀ i, p i ≤ 10 ^ 200
  kp : ∀ k ∈ ks, 0 < g k → k / 6 ∈ us ∧ k % 6 ∈ us
theorem Cs.mono {H H' : Hp} {D Pd : Addr} {ks us : List Nat} {g p : Nat → Int} (h : Cs H D Pd ks us g p) (s : Same H H') : Cs H' D Pd ks us g p := ⟨h.db.mono s, h.pu.mono s, h.ne, h.gb, h.pb, h.kp⟩
theorem Cs.cb {H : Hp} {D Pd : Addr} {ks us : List Nat} {g p : Nat → Int} (h : Cs H D Pd ks us g p) : Cb H D Pd ks us g p := ⟨h.db, h.pu, h.ne, sm_of h.db h.pu h.gb h.pb, h.kp⟩
theorem Cw.cs {H : Hp} {D Pd O : Addr} {ks us : List Nat} {g p : Nat → Int} (h : Cw H D Pd O ks us g p) : Cs H D Pd ks us g p := ⟨h.db, h.pu, h.n1, h.gb, h.pb, h.kp⟩
/-- what stands behind the first clearing -/
structure Fy (H : Hp) (D Pd O : Addr) (ks us : List Nat) (g p : Nat → Int) (t a w : Addr) : Prop where
  cw : Cw H D Pd O ks us g p
  et : H t = some (.tup [.ref a, .ref w])
  pa : PaD H a us (pyX (dg g) p) (pyY (dg g) p)
  ew : H w = some (.tup (wvT (wav (dg g) p 7 [])))
  n1 : D ≠ a
  n2 : Pd ≠ a
theorem Fy.mono {H H' : Hp} {D Pd O : Addr} {ks us : List Nat} {g p : Nat → Int} {t a w : Addr} (h : Fy H D Pd O ks us g p t a w) (s : Same H H') : Fy H' D Pd O ks us g p t a w := ⟨h.cw.mono s, s _ _ h.et, h.pa.mono s, s _ _ h.ew, h.n1, h.n2⟩
theorem cut_to (xs : List V) (i : Nat) (h : i ≤ xs.length) : cutV xs none (some (i : Int)) = xs.take i := by
  unfold cutV
  rw [HT.sIx_nat, HT.sIx_none, Nat.min_eq_left h]
  simp
theorem wvT_len (ws : List (List Nat)) : (wvT ws).length = ws.length := List.length_map ..
theorem slA_to {K : PySem.W.Frag} {H : Hp} {w1 : Addr} {ws : List (List Nat)} {i : Nat} {Q : VK} (e : H w1 = some (.tup (wvT ws))) (hi : i ≤ ws.length) (h : ∀ y H', Same H H' → H' y = some (.tup (wvT (ws.take i))) → Q (.ref y) H') : rSlA K (.ref w1) none (some (i : Int)) H Q := by
  refine ⟨w1, _, rfl, SqT.of e, fun hw => h w1 H (Same.refl _) ?_, fun hw p np => h p _ (same_new np) ?_⟩
  · have z := hw.2
    rw [HT.sIx_nat, wvT_len] at z
    rw [List.take_of_length_le (by omega)]
    exact e
  · rw [upd_same, cut_to _ _ (by rw [wvT_len]; exact hi)]
    unfold wvT
    rw [List.map_take]
theorem wt_sq {K : PySem.W.Frag} {H : Hp} {b : Addr} {ws : List (List Nat)} (e : H b = some (.tup (wvT ws))) : SqT K H b ((ws.map fun F => S (pT F)).map V.str) := SqT.of (by rw [e]; unfold wvT; rw [List.map_map]; rfl)
theorem wt_ok {ws : List (List Nat)} (h : ∀ F ∈ ws, ∀ i ∈ F, i < 6) : ∀ z ∈ ws.map (fun F => S (pT F)), PyData.strOk z = true := fun z hz => by
  obtain ⟨F, hF, rfl⟩ := List.mem_map.mp hz
  refine strOk_S fun c hc => ?_
  obtain ⟨i, hi, rfl⟩ := List.mem_map.mp hc
  have := h F hF i hi
  omega
theorem eq_kp {K : PySem.W.Frag} {H : Hp} {a b : Addr} {us : List Nat} {x y : Nat → Nat} {Q : VK} (h1 : Kp H a us x y) (h2 : Kp H b us x y) (l : ∀ i ∈ us, i < 6) (q : Q (.bl true) H) : rEqD K (.ref a) (.ref b) H Q := by
  obtain ⟨ta, a1, b1⟩ := h1
  obtain ⟨tb, a2, b2⟩ := h2
  have f : ∀ k ∈ us, PyData.strOk (lt1 k) = true ∧ Fl (.tuple [.int (x k : Int), .int (y k : Int)]) := fun i m => ⟨lt_ok i (l i m), fl_pair _ _⟩
  exact ⟨_, _, a1.dp (dv := fun i => .tuple [.int (x i : Int), .int (y i : Int)]) (fun i m => .tup (SqT.of (b1 i m)) (.cons (.int _) (.cons (.int _) .nil))), a2.dp (dv := fun i => .tuple [.int (x i : Int), .int (y i : Int)]) (fun i m => .tup (SqT.of (b2 i m)) (.cons (.int _) (.cons (.int _) .nil))), shaped_it f, shaped_it f, by rw [eqv_same (shaped_it f)]; exact q⟩
theorem sh_nt : SeqAt.shaped (.tuple []) = true := by decide +kernel
theorem ne_nt {K : PySem.W.Frag} {H : Hp} {a b : Addr} {Q : VK} (e1 : H a = some (.tup [])) (e2 : H b = some (.tup [])) (q : Q (.bl false) H) : rNeD K (.ref a) (.ref b) H Q :=
  ⟨_, _, .tup (SqT.of e1) .nil, .tup (SqT.of e2) .nil, sh_nt, sh_nt, by rw [eqv_same sh_nt]; exact q⟩
theorem sh_bs : SeqAt.shaped (.tuple [.bool true, .str (S (pT []))]) = true := by decide +kernel
theorem ne_bs {K : PySem.W.Frag} {H : Hp} {a b : Addr} {Q : VK} (e1 : H a = some (.tup [.bl true, .str (S (pT []))])) (e2 : H b = some (.tup [.bl true, .str (S (pT []))])) (q : Q (.bl false) H) : rNeD K (.ref a) (.ref b) H Q :=
  ⟨_, _, .tup (SqT.of e1) (.cons (.bl _) (.cons (.str _) .nil)), .tup (SqT.of e2) (.cons (.bl _) (.cons (.str _) .nil)), sh_bs, sh_bs, by rw [eqv_same sh_bs]; exact q⟩
theorem eq_bs {K : PySem.W.Frag} {H : Hp} {a b : Addr} {Q : VK} (e1 : H a = some (.tup [.bl true, .str (S (pT []))])) (e2 : H b = some (.tup [.bl true, .str (S (pT []))])) (q : Q (.bl true) H) : rEqD K (.ref a) (.ref b) H Q :=
  ⟨_, _, .tup (SqT.of e1) (.cons (.bl _) (.cons (.str _) .nil)), .tup (SqT.of e2) (.cons (.bl _) (.cons (.str _) .nil)), sh_bs, sh_bs, by rw [eqv_same sh_bs]; exact q⟩
theorem take_flat {ws : List (List Nat)} {j : Nat} (h : j < ws.length) : (ws.take (j + 1)).flatten = (ws.take j).flatten ++ ws[j] := by
  rw [List.take_succ, List.getElem?_eq_getElem h, List.flatten_append]
  show _ ++ (ws[j] ++ []) = _
  rw [List.append_nil]
section
variable {P : Program} {w : World} {K : PySem.W.Frag} {mg : Str → Option Value} {base : Heap} {f : Addr} {fd : FuncData}
def spLaw (K : PySem.W.Frag) : Sp := fun vs H Q _ => ∃ (s : Addr) (ns : List Int), vs = [.ref s] ∧ SqL K H s (ns.map V.int) ∧ ns.length ≤ 63 ∧ ∀ H', Q (.bl true) H'
theorem ok_law (F : FnP K "law" s_law f fd) (m_int : mg "int" = none) (m_dict : mg "dict" = none) (m_list : mg "list" = none) (m_len : mg "len" = none) (m_range : mg "range" = none) (c_cell : Cal P w K mg base 1 "_law_cell" (spCell K)) (c_draws : Cal P w K mg base 1 "_law_draws" spDraws) (c_take : Cal P w K mg base 1 "_law_take" (spTake K)) (c_parties : Cal P w K mg base 2 "_law_parties" (spParties K)) (c_base : Cal P w K mg base 3 "_law_base" (spBase K)) (c_debts : Cal P w K mg base 4 "_law_debts" (spDebts K)) (c_purses : Cal P w K mg base 4 "_law_purses" (spPrs K)) (c_chain : Cal P w K mg base 2 "_law_chain" (spChn K)) (c_owes : Cal P w K mg base 1 "_law_owes" spOwe) (c_clear : Cal P w K mg base 5 "clear" spClr) (c_parts_fit : Cal P w K mg base 2 "_law_parts_fit" spFit) (c_raised : Cal P w K mg base 1 "_law_raised" spRsd) (c_next_text : Cal P w K mg base 2 "_law_next_text" spNxt) : FnOk P w K mg base CX0 6 f fd P_law (spLaw K) := by
  refine F.ok sc_law (fun vs H Q E h => ?_) (fun cdv A outer s H vs Q E hr h => ?_)
  · obtain ⟨s, ns, rfl, _⟩ := h
    rfl
  · obtain ⟨s, ns, rfl, hS, ls, q⟩ := h
    refine ⟨_, PSs.nox (pss_cons (ps_set (i := 1) sc_law.nd rfl (by first | exact .inl rfl | exact .inr rfl) (pe_cl c_draws hr (by decide) (by rfl) (pa_cons (pe_cl c_cell hr (by decide) (by rfl) (pa_cons (pv 0) (pa_cons pe_int pa_nil))) (pa_cons pe_int pa_nil))))
      (pss_cons (ps_set (i := 2) sc_law.nd rfl (by first | exact .inl rfl | exact .inr rfl) (pe_lst (pa_cons pe_int pa_nil)))
      (pss_cons (ps_set (i := 3) sc_law.nd rfl (by first | exact .inl rfl | exact .inr rfl) (pe_cl c_parties hr (by decide) (by rfl) (pa_cons (pv 1) (pa_cons (pv 2) pa_nil))))
      (pss_cons (ps_set (i := 4) sc_law.nd rfl (by first | exact .inl rfl | exact .inr rfl) pe_dnewK)
      (pss_cons (ps_set (i := 5) sc_law.nd rfl (by first | exact .inl rfl | exact .inr rfl) pe_dnewK)
      (pss_cut (ps_if (pt_cmpR op_eq (pe_op op_mod (pe_callTy call_int1 (by rfl) m_int (by decide +kernel) (pa_cons (pe_cl c_cell hr (by decide) (by rfl) (pa_cons (pv 0) (pa_cons pe_int pa_nil))) pa_nil)) pe_int) pe_int (nomark _)) (pss_cons (ps_set (i := 6) sc_law.nd rfl (by first | exact .inl rfl | exact .inr rfl) (pe_cl c_chain hr (by decide) (by rfl) (pa_cons (pv 1) (pa_cons (pv 2) (pa_cons (pv 3) pa_nil)))))
      (pss_cons (ps_set (i := 4) sc_law.nd rfl (by first | exact .inl rfl | exact .inr rfl) (pe_ix ix_tup (pv 6) pe_int (fun _ _ => rfl)))
      (pss_one (ps_set (i := 5) sc_law.nd rfl (by first | exact .inl rfl | exact .inr rfl) (pe_ix ix_tup (pv 6) pe_int (fun _ _ => rfl)))))) (pss_cons (ps_set (i := 7) sc_law.nd rfl (by first | exact .inl rfl | exact .inr rfl) (pe_op op_mod (pe_callTy call_int1 (by rfl) m_int (by decide +kernel) (pa_cons (pe_cl c_take hr (by decide) (by rfl) (pa_cons (pv 1) (pa_cons (pv 2) pa_nil))) pa_nil)) pe_int))
      (pss_cons (ps_set (i := 8) sc_law.nd rfl (by first | exact .inl rfl | exact .inr rfl) (pe_cl c_base hr (by decide) (by rfl) (pa_cons (pv 1) (pa_cons (pv 2) pa_nil))))
      (pss_cons (ps_set (i := 4) sc_law.nd rfl (by first | exact .inl rfl | exact .inr rfl) (pe_cl c_debts hr (by decide) (by rfl) (pa_cons (pv 1) (pa_cons (pv 2) (pa_cons (pv 3) (pa_cons (pv 7) (pa_cons (pv 8) pa_nil)))))))
      (pss_one (ps_set (i := 5) sc_law.nd rfl (by first | exact .inl rfl | exact .inr rfl) (pe_cl c_purses hr (by decide) (by rfl) (pa_cons (pe_cl c_draws hr (by decide) (by rfl) (pa_cons (pe_cl c_cell hr (by decide) (by rfl) (pa_cons (pv 0) (pa_cons pe_int pa_nil))) (pa_cons pe_int pa_nil))) (pa_cons (pe_lst (pa_cons pe_int pa_nil)) (pa_cons (pv 3) (pa_cons (pv 7) (pa_cons (pv 8) (pa_cons (pv 4) pa_nil)))))))))))))
      (pss_cons (ps_set (i := 9) sc_law.nd rfl (by first | exact .inl rfl | exact .inr rfl) pe_dnewK)
      (pss_cut (ps_lock (ps_for PassesOwn.never rfl (pi_keys (pv 5)) (pg_name (i := 10) sc_law.nd rfl (by first | exact .inl rfl | exact .inr rfl))
        (pss_one (ps_dput (hu_of hr) (pv 9) (pv 10) (pe_cl c_owes hr (by decide) (by rfl) (pa_cons (pv 4) (pa_cons (pv 10) pa_nil))) rfl))))
      (pss_cons (ps_set (i := 11) sc_law.nd rfl (by first | exact .inl rfl | exact .inr rfl) (pe_cl c_clear hr (by decide) (by rfl) (pa_cons (pe_callTy call_dictD (by rfl) m_dict (by decide +kernel) (pa_cons (pv 4) pa_nil)) (pa_cons (pe_callTy call_dictD (by rfl) m_dict (by decide +kernel) (pa_cons (pv 5) pa_nil)) pa_nil))))
      (pss_cons (ps_if (pt_not (pt_val (pe_cl c_parts_fit hr (by decide) (by rfl) (pa_cons (pv 5) (pa_cons (pv 11) pa_nil))))) (pss_one (ps_ret pe_bl)) pss_nil)
      (pss_cons (ps_set (i := 12) sc_law.nd rfl (by first | exact .inl rfl | exact .inr rfl) pe_str)
      (pss_cons (ps_set (i := 13) sc_law.nd rfl (by first | exact .inl rfl | exact .inr rfl) pe_bl)
      (pss_cut (ps_for PassesOwn.never rfl (pi_range1 (by rfl) m_range (pa_cons pe_int pa_nil)) (pg_name (i := 14) sc_law.nd rfl (by first | exact .inl rfl | exact .inr rfl))
        (pss_cons (ps_set (i := 15) sc_law.nd rfl (by first | exact .inl rfl | exact .inr rfl) (pe_cl c_clear hr (by decide) (by rfl) (pa_cons (pe_callTy call_dictD (by rfl) m_dict (by decide +kernel) (pa_cons (pv 4) pa_nil)) (pa_cons (pe_cl c_raised hr (by decide) (by rfl) (pa_cons (pv 5) (pa_cons (pv 9) (pa_cons (pv 12) (pa_cons pe_bl pa_nil))))) pa_nil))))
      (pss_cons (ps_if (PW.pt (pw_or (pt_not (pt_val (pe_cl c_parts_fit hr (by decide) (by rfl) (pa_cons (pv 5) (pa_cons (pv 15) pa_nil))))) (pw_or1 (pt_cmpR (op_neD hr.units) (pe_ix ix_tup (pv 15) pe_int (fun _ _ => rfl)) (pe_slice sl_tupA (pe_ix ix_tup (pv 11) pe_int (fun _ _ => rfl)) po_none (po_some (pv 14))) (nomark _))))) (pss_one (ps_ret pe_bl)) pss_nil)
      (pss_cons (ps_set (i := 16) sc_law.nd rfl (by first | exact .inl rfl | exact .inr rfl) (pe_cl c_next_text hr (by decide) (by rfl) (pa_cons (pv 4) (pa_cons (pv 5) (pa_cons (pv 9) (pa_cons (pe_ix ix_tup (pv 15) pe_int (fun _ _ => rfl)) (pa_cons (pv 12) pa_nil)))))))
      (pss_cons (ps_if (pt_not (pt_val (pe_ix ix_tup (pv 16) pe_int (fun _ _ => rfl)))) (pss_one (ps_ret pe_bl)) pss_nil)
      (pss_cons (ps_if (pt_cmpR op_eq (pe_ix ix_tup (pv 16) pe_int (fun _ _ => rfl)) pe_str (nomark _)) (pss_cons (ps_set (i := 13) sc_law.nd rfl (by first | exact .inl rfl | exact .inr rfl) (pe_and (pe_cmpR op_eq (pv 14) (pe_callB call_len_seq (by rfl) m_len PySem.boot_len (pa_cons (pe_ix ix_tup (pv 11) pe_int (fun _ _ => rfl)) pa_nil)) (nomark _)) (pe_one (pe_cmpR (op_eqD hr.units) (LiI.pe_listItems rfl (pe_ix ix_tup (pv 15) pe_int (fun _ _ => rfl)) (by rfl) m_list (by decide +kernel)) (LiI.pe_listItems rfl (pe_ix ix_tup (pv 11) pe_int (fun _ _ => rfl)) (by rfl) m_list (by decide +kernel)) (nomark _)))))
      (pss_one ps_break)) pss_nil)
      (pss_cons (ps_if (PW.pt (pw_or (pt_cmpR op_ge (pv 14) (pe_callB call_len_seq (by rfl) m_len PySem.boot_len (pa_cons (pe_ix ix_tup (pv 11) pe_int (fun _ _ => rfl)) pa_nil)) (nomark _)) (pw_or1 (pt_cmpR op_ne (pe_ix ix_tup (pe_ix ix_tup (pv 11) pe_int (fun _ _ => rfl)) (pv 14) (fun _ _ => rfl)) (pe_ix ix_tup (pv 16) pe_int (fun _ _ => rfl)) (nomark _))))) (pss_one (ps_ret pe_bl)) pss_nil)
      (pss_one (ps_set (i := 12) sc_law.nd rfl (by first | exact .inl rfl | exact .inr rfl) (pe_op op_add_str (pv 12) (pe_ix ix_tup (pv 16) pe_int (fun _ _ => rfl))))))))))))
      (pss_cons (ps_if (PW.pt (pw_or (pt_not (pt_val (pv 13))) (pw_or1 (pt_cmpR (op_neD hr.units) (pe_cl c_next_text hr (by decide) (by rfl) (pa_cons (pv 4) (pa_cons (pv 5) (pa_cons (pv 9) (pa_cons (pe_ix ix_tup (pv 11) pe_int (fun _ _ => rfl)) (pa_cons (pv 12) pa_nil)))))) (pe_tup (pa_cons pe_bl (pa_cons pe_str pa_nil))) (nomark _))))) (pss_one (ps_ret pe_bl)) pss_nil)
      (pss_cons (ps_set (i := 17) sc_law.nd rfl (by first | exact .inl rfl | exact .inr rfl) (pe_cl c_raised hr (by decide) (by rfl) (pa_cons (pv 5) (pa_cons (pv 9) (pa_cons (pv 12) (pa_cons pe_bl pa_nil))))))
      (pss_cons (ps_set (i := 18) sc_law.nd rfl (by first | exact .inl rfl | exact .inr rfl) (pe_cl c_clear hr (by decide) (by rfl) (pa_cons (pe_callTy call_dictD (by rfl) m_dict (by decide +kernel) (pa_cons (pv 4) pa_nil)) (pa_cons (pe_callTy call_dictD (by rfl) m_dict (by decide +kernel) (pa_cons (pv 17) pa_nil)) pa_nil))))
      (pss_cons (ps_if (PW.pt (pw_or (pt_not (pt_val (pe_cl c_parts_fit hr (by decide) (by rfl) (pa_cons (pv 17) (pa_cons (pv 18) pa_nil))))) (pw_or1 (pt_cmpR (op_neD hr.units) (pe_ix ix_tup (pv 18) pe_int (fun _ _ => rfl)) (pe_tup pa_nil) (nomark _))))) (pss_one (ps_ret pe_bl)) pss_nil)
      (pss_one (ps_ret (pe_cmpR (op_eqD hr.units) (pe_cl c_next_text hr (by decide) (by rfl) (pa_cons (pv 4) (pa_cons (pv 17) (pa_cons (pv 9) (pa_cons (pe_ix ix_tup (pv 18) pe_int (fun _ _ => rfl)) (pa_cons pe_str pa_nil)))))) (pe_tup (pa_cons pe_bl (pa_cons pe_str pa_nil))) (nomark _))))))))))))))))))))), ?_⟩
    walk_at "go"
    refine ⟨s, ns, 1, rfl, hS, ?_⟩
    walk_at "go"
    intro d ds nd dr
    have s1 := same_new (o := .lst (ds.map V.int)) nd
    have ed : (upd H d (.lst (ds.map V.int))) d = some (.lst (ds.map V.int)) := upd_same
    generalize upd H d (.lst (ds.map V.int)) = H1 at s1 ed
    walk_at "go"
    intro q0 np
    have s2 := s1.trans (same_new (o := .lst [.int 0]) np)
    have dp : d ≠ q0 := ne_of_none ed np
    have hT : Tk K d q0 ds 160 (upd H1 q0 (.lst [.int 0])) (upd H1 q0 (.lst [.int 0])) := ⟨(same_new np) _ _ ed, dr, dp, Z.Same.sb (Same.refl _), 0, upd_same⟩
    have npH := none_of s1 np
    generalize upd H1 q0 (.lst [.int 0]) = H2 at s2 hT
    walk_at "go"
    refine ⟨d, q0, 160, ds, rfl, hT, fun ps H3 hT3 ndp p6 l2 l6 => ?_⟩
    walk_at "go"
    intro D00 nD0
    have hT4 := hT3.more (same_new (o := .dK []) nD0)
    generalize upd H3 D00 (.dK []) = H4 at hT4
    walk_at "go"
    intro P00 nP0
    have hT5 := hT4.more (same_new (o := .dK []) nP0)
    generalize upd H4 P00 (.dK []) = H5 at hT5
    have s5 : Same H H5 := fun b o e => hT5.sb b o (ne_of_none e npH) (s2 b o e)
    have sH := s2
    clear hT hT3 hT4 s1 s2 nD0 nP0
    dsimp only [List.set]
    walk_at "go"
    refine ⟨fun σ J => ∃ (D Pd : Addr) (ks us : List Nat) (g p : Nat → Int) (v6 v7 v8 : Option V), Cs J D Pd ks us g p ∧ σ = [some (.ref s), some (.ref d), some (.ref q0), some (.str (S (pT ps))), some (.ref D), some (.ref Pd), v6, v7, v8, none, none, none, none, none, none, none, none, none, none], ?_, ?_⟩
    · walk_at "go"
      refine ⟨s, ns, 0, rfl, s5.seq hS, ?_⟩
      walk_at "go"
      refine ite2 (fun _ => ?_) (fun _ => ?_)
      · walk_at "go"
        refine ⟨d, q0, 160, ds, ps, rfl, hT5.slf, ndp, p6, l2, l6, fun t D Pd ks us g p H6 hT6 et hD gb hP pb ne kup => ?_⟩
        walk_at "go"
        refine ⟨t, _, _, _, rfl, rfl, SqT.of et, atI_nat (j := 0) rfl, ?_⟩
        walk_at "go"
        refine ⟨t, _, _, _, rfl, rfl, SqT.of et, atI_nat (j := 1) rfl, ?_⟩
        walk_at "go"
        exact ⟨D, Pd, ks, us, g, p, _, _, _, ⟨hD, hP, ne, gb, pb, fun k m _ => kup k m⟩, rfl⟩
      · obtain ⟨m3, em3⟩ := hT5.pl
        walk_at "go"
        refine ⟨d, q0, 160, m3, ds, rfl, SqL.of hT5.hA, hT5.hd, em3, hT5.ne, fun r r0 r1 => ?_⟩
        obtain ⟨hT6, _⟩ := hT5.next em3
        generalize upd H5 q0 (.lst [.int ((m3 + 1 : Nat) : Int)]) = H6 at hT6
        walk_at "go"
        refine ⟨d, q0, 160, ds, rfl, hT6.slf, fun ba H7 hT7 b0 b1 => ?_⟩
        walk_at "go"
        refine ⟨d, q0, 160, ds, ps, r % 8, ba, rfl, hT7.slf, ndp, p6, l2, l6, b0, b1, fun D ks g H8 hT8 nD hD gb kps => ?_⟩
        have hT9 := (hT6.tr hT7).tr hT8
        have s8 : Same H H8 := fun b o e => hT9.sb b o (ne_of_none e npH) (sH b o e)
        clear hT6 hT7 hT8 hT9
        walk_at "go"
        refine ⟨s, ns, 2, rfl, s8.seq hS, ?_⟩
        walk_at "go"
        intro o os no oro
        have so1 := same_new (o := .lst (os.map V.int)) no
        have eo : (upd H8 o (.lst (os.map V.int))) o = some (.lst (os.map V.int)) := upd_same
        generalize upd H8 o (.lst (os.map V.int)) = H10 at so1 eo
        walk_at "go"
        intro sp nsp
        have so2 := same_new (o := .lst [.int 0]) nsp
        have osp : o ≠ sp := ne_of_none eo nsp
        have hTs : Tk K o sp os 80 (upd H10 sp (.lst [.int 0])) (upd H10 sp (.lst [.int 0])) := ⟨so2 _ _ eo, oro, osp, Z.Same.sb (Same.refl _), 0, upd_same⟩
        have nspH : H8 sp = none := none_of so1 nsp
        have hD2 := (hD.mono so1).mono so2
        have Dsp : D ≠ sp := ne_of_none (hD.mono so1).e nsp
        generalize upd H10 sp (.lst [.int 0]) = H11 at so2 hTs hD2
        have s11 := so1.trans so2
        walk_at "go"
        refine ⟨o, sp, 80, os, ps, r % 8, ba, D, ks, g, rfl, hTs, ndp, p6, l2, l6, b0, b1, hD2, kps, Dsp, fun Pd us p H12 hT12 nP hP pb kup usp => ?_⟩
        have s12 : Same H8 H12 := fun b u e => hT12.sb b u (ne_of_none e nspH) (s11 b u e)
        walk_at "go"
        exact ⟨D, Pd, ks, us, g, p, _, _, _, ⟨hD.mono s12, hP, ne_of_none hD2.e nP, gb, pb, kup⟩, rfl⟩
    clear hT5 s5 sH
    rintro σ J0 ⟨D, Pd, ks, us, g, p, v6, v7, v8, cs0, rfl⟩
    have k36 : ∀ k ∈ ks, PyData.strOk (ky k) = true := fun k m => ky_ok k (cs0.db.ok k m).1.1
    have u6 : ∀ i ∈ us, i < 6 := fun i m => (cs0.pu.ok i m).1
    have lu := cs0.pu.len
    walk_at "go"
    intro O nO
    have s2 := same_new (o := .dK []) nO
    have C2 := cs0.mono s2
    have eO : (upd J0 O (.dK [])) O = some (.dK (tab lt1 [] (owe (dg g)))) := upd_same
    have PO : Pd ≠ O := ne_of_none cs0.pu.e nO
    have DO : D ≠ O := ne_of_none cs0.db.e nO
    generalize upd J0 O (.dK []) = H2 at s2 C2 eO
    clear cs0 s2
    walk_at "go"
    refine ⟨fun σ J => Cw J D Pd O ks us g p ∧ ∃ v10 : Option V, σ = [some (.ref s), some (.ref d), some (.ref q0), some (.str (S (pT ps))), some (.ref D), some (.ref Pd), v6, v7, v8, some (.ref O), v10, none, none, none, none, none, none, none, none], ?_, ?_⟩
    · refine ⟨Pd, _, C2.pu.e, trivial, fun od => ?_⟩
      have fz : (upd H2 Pd (.frz od (.dK (tab lt1 us p)))) Pd = some (.frz od (.dK (tab lt1 us p))) := upd_same
      have hDz : Db (upd H2 Pd (.frz od (.dK (tab lt1 us p)))) D ks g := C2.db.other C2.ne
      have eOz : (upd H2 Pd (.frz od (.dK (tab lt1 us p)))) O = some (.dK (tab lt1 [] (owe (dg g)))) := by rw [upd_ne PO.symm]; exact eO
      walk_at "go"
      refine ⟨Pd, od, rfl, .inl ⟨_, fz, ?_⟩⟩
      generalize eJ : upd H2 Pd (.frz od (.dK (tab lt1 us p))) = J at fz hDz eOz
      refine for_gen (n := us.length) (fun k σ J' => SB O J J' ∧ J' O = some (.dK (tab lt1 (us.take k) (owe (dg g)))) ∧ ∃ v10 : Option V, σ = [some (.ref s), some (.ref d), some (.ref q0), some (.str (S (pT ps))), some (.ref D), some (.ref Pd), v6, v7, v8, some (.ref O), v10, none, none, none, none, none, none, none, none]) ⟨Z.Same.sb (Same.refl _), eOz, none, rfl⟩ ?_ ?_ ?_ ?_
      · rintro k σ J' hk ⟨sJ, _⟩
        exact ⟨sJ _ _ PO fz, by rw [tab_len]; exact hk⟩
      · rintro σ J' ⟨sJ, _⟩
        exact ⟨sJ _ _ PO fz, by rw [tab_len]; exact Nat.le_refl _⟩
      · rintro k σ J1 x J2 hk ⟨sJ, eO1, v4, rfl⟩ ⟨rfl, kk, z, e, rfl⟩
        rw [tab_at hk] at e
        cases e
        have tk : us.take (k + 1) = us.take k ++ [us[k]] := by rw [List.take_succ, List.getElem?_eq_getElem hk]; rfl
        have nin : us[k] ∉ us.take k := fun z => by
          obtain ⟨j, hj, ej⟩ := List.getElem_of_mem z
          rw [List.length_take] at hj
          rw [List.getElem_take] at ej
          have := (List.getElem_inj C2.pu.nd).mp ej
          omega
        have hm := List.getElem_mem hk
        have ll : (us.take k).length ≤ 1000 := by rw [List.length_take]; omega
        rw [tk]
        generalize us[k] = c at hm nin
        generalize us.take k = ut at eO1 nin ll
        have hc6 := u6 c hm
        walk_at "go"
        refine ⟨D, ks, g, c, rfl, ⟨sJ _ _ DO hDz.e, hDz.nd, hDz.ok, hDz.z⟩, hc6, fun J3 s3 => ?_⟩
        have e3 : (fun j => if j = c then owe (dg g) c else owe (dg g) j) = owe (dg g) := funext fun j => by
          by_cases e : j = c
          · rw [if_pos e, e]
          · rw [if_neg e]
        have pt := tab_put (key := lt1) (fun _ _ => lt1_inj) ut (owe (dg g)) c (owe (dg g) c)
        rw [if_neg nin, e3] at pt
        walk_at "go"
        refine ⟨_, _, rfl, DPut.k (k := Sum.inr (lt1 c)) (v := .int (owe (dg g) c)) (s3 _ _ eO1) (by rw [tab_len]; exact szlt (by omega)), ?_⟩
        rw [pt]
        have sb3 : SB O J J3 := sJ.trans (Z.Same.sb s3)
        exact ⟨SB.upd sb3, upd_same, _, rfl⟩
      · rintro σ J1 ⟨sJ, eO1, v4, rfl⟩
        rw [List.take_of_length_le (Nat.le_refl _)] at eO1
        have fz1 := sJ _ _ PO fz
        refine ⟨fz1, ?_⟩
        subst eJ
        have sbA : SB O H2 (upd J1 Pd (.dK (tab lt1 us p))) := fun b o n e => by
          by_cases c : b = Pd
          · rw [c] at e ⊢
            rw [upd_same, ← e]
            exact C2.pu.e.symm
          · rw [upd_ne c]
            exact sJ _ _ n (by rw [upd_ne c]; exact e)
        have eO4 : (upd J1 Pd (.dK (tab lt1 us p))) O = some (.dK (tab lt1 us (owe (dg g)))) := by rw [upd_ne PO.symm]; exact eO1
        exact ⟨⟨⟨sbA _ _ DO C2.db.e, C2.db.nd, C2.db.ok, C2.db.z⟩, ⟨sbA _ _ PO C2.pu.e, C2.pu.nd, C2.pu.ok, C2.pu.z⟩, eO4, C2.gb, C2.pb, C2.ne, DO, PO, C2.kp⟩, _, rfl⟩
    clear C2 eO
    rintro σ J0 ⟨cw0, v10, rfl⟩
    have cs0 := cw0.cs
    walk_at "go"
    refine ⟨D, _, rfl, .inl cs0.db.e, fun E1 nE1 => ?_⟩
    have sE1 := same_new (o := .dK (tab ky ks g)) nE1
    have dE1 : Db (upd J0 E1 (.dK (tab ky ks g))) E1 ks g := ⟨upd_same, cs0.db.nd, cs0.db.ok, cs0.db.z⟩
    generalize upd J0 E1 (.dK (tab ky ks g)) = HE1 at sE1 dE1
    have csE1 := cs0.mono sE1
    walk_at "go"
    refine ⟨Pd, _, rfl, .inl csE1.pu.e, fun F1 nF1 => ?_⟩
    have sF1 := same_new (o := .dK (tab lt1 us p)) nF1
    have dF1 : Pu (upd HE1 F1 (.dK (tab lt1 us p))) F1 us p := ⟨upd_same, cs0.pu.nd, cs0.pu.ok, cs0.pu.z⟩
    have EF1 : E1 ≠ F1 := ne_of_none dE1.e nF1
    have c21 : Cs (upd HE1 F1 (.dK (tab lt1 us p))) E1 F1 ks us g p := ⟨dE1.mono sF1, dF1, EF1, cs0.gb, cs0.pb, cs0.kp⟩
    have nF1 : J0 F1 = none := none_of sE1 nF1
    have sF1 := sE1.trans sF1
    clear csE1 dF1 dE1 EF1 sE1
    generalize upd HE1 F1 (.dK (tab lt1 us p)) = HF1 at sF1 c21
    have cs1 := cs0.mono sF1
    walk_at "go"
    refine ⟨E1, F1, ks, us, g, p, rfl, c21.cb, fun t1 a1 w1 HA1 sA1 na1 et1 pa1 ew1 fu1 => ?_⟩
    have cwA := cw0.mono (sF1.trans sA1)
    have cn := cwA.cn
    have fy : Fy HA1 D Pd O ks us g p t1 a1 w1 := ⟨cwA, et1, pa1, ew1, ne_of_none cs1.db.e na1, ne_of_none cs1.pu.e na1⟩
    clear cw0 cs0 cs1 c21 sF1 sA1 nF1 nE1 na1 cwA et1 pa1 ew1
    have lws := wav_len cn.dd cn.pn
    have fl : (wav (dg g) p 7 []).flatten = fin (dg g) p := rfl
    have wr := wav_rz0 cn.dd cn.pn
    have fw := fun k h => frs_wav0 cn.dd cn.pn (k := k) h
    generalize ews : wav (dg g) p 7 [] = ws at lws fl wr fw
    walk_at "go"
    refine ⟨Pd, t1, a1, w1, us, p, _, _, _, rfl, fy.cw.pu, fy.et, fy.pa, fy.ew, fy.n2, fun i _ => py_pos cn.dd cn.pn i, fun HP sP => ?_⟩
    have fy := fy.mono sP
    clear sP
    have e0 : Str.ofString "" = S (pT []) := by decide +kernel
    dsimp only [List.set]
    walk_at "go"
    rw [e0]
    refine ⟨fun σ J => Fy J D Pd O ks us g p t1 a1 w1 ∧ ∃ v14 v15 v16 : Option V, σ = [some (.ref s), some (.ref d), some (.ref q0), some (.str (S (pT ps))), some (.ref D), some (.ref Pd), v6, v7, v8, some (.ref O), v10, some (.ref t1), some (.str (S (pT (fin (dg g) p)))), some (.bl true), v14, v15, v16, none, none], ?_, ?_⟩
    · walk_at "go"
      refine for_gen (n := 7) (fun i σ J => i ≤ ws.length ∧ Fy J D Pd O ks us g p t1 a1 w1 ∧ ∃ v14 v15 v16 : Option V, σ = [some (.ref s), some (.ref d), some (.ref q0), some (.str (S (pT ps))), some (.ref D), some (.ref Pd), v6, v7, v8, some (.ref O), v10, some (.ref t1), some (.str (S (pT (ws.take i).flatten))), some (.bl false), v14, v15, v16, none, none]) ⟨Nat.zero_le _, fy, none, none, none, rfl⟩ ?_ ?_ ?_ ?_
      · intro i σ J hi _
        exact hi
      · intro σ J _
        exact Nat.le_refl _
      · rintro i σ J x J' hi ⟨li, fy, v14, v15, v16, rfl⟩ ⟨rfl, rfl⟩
        rw [show (0 : Int) + (i : Int) = (i : Int) by omega]
        obtain ⟨B, eB⟩ : ∃ B, B = (ws.take i).flatten := ⟨_, rfl⟩
        have wrB := wr i
        rw [← eB] at wrB
        have fB : fin (dg g) (rz (dg g) p B false) = B := by
          unfold fin
          rw [wrB, eB]
        have qB : ∀ j ∈ B, rz (dg g) p B false j = p j := fun j m => rz_in m
        rw [← eB]
        have cs5 := fy.cw.cs
        walk_at "go"
        refine ⟨D, _, rfl, .inl cs5.db.e, fun E nE => ?_⟩
        have sE := same_new (o := .dK (tab ky ks g)) nE
        have dE : Db (upd J' E (.dK (tab ky ks g))) E ks g := ⟨upd_same, cs5.db.nd, cs5.db.ok, cs5.db.z⟩
        have fyE := fy.mono sE
        generalize upd J' E (.dK (tab ky ks g)) = HE at sE dE fyE
        walk_at "go"
        refine ⟨D, Pd, O, ks, us, B, g, p, false, rfl, fyE.cw, fun R HR sR nR hR => ?_⟩
        have fyR := fyE.mono sR
        have c2 : Cs HR E R ks us g (rz (dg g) p B false) := ⟨dE.mono sR, hR, ne_of_none dE.e nR, cs5.gb, rz_le cs5.gb cs5.pb B false, cs5.kp⟩
        clear sE dE fyE fy cs5 nE
        walk_at "go"
        refine ⟨E, R, ks, us, g, rz (dg g) p B false, rfl, c2.cb, fun t a w' HA sA na et pa ew fu => ?_⟩
        rw [wrB] at ew
        have fyA := fyR.mono sA
        have cq : Cn g (rz (dg g) p B false) := ⟨c2.db.dd, c2.pu.nn, sm_of c2.db c2.pu c2.gb c2.pb⟩
        have Da : D ≠ a := ne_of_none fyR.cw.db.e na
        have Pa : Pd ≠ a := ne_of_none fyR.cw.pu.e na
        clear fyR c2 sR nR hR sA na
        walk_at "go"
        refine ⟨Pd, t, a, w', us, p, _, _, _, rfl, fyA.cw.pu, et, pa, ew, Pa, fun j _ => py_pos cq.dd cq.pn j, fun HB sB => ?_⟩
        have fy := fyA.mono sB
        have et := sB _ _ et
        have pa := pa.mono sB
        have ew := sB _ _ ew
        clear fyA sB
        dsimp only [List.set]
        walk_at "go"
        refine ⟨t, _, _, _, rfl, rfl, SqT.of et, atI_nat (j := 1) rfl, ?_⟩
        walk_at "go"
        refine ⟨t1, _, _, _, rfl, rfl, SqT.of fy.et, atI_nat (j := 1) rfl, ?_⟩
        walk_at "go"
        refine slA_to (by rw [fy.ew, ews]) li fun y HS sS ey => ?_
        have lw6 : ∀ F ∈ ws, ∀ j ∈ F, j < 6 := fun F hF j hj => (fin_iv cn.dd cn.pn).lt j (by rw [← fl]; exact List.mem_flatten.mpr ⟨F, hF, hj⟩)
        refine ne_ssT (wt_sq (sS _ _ ew)) (wt_sq ey) (wt_ok fun F hF => lw6 F (List.mem_of_mem_take hF)) ?_
        have fy := fy.mono sS
        have et := sS _ _ et
        have pa := pa.mono sS
        clear ey sS ew
        walk_at "go"
        refine ⟨t, _, _, _, rfl, rfl, SqT.of et, atI_nat (j := 0) rfl, ?_⟩
        walk_at "go"
        refine ⟨D, Pd, O, a, ks, us, B, g, p, rz (dg g) p B false, rfl, fy.cw, pa, cq, fB, qB, Da, fun tf HT sT ef => ?_⟩
        have fy := fy.mono sT
        have et := sT _ _ et
        have pa := pa.mono sT
        clear sT
        dsimp only [List.set]
        walk_at "go"
        refine ⟨tf, _, _, _, rfl, rfl, SqT.of ef, atI_nat (j := 0) rfl, ?_⟩
        walk_at "go"
        refine ⟨tf, _, _, _, rfl, rfl, SqT.of ef, atI_nat (j := 1) rfl, ?_⟩
        walk_at "go"
        have ew1 : HT w1 = some (.tup (wvT ws)) := by rw [← ews]; exact fy.ew
        by_cases il : i = ws.length
        · have eBf : B = fin (dg g) p := by rw [eB, il, List.take_of_length_le (Nat.le_refl _), fl]
          have fn : frs (dg g) p B = [] := by rw [eBf]; exact fin_end cn.dd cn.pn
          rw [fn]
          rw [fn] at ef
          refine iteT ?_
          walk_at "go"
          refine ⟨t1, _, _, _, rfl, rfl, SqT.of fy.et, atI_nat (j := 1) rfl, ?_⟩
          walk_at "go"
          refine ⟨w1, _, rfl, .inr (SqT.of ew1), ?_⟩
          rw [wvT_len, il]
          walk_at "go"
          rw [show decide (V.int (ws.length : Int) = V.int (ws.length : Int)) = true from decide_eq_true rfl]
          refine iteT ?_
          obtain ⟨ta, ea, hta⟩ := id pa
          walk_at "go"
          refine ⟨t, _, _, _, rfl, rfl, SqT.of et, atI_nat (j := 0) rfl, ?_⟩
          walk_at "go"
          refine ⟨a, _, rfl, ea, fun HI1 lo1 tsI1 kI1 npI1 ntsI1 ptsI1 epI1 prI1 => ?_⟩
          have sI1 : Same _ HI1 := kI1
          clear kI1 npI1 ntsI1 ptsI1
          have fy := fy.mono sI1
          obtain ⟨pX, pY⟩ := py_congr (d := dg g) (p := rz (dg g) p B false) (q := p) (fB.trans eBf) (by rw [fB]; exact qB)
          have kq1 : Kp HI1 lo1 us (pyX (dg g) p) (pyY (dg g) p) := by
            rw [← pX, ← pY]
            exact ⟨ta, ⟨_, epI1, paired_map (fun i => ((Sum.inr (lt1 i) : Key), V.ref (ta i))) us prI1⟩, fun i m => sI1 _ _ (hta i m)⟩
          obtain ⟨tb, eb, htb⟩ := id fy.pa
          walk_at "go"
          refine ⟨t1, _, _, _, rfl, rfl, SqT.of fy.et, atI_nat (j := 0) rfl, ?_⟩
          walk_at "go"
          refine ⟨a1, _, rfl, eb, fun HI2 lo2 tsI2 kI2 npI2 ntsI2 ptsI2 epI2 prI2 => ?_⟩
          have sI2 : Same _ HI2 := kI2
          clear kI2 npI2 ntsI2 ptsI2
          have kq2 : Kp HI2 lo2 us (pyX (dg g) p) (pyY (dg g) p) := ⟨tb, ⟨_, epI2, paired_map (fun i => ((Sum.inr (lt1 i) : Key), V.ref (tb i))) us prI2⟩, fun i m => sI2 _ _ (htb i m)⟩
          have fy := fy.mono sI2
          walk_at "go"
          refine eq_kp (kq1.mono sI2) kq2 u6 ?_
          rw [eBf]
          exact ⟨fy, _, _, _, rfl⟩
        · have ilt : i < ws.length := by omega
          have fn : frs (dg g) p B = ws[i] := by rw [eB]; exact fw i ilt
          rw [fn]
          rw [fn] at ef
          have ne : decide (V.str (S (pT ws[i])) = V.str (S (pT []))) = false := decide_eq_false fun z => by
            have z := V.str.inj z
            have := wav_ne (dg g) p 7 [] ws[i] (by rw [ews]; exact List.getElem_mem ilt)
            exact this (pT_inj z)
          rw [ne]
          refine iteF ?_
          walk_at "go"
          refine ⟨t1, _, _, _, rfl, rfl, SqT.of fy.et, atI_nat (j := 1) rfl, ?_⟩
          walk_at "go"
          refine ⟨w1, _, rfl, .inr (SqT.of ew1), ?_⟩
          rw [wvT_len]
          walk_at "go"
          refine ite2 (fun z => absurd (of_decide_eq_true z) (by omega)) (fun _ => ?_)
          walk_at "go"
          refine ⟨t1, _, _, _, rfl, rfl, SqT.of fy.et, atI_nat (j := 1) rfl, ?_⟩
          walk_at "go"
          refine ⟨w1, _, _, _, rfl, rfl, SqT.of ew1, at_map (f := fun F => V.str (S (pT F))) (List.getElem?_eq_getElem ilt), ?_⟩
          walk_at "go"
          refine ⟨tf, _, _, _, rfl, rfl, SqT.of ef, atI_nat (j := 1) rfl, ?_⟩
          walk_at "go"
          have nn : (!decide (V.str (S (pT ws[i])) = V.str (S (pT ws[i])))) = false := by rw [decide_eq_true rfl]; rfl
          change (if (!decide (V.str (S (pT ws[i])) = V.str (S (pT ws[i])))) = true then _ else _)
          rw [nn]
          refine iteF ?_
          have tf2 := take_flat ilt
          have l6f : B.length + ws[i].length ≤ 6 := by
            have h1 : (ws.take (i + 1)).flatten.length + (ws.drop (i + 1)).flatten.length = (fin (dg g) p).length := by
              rw [← List.length_append, ← List.flatten_append, List.take_append_drop, fl]
            have h2 := nd_len6 (fin_iv cn.dd cn.pn).nd (fin_iv cn.dd cn.pn).lt
            rw [tf2, ← eB, List.length_append] at h1
            omega
          rw [← eB] at tf2
          walk_at "go"
          refine ⟨tf, _, _, _, rfl, rfl, SqT.of ef, atI_nat (j := 1) rfl, ?_⟩
          walk_at "go"
          refine ⟨by rw [pT_len, pT_len]; exact szl (by omega), ?_⟩
          rw [pT_app, ← tf2]
          exact ⟨by omega, fy, _, _, _, rfl⟩
      · rintro σ J ⟨li, _⟩
        omega
    clear fy
    rintro σ J ⟨fy, v14, v15, v16, rfl⟩
    walk_at "go"
    refine ⟨t1, _, _, _, rfl, rfl, SqT.of fy.et, atI_nat (j := 0) rfl, ?_⟩
    walk_at "go"
    refine ⟨D, Pd, O, a1, ks, us, fin (dg g) p, g, p, p, rfl, fy.cw, fy.pa, cn, rfl, fun _ _ => rfl, fy.n1, fun tf HT sT ef => ?_⟩
    have fy := fy.mono sT
    rw [fin_end cn.dd cn.pn] at ef
    clear sT
    walk_at "go"
    intro t9 n9
    have s9 := same_new (o := .tup [.bl true, .str (S (pT []))]) n9
    refine ne_bs (s9 _ _ ef) upd_same ?_
    have fy := fy.mono s9
    clear s9 ef n9
    walk_at "go"
    refine ⟨D, Pd, O, ks, us, fin (dg g) p, g, p, true, rfl, fy.cw, fun M HM sM nM hM => ?_⟩
    have fyM := fy.mono sM
    have csM : Cs HM D M ks us g (rz (dg g) p (fin (dg g) p) true) := ⟨fyM.cw.db, hM, ne_of_none fy.cw.db.e nM, fy.cw.gb, rz_le fy.cw.gb fy.cw.pb _ true, fy.cw.kp⟩
    have MO : M ≠ O := (ne_of_none fy.cw.eO nM).symm
    have wS := wav_saved cn.dd cn.pn
    have fS : fin (dg g) (rz (dg g) p (fin (dg g) p) true) = [] := by
      show (wav (dg g) (rz (dg g) p (fin (dg g) p) true) 7 []).flatten = []
      rw [wS]
      rfl
    have eOM := fyM.cw.eO
    have cq : Cn g (rz (dg g) p (fin (dg g) p) true) := ⟨csM.db.dd, csM.pu.nn, sm_of csM.db csM.pu csM.gb csM.pb⟩
    have lsq := fin_end cq.dd cq.pn
    rw [fS] at lsq
    generalize rz (dg g) p (fin (dg g) p) true = p2 at hM csM wS fS cq lsq
    have gb := fyM.cw.gb
    have kup := fyM.cw.kp
    clear fy fyM sM nM hM
    dsimp only [List.set]
    walk_at "go"
    refine ⟨D, _, rfl, .inl csM.db.e, fun E8 nE8 => ?_⟩
    have sE8 := same_new (o := .dK (tab ky ks g)) nE8
    have dE8 : Db (upd HM E8 (.dK (tab ky ks g))) E8 ks g := ⟨upd_same, csM.db.nd, csM.db.ok, csM.db.z⟩
    generalize upd HM E8 (.dK (tab ky ks g)) = HE8 at sE8 dE8
    have csE8 := csM.mono sE8
    walk_at "go"
    refine ⟨M, _, rfl, .inl csE8.pu.e, fun F8 nF8 => ?_⟩
    have sF8 := same_new (o := .dK (tab lt1 us p2)) nF8
    have dF8 : Pu (upd HE8 F8 (.dK (tab lt1 us p2))) F8 us p2 := ⟨upd_same, csM.pu.nd, csM.pu.ok, csM.pu.z⟩
    have EF8 : E8 ≠ F8 := ne_of_none dE8.e nF8
    have c28 : Cs (upd HE8 F8 (.dK (tab lt1 us p2))) E8 F8 ks us g p2 := ⟨dE8.mono sF8, dF8, EF8, csM.gb, csM.pb, csM.kp⟩
    have nF8 : HM F8 = none := none_of sE8 nF8
    have sF8 := sE8.trans sF8
    clear csE8 dF8 dE8 EF8 sE8
    generalize upd HE8 F8 (.dK (tab lt1 us p2)) = HF8 at sF8 c28
    have cs8 := csM.mono sF8
    walk_at "go"
    refine ⟨E8, F8, ks, us, g, p2, rfl, c28.cb, fun t8 a8 w8 HA8 sA8 na8 et8 pa8 ew8 fu8 => ?_⟩
    rw [wS] at ew8
    have D8 : D ≠ a8 := ne_of_none cs8.db.e na8
    have M8 : M ≠ a8 := ne_of_none cs8.pu.e na8
    have cA := cs8.mono sA8
    have eO8 := sA8 _ _ (sF8 _ _ eOM)
    clear cs8 c28 sF8 sA8 na8 csM
    walk_at "go"
    refine ⟨M, t8, a8, w8, us, p2, _, _, _, rfl, cA.pu, et8, pa8, ew8, M8, fun i _ => py_pos cq.dd cq.pn i, fun HP sP => ?_⟩
    have cA := cA.mono sP
    have eO8 := sP _ _ eO8
    have et8 := sP _ _ et8
    have pa8 := pa8.mono sP
    have ew8 := sP _ _ ew8
    clear sP
    dsimp only [List.set]
    walk_at "go"
    refine ⟨t8, _, _, _, rfl, rfl, SqT.of et8, atI_nat (j := 1) rfl, ?_⟩
    walk_at "go"
    intro t10 n10
    have s10 := same_new (o := .tup []) n10
    refine ne_nt (s10 _ _ ew8) upd_same ?_
    have cA := cA.mono s10
    have eO8 := s10 _ _ eO8
    have et8 := s10 _ _ et8
    have pa8 := pa8.mono s10
    clear s10 ew8
    walk_at "go"
    refine ⟨t8, _, _, _, rfl, rfl, SqT.of et8, atI_nat (j := 0) rfl, ?_⟩
    walk_at "go"
    refine ⟨D, M, O, a8, ks, us, [], g, p2, p2, rfl, ⟨cA.db, cA.pu, eO8, cA.gb, cA.pb, cA.ne, DO, MO, kup⟩, pa8, cq, fS, fun _ m => (List.not_mem_nil m).elim, D8, fun tf HT sT ef => ?_⟩
    rw [lsq] at ef
    walk_at "go"
    intro t11 n11
    have s11 := same_new (o := .tup [.bl true, .str (S (pT []))]) n11
    refine eq_bs (s11 _ _ ef) upd_same ?_
    walk_at "go"
    exact q _
end
end Z
set_option pp.maxSteps 700
set_option Elab.async false
set_option linter.all false
set_option maxRecDepth 100000
set_option maxHeartbeats 4000000
set_option maxHeartbeats 0
namespace Z
open PySem PySem.Spec PyProof.Rows L2
def d_is_party : He.DefD := ⟨("is_party", none), "is_party", "is_party", defArgs s_is_party, defBody s_is_party, defScope s_is_party, [], []⟩
def d_is_pair : He.DefD := ⟨("is_pair", none), "is_pair", "is_pair", defArgs s_is_pair, defBody s_is_pair, defScope s_is_pair, [], []⟩
def d_check_party : He.DefD := ⟨("check_party", none), "check_party", "check_party", defArgs s_check_party, defBody s_check_party, defScope s_check_party, [], []⟩
def d_check_purses : He.DefD := ⟨("check_purses", none), "check_purses", "check_purses", defArgs s_check_purses, defBody s_check_purses, defScope s_check_purses, [], []⟩
def d_check_debts : He.DefD := ⟨("check_debts", none), "check_debts", "check_debts", defArgs s_check_debts, defBody s_check_debts, defScope s_check_debts, [], []⟩
def d_tidy : He.DefD := ⟨("tidy", none), "tidy", "tidy", defArgs s_tidy, defBody s_tidy, defScope s_tidy, [], []⟩
def d_common_divisor : He.DefD := ⟨("common_divisor", none), "common_divisor", "common_divisor", defArgs s_common_divisor, defBody s_common_divisor, defScope s_common_divisor, [], []⟩
def d_lowest_terms : He.DefD := ⟨("lowest_terms", none), "lowest_terms", "lowest_terms", defArgs s_lowest_terms, defBody s_lowest_terms, defScope s_lowest_terms, [], []⟩
def d_without_unknown : He.DefD := ⟨("without_unknown", none), "without_unknown", "without_unknown", defArgs s_without_unknown, defBody s_without_unknown, defScope s_without_unknown, [], []⟩
def d_solve : He.DefD := ⟨("solve", none), "solve", "solve", defArgs s_solve, defBody s_solve, defScope s_solve, [], []⟩
def d_debt_of : He.DefD := ⟨("debt_of", none), "debt_of", "debt_of", defArgs s_debt_of, defBody s_debt_of, defScope s_debt_of, [], []⟩
def d_checked : He.DefD := ⟨("checked", none), "checked", "checked", defArgs s_checked, defBody s_checked, defScope s_checked, [], []⟩
def d_received : He.DefD := ⟨("received", none), "received", "received", defArgs s_received, defBody s_received, defScope s_received, [], []⟩
def d_equation_of : He.DefD := ⟨("equation_of", none), "equation_of", "equation_of", defArgs s_equation_of, defBody s_equation_of, defScope s_equation_of, [], []⟩
def d_shares_when : He.DefD := ⟨("shares_when", none), "shares_when", "shares_when", defArgs s_shares_when, defBody s_shares_when, defScope s_shares_when, [], []⟩
def d_short_parties : He.DefD := ⟨("short_parties", none), "short_parties", "short_parties", defArgs s_short_parties, defBody s_short_parties, defScope s_short_parties, [], []⟩
def d_collapse : He.DefD := ⟨("collapse", none), "collapse", "collapse", defArgs s_collapse, defBody s_collapse, defScope s_collapse, [], []⟩
def d_clear : He.DefD := ⟨("clear", none), "clear", "clear", defArgs s_clear, defBody s_clear, defScope s_clear, [], []⟩
def d_cell : He.DefD := ⟨("_law_cell", none), "_law_cell", "_law_cell", defArgs s_cell, defBody s_cell, defScope s_cell, [], []⟩
def d_draws : He.DefD := ⟨("_law_draws", none), "_law_draws", "_law_draws", defArgs s_draws, defBody s_draws, defScope s_draws, [], []⟩
def d_take : He.DefD := ⟨("_law_take", none), "_law_take", "_law_take", defArgs s_take, defBody s_take, defScope s_take, [], []⟩
def d_wide : He.DefD := ⟨("_law_wide", none), "_law_wide", "_law_wide", defArgs s_wide, defBody s_wide, defScope s_wide, [], []⟩
def d_coins : He.DefD := ⟨("_law_coins", none), "_law_coins", "_law_coins", defArgs s_coins, defBody s_coins, defScope s_coins, [], []⟩
def d_base : He.DefD := ⟨("_law_base", none), "_law_base", "_law_base", defArgs s_base, defBody s_base, defScope s_base, [], []⟩
def d_parties : He.DefD := ⟨("_law_parties", none), "_law_parties", "_law_parties", defArgs s_parties, defBody s_parties, defScope s_parties, [], []⟩
def d_debts : He.DefD := ⟨("_law_debts", none), "_law_debts", "_law_debts", defArgs s_debts, defBody s_debts, defScope s_debts, [], []⟩
def d_purses : He.DefD := ⟨("_law_purses", none), "_law_purses", "_law_purses", defArgs s_purses, defBody s_purses, defScope s_purses, [], []⟩
def d_chain : He.DefD := ⟨("_law_chain", none), "_law_chain", "_law_chain", defArgs s_chain, defBody s_chain, defScope s_chain, [], []⟩
def d_is_integer : He.DefD := ⟨("_law_is_integer", none), "_law_is_integer", "_law_is_integer", defArgs s_is_integer, defBody s_is_integer, defScope s_is_integer, [], []⟩
def d_owes : He.DefD := ⟨("_law_owes", none), "_law_owes", "_law_owes", defArgs s_owes, defBody s_owes, defScope s_owes, [], []⟩
def d_parts_fit : He.DefD := ⟨("_law_parts_fit", none), "_law_parts_fit", "_law_parts_fit", defArgs s_parts_fit, defBody s_parts_fit, defScope s_parts_fit, [], []⟩
def d_has : He.DefD := ⟨("_law_has", none), "_law_has", "_law_has", defArgs s_has, defBody s_has, defScope s_has, [], []⟩
def d_next_text : He.DefD := ⟨("_law_next_text", none), "_law_next_text", "_law_next_text", defArgs s_next_text, defBody s_next_text, defScope s_next_text, [], []⟩
def d_raised : He.DefD := ⟨("_law_raised", none), "_law_raised", "_law_raised", defArgs s_raised, defBody s_raised, defScope s_raised, [], []⟩
def d_law : He.DefD := ⟨("law", none), "law", "law", defArgs s_law, defBody s_law, defScope s_law, [], []⟩
def fn : List He.DefD := [d_is_party, d_is_pair, d_check_party, d_check_purses, d_check_debts, d_tidy, d_common_divisor, d_lowest_terms, d_without_unknown, d_solve, d_debt_of, d_checked, d_received, d_equation_of, d_shares_when, d_short_parties, d_collapse, d_clear, d_cell, d_draws, d_take, d_wide, d_coins, d_base, d_parties, d_debts, d_purses, d_chain, d_is_integer, d_owes, d_parts_fit, d_has, d_next_text, d_raised, d_law]
def fa : List He.Fa := [.glo "is_party", .glo "is_pair", .glo "check_party", .glo "check_purses", .glo "check_debts", .glo "tidy", .glo "common_divisor", .glo "lowest_terms", .glo "without_unknown", .glo "solve", .glo "debt_of", .glo "checked", .glo "received", .glo "equation_of", .glo "shares_when", .glo "short_parties", .glo "collapse", .glo "clear", .glo "_law_cell", .glo "_law_draws", .glo "_law_take", .glo "_law_wide", .glo "_law_coins", .glo "_law_base", .glo "_law_parties", .glo "_law_debts", .glo "_law_purses", .glo "_law_chain", .glo "_law_is_integer", .glo "_law_owes", .glo "_law_parts_fit", .glo "_law_has", .glo "_law_next_text", .glo "_law_raised", .glo "law", .free "abs", .free "any", .free "bool", .free "dict", .free "enumerate", .free "int", .free "isinstance", .free "len", .free "list", .free "max", .free "range", .free "sorted", .free "str", .free "sum", .free "tuple", .free "zip", .str "PARTIES" "abcdef"]
def loose : List Str := [("HouseError" : Str), ("BadAmount" : Str), ("BadPair" : Str), ("BadParty" : Str), ("NoPurse" : Str), ("PARTIES" : Str), ("is_party" : Str), ("is_pair" : Str), ("check_party" : Str), ("check_purses" : Str), ("check_debts" : Str), ("tidy" : Str), ("common_divisor" : Str), ("lowest_terms" : Str), ("without_unknown" : Str), ("solve" : Str), ("debt_of" : Str), ("checked" : Str), ("received" : Str), ("equation_of" : Str), ("shares_when" : Str), ("short_parties" : Str), ("collapse" : Str), ("clear" : Str), ("_law_cell" : Str), ("_law_draws" : Str), ("_law_take" : Str), ("_law_wide" : Str), ("_law_coins" : Str), ("_law_base" : Str), ("_law_parties" : Str), ("_law_debts" : Str), ("_law_purses" : Str), ("_law_chain" : Str), ("_law_is_integer" : Str), ("_law_owes" : Str), ("_law_parts_fit" : Str), ("_law_has" : Str), ("_law_next_text" : Str), ("_law_raised" : Str)]
abbrev R : PySem.W.OpenRow := PySem.W.OpenLaw.row PySem.Challenge.rw_signedpacts_k73_clear_waves
abbrev hk : PySem.W.Hook := He.hookD 4 fa fn
def ob (s : PySem.W.SharedT) : He.AlD := He.obsDG 4 fa fn (HandSHeadRun.getT s)
theorem ob_eq (s : PySem.W.SharedT) : ob s = hk.obs s.abs := He.obsDG_eq (HandSHeadRun.getT_eq s)
theorem run (w : World) : HandSHeadRun.RunEq R (PySem.W.view R.prog [47]) hk ob 8000 loose w := by
  intro os
  kernel_rfl
theorem facts {P : Program} {w : World} {K : PySem.W.Frag} {h : Heap} {mg : Str → Option Value} {f : Addr} (X : K.In h) (G : h.Ns mainGlobals mg) (hfa : mg ("law" : Str) = some (.ref f)) (c : He.SaysD fa fn K) :
    ∃ fd : FuncData, (∀ (s : Shared) (v : Value), BindsTo s fd ⟨[v], []⟩ [("_law_script", v)]) ∧ ∀ base : Heap, K.In base → base.Ns mainGlobals mg → FnOk P w K mg base CX0 6 f fd ["_law_script"] (spLaw K) := by
  obtain ⟨fd_is_party, F_is_party⟩ := c.def_ 0 (d := d_is_party) rfl
  have F_is_party : FnP K "is_party" s_is_party _ fd_is_party := F_is_party
  have g_is_party := He.glo_ok X G (c.fact 0 (f := .glo "is_party") rfl)
  have b_is_party : Binds K fd_is_party P_is_party [] := F_is_party.bindsN fun _ _ _ _ _ _ us hl => match us, hl with | [_], _ => rfl
  obtain ⟨fd_is_pair, F_is_pair⟩ := c.def_ 1 (d := d_is_pair) rfl
  have F_is_pair : FnP K "is_pair" s_is_pair _ fd_is_pair := F_is_pair
  have g_is_pair := He.glo_ok X G (c.fact 1 (f := .glo "is_pair") rfl)
  have b_is_pair : Binds K fd_is_pair P_is_pair [] := F_is_pair.bindsN fun _ _ _ _ _ _ us hl => match us, hl with | [_], _ => rfl
  obtain ⟨fd_check_party, F_check_party⟩ := c.def_ 2 (d := d_check_party) rfl
  have F_check_party : FnP K "check_party" s_check_party _ fd_check_party := F_check_party
  have g_check_party := He.glo_ok X G (c.fact 2 (f := .glo "check_party") rfl)
  have b_check_party : Binds K fd_check_party P_check_party [] := F_check_party.bindsN fun _ _ _ _ _ _ us hl => match us, hl with | [_], _ => rfl
  obtain ⟨fd_check_purses, F_check_purses⟩ := c.def_ 3 (d := d_check_purses) rfl
  have F_check_purses : FnP K "check_purses" s_check_purses _ fd_check_purses := F_check_purses
  have g_check_purses := He.glo_ok X G (c.fact 3 (f := .glo "check_purses") rfl)
  have b_check_purses : Binds K fd_check_purses P_check_purses [] := F_check_purses.bindsN fun _ _ _ _ _ _ us hl => match us, hl with | [_], _ => rfl
  obtain ⟨fd_check_debts, F_check_debts⟩ := c.def_ 4 (d := d_check_debts) rfl
  have F_check_debts : FnP K "check_debts" s_check_debts _ fd_check_debts := F_check_debts
  have g_check_debts := He.glo_ok X G (c.fact 4 (f := .glo "check_debts") rfl)
  have b_check_debts : Binds K fd_check_debts P_check_debts [] := F_check_debts.bindsN fun _ _ _ _ _ _ us hl => match us, hl with | [_], _ => rfl
  obtain ⟨fd_tidy, F_tidy⟩ := c.def_ 5 (d := d_tidy) rfl
  have F_tidy : FnP K "tidy" s_tidy _ fd_tidy := F_tidy
  have g_tidy := He.glo_ok X G (c.fact 5 (f := .glo "tidy") rfl)
  have b_tidy : Binds K fd_tidy P_tidy [] := F_tidy.bindsN fun _ _ _ _ _ _ us hl => match us, hl with | [_], _ => rfl
  obtain ⟨fd_common_divisor, F_common_divisor⟩ := c.def_ 6 (d := d_common_divisor) rfl
  have F_common_divisor : FnP K "common_divisor" s_common_divisor _ fd_common_divisor := F_common_divisor
  have g_common_divisor := He.glo_ok X G (c.fact 6 (f := .glo "common_divisor") rfl)
  have b_common_divisor : Binds K fd_common_divisor P_common_divisor [] := F_common_divisor.bindsN fun _ _ _ _ _ _ us hl => match us, hl with | [_], _ => rfl
  obtain ⟨fd_lowest_terms, F_lowest_terms⟩ := c.def_ 7 (d := d_lowest_terms) rfl
  have F_lowest_terms : FnP K "lowest_terms" s_lowest_terms _ fd_lowest_terms := F_lowest_terms
  have g_lowest_terms := He.glo_ok X G (c.fact 7 (f := .glo "lowest_terms") rfl)
  have b_lowest_terms : Binds K fd_lowest_terms P_lowest_terms [] := F_lowest_terms.bindsN fun _ _ _ _ _ _ us hl => match us, hl with | [_, _], _ => rfl
  obtain ⟨fd_without_unknown, F_without_unknown⟩ := c.def_ 8 (d := d_without_unknown) rfl
  have F_without_unknown : FnP K "without_unknown" s_without_unknown _ fd_without_unknown := F_without_unknown
  have g_without_unknown := He.glo_ok X G (c.fact 8 (f := .glo "without_unknown") rfl)
  have b_without_unknown : Binds K fd_without_unknown P_without_unknown [] := F_without_unknown.bindsN fun _ _ _ _ _ _ us hl => match us, hl with | [_, _, _, _], _ => rfl
  obtain ⟨fd_solve, F_solve⟩ := c.def_ 9 (d := d_solve) rfl
  have F_solve : FnP K "solve" s_solve _ fd_solve := F_solve
  have g_solve := He.glo_ok X G (c.fact 9 (f := .glo "solve") rfl)
  have b_solve : Binds K fd_solve P_solve [] := F_solve.bindsN fun _ _ _ _ _ _ us hl => match us, hl with | [_], _ => rfl
  obtain ⟨fd_debt_of, F_debt_of⟩ := c.def_ 10 (d := d_debt_of) rfl
  have F_debt_of : FnP K "debt_of" s_debt_of _ fd_debt_of := F_debt_of
  have g_debt_of := He.glo_ok X G (c.fact 10 (f := .glo "debt_of") rfl)
  have b_debt_of : Binds K fd_debt_of P_debt_of [] := F_debt_of.bindsN fun _ _ _ _ _ _ us hl => match us, hl with | [_, _], _ => rfl
  obtain ⟨fd_checked, F_checked⟩ := c.def_ 11 (d := d_checked) rfl
  have F_checked : FnP K "checked" s_checked _ fd_checked := F_checked
  have g_checked := He.glo_ok X G (c.fact 11 (f := .glo "checked") rfl)
  have b_checked : Binds K fd_checked P_checked [] := F_checked.bindsN fun _ _ _ _ _ _ us hl => match us, hl with | [_, _], _ => rfl
  obtain ⟨fd_received, F_received⟩ := c.def_ 12 (d := d_received) rfl
  have F_received : FnP K "received" s_received _ fd_received := F_received
  have g_received := He.glo_ok X G (c.fact 12 (f := .glo "received") rfl)
  have b_received : Binds K fd_received P_received [] := F_received.bindsN fun _ _ _ _ _ _ us hl => match us, hl with | [_, _, _], _ => rfl
  obtain ⟨fd_equation_of, F_equation_of⟩ := c.def_ 13 (d := d_equation_of) rfl
  have F_equation_of : FnP K "equation_of" s_equation_of _ fd_equation_of := F_equation_of
  have g_equation_of := He.glo_ok X G (c.fact 13 (f := .glo "equation_of") rfl)
  have b_equation_of : Binds K fd_equation_of P_equation_of [] := F_equation_of.bindsN fun _ _ _ _ _ _ us hl => match us, hl with | [_, _, _, _], _ => rfl
  obtain ⟨fd_shares_when, F_shares_when⟩ := c.def_ 14 (d := d_shares_when) rfl
  have F_shares_when : FnP K "shares_when" s_shares_when _ fd_shares_when := F_shares_when
  have g_shares_when := He.glo_ok X G (c.fact 14 (f := .glo "shares_when") rfl)
  have b_shares_when : Binds K fd_shares_when P_shares_when [] := F_shares_when.bindsN fun _ _ _ _ _ _ us hl => match us, hl with | [_, _, _], _ => rfl
  obtain ⟨fd_short_parties, F_short_parties⟩ := c.def_ 15 (d := d_short_parties) rfl
  have F_short_parties : FnP K "short_parties" s_short_parties _ fd_short_parties := F_short_parties
  have g_short_parties := He.glo_ok X G (c.fact 15 (f := .glo "short_parties") rfl)
  have b_short_parties : Binds K fd_short_parties P_short_parties [] := F_short_parties.bindsN fun _ _ _ _ _ _ us hl => match us, hl with | [_, _, _, _], _ => rfl
  obtain ⟨fd_collapse, F_collapse⟩ := c.def_ 16 (d := d_collapse) rfl
  have F_collapse : FnP K "collapse" s_collapse _ fd_collapse := F_collapse
  have g_collapse := He.glo_ok X G (c.fact 16 (f := .glo "collapse") rfl)
  have b_collapse : Binds K fd_collapse P_collapse [] := F_collapse.bindsN fun _ _ _ _ _ _ us hl => match us, hl with | [_, _], _ => rfl
  obtain ⟨fd_clear, F_clear⟩ := c.def_ 17 (d := d_clear) rfl
  have F_clear : FnP K "clear" s_clear _ fd_clear := F_clear
  have g_clear := He.glo_ok X G (c.fact 17 (f := .glo "clear") rfl)
  have b_clear : Binds K fd_clear P_clear [] := F_clear.bindsN fun _ _ _ _ _ _ us hl => match us, hl with | [_, _], _ => rfl
  obtain ⟨fd_cell, F_cell⟩ := c.def_ 18 (d := d_cell) rfl
  have F_cell : FnP K "_law_cell" s_cell _ fd_cell := F_cell
  have g_cell := He.glo_ok X G (c.fact 18 (f := .glo "_law_cell") rfl)
  have b_cell : Binds K fd_cell P_cell [] := F_cell.bindsN fun _ _ _ _ _ _ us hl => match us, hl with | [_, _], _ => rfl
  obtain ⟨fd_draws, F_draws⟩ := c.def_ 19 (d := d_draws) rfl
  have F_draws : FnP K "_law_draws" s_draws _ fd_draws := F_draws
  have g_draws := He.glo_ok X G (c.fact 19 (f := .glo "_law_draws") rfl)
  have b_draws : Binds K fd_draws P_draws [] := F_draws.bindsN fun _ _ _ _ _ _ us hl => match us, hl with | [_, _], _ => rfl
  obtain ⟨fd_take, F_take⟩ := c.def_ 20 (d := d_take) rfl
  have F_take : FnP K "_law_take" s_take _ fd_take := F_take
  have g_take := He.glo_ok X G (c.fact 20 (f := .glo "_law_take") rfl)
  have b_take : Binds K fd_take P_take [] := F_take.bindsN fun _ _ _ _ _ _ us hl => match us, hl with | [_, _], _ => rfl
  obtain ⟨fd_wide, F_wide⟩ := c.def_ 21 (d := d_wide) rfl
  have F_wide : FnP K "_law_wide" s_wide _ fd_wide := F_wide
  have g_wide := He.glo_ok X G (c.fact 21 (f := .glo "_law_wide") rfl)
  have b_wide : Binds K fd_wide P_wide [] := F_wide.bindsN fun _ _ _ _ _ _ us hl => match us, hl with | [_, _], _ => rfl
  obtain ⟨fd_coins, F_coins⟩ := c.def_ 22 (d := d_coins) rfl
  have F_coins : FnP K "_law_coins" s_coins _ fd_coins := F_coins
  have g_coins := He.glo_ok X G (c.fact 22 (f := .glo "_law_coins") rfl)
  have b_coins : Binds K fd_coins P_coins [] := F_coins.bindsN fun _ _ _ _ _ _ us hl => match us, hl with | [_, _, _, _], _ => rfl
  obtain ⟨fd_base, F_base⟩ := c.def_ 23 (d := d_base) rfl
  have F_base : FnP K "_law_base" s_base _ fd_base := F_base
  have g_base := He.glo_ok X G (c.fact 23 (f := .glo "_law_base") rfl)
  have b_base : Binds K fd_base P_base [] := F_base.bindsN fun _ _ _ _ _ _ us hl => match us, hl with | [_, _], _ => rfl
  obtain ⟨fd_parties, F_parties⟩ := c.def_ 24 (d := d_parties) rfl
  have F_parties : FnP K "_law_parties" s_parties _ fd_parties := F_parties
  have g_parties := He.glo_ok X G (c.fact 24 (f := .glo "_law_parties") rfl)
  have b_parties : Binds K fd_parties P_parties [] := F_parties.bindsN fun _ _ _ _ _ _ us hl => match us, hl with | [_, _], _ => rfl
  obtain ⟨fd_debts, F_debts⟩ := c.def_ 25 (d := d_debts) rfl
  have F_debts : FnP K "_law_debts" s_debts _ fd_debts := F_debts
  have g_debts := He.glo_ok X G (c.fact 25 (f := .glo "_law_debts") rfl)
  have b_debts : Binds K fd_debts P_debts [] := F_debts.bindsN fun _ _ _ _ _ _ us hl => match us, hl with | [_, _, _, _, _], _ => rfl
  obtain ⟨fd_purses, F_purses⟩ := c.def_ 26 (d := d_purses) rfl
  have F_purses : FnP K "_law_purses" s_purses _ fd_purses := F_purses
  have g_purses := He.glo_ok X G (c.fact 26 (f := .glo "_law_purses") rfl)
  have b_purses : Binds K fd_purses P_purses [] := F_purses.bindsN fun _ _ _ _ _ _ us hl => match us, hl with | [_, _, _, _, _, _], _ => rfl
  obtain ⟨fd_chain, F_chain⟩ := c.def_ 27 (d := d_chain) rfl
  have F_chain : FnP K "_law_chain" s_chain _ fd_chain := F_chain
  have g_chain := He.glo_ok X G (c.fact 27 (f := .glo "_law_chain") rfl)
  have b_chain : Binds K fd_chain P_chain [] := F_chain.bindsN fun _ _ _ _ _ _ us hl => match us, hl with | [_, _, _], _ => rfl
  obtain ⟨fd_is_integer, F_is_integer⟩ := c.def_ 28 (d := d_is_integer) rfl
  have F_is_integer : FnP K "_law_is_integer" s_is_integer _ fd_is_integer := F_is_integer
  have g_is_integer := He.glo_ok X G (c.fact 28 (f := .glo "_law_is_integer") rfl)
  have b_is_integer : Binds K fd_is_integer P_is_integer [] := F_is_integer.bindsN fun _ _ _ _ _ _ us hl => match us, hl with | [_], _ => rfl
  obtain ⟨fd_owes, F_owes⟩ := c.def_ 29 (d := d_owes) rfl
  have F_owes : FnP K "_law_owes" s_owes _ fd_owes := F_owes
  have g_owes := He.glo_ok X G (c.fact 29 (f := .glo "_law_owes") rfl)
  have b_owes : Binds K fd_owes P_owes [] := F_owes.bindsN fun _ _ _ _ _ _ us hl => match us, hl with | [_, _], _ => rfl
  obtain ⟨fd_parts_fit, F_parts_fit⟩ := c.def_ 30 (d := d_parts_fit) rfl
  have F_parts_fit : FnP K "_law_parts_fit" s_parts_fit _ fd_parts_fit := F_parts_fit
  have g_parts_fit := He.glo_ok X G (c.fact 30 (f := .glo "_law_parts_fit") rfl)
  have b_parts_fit : Binds K fd_parts_fit P_parts_fit [] := F_parts_fit.bindsN fun _ _ _ _ _ _ us hl => match us, hl with | [_, _], _ => rfl
  obtain ⟨fd_has, F_has⟩ := c.def_ 31 (d := d_has) rfl
  have F_has : FnP K "_law_has" s_has _ fd_has := F_has
  have g_has := He.glo_ok X G (c.fact 31 (f := .glo "_law_has") rfl)
  have b_has : Binds K fd_has P_has [] := F_has.bindsN fun _ _ _ _ _ _ us hl => match us, hl with | [_, _, _, _, _], _ => rfl
  obtain ⟨fd_next_text, F_next_text⟩ := c.def_ 32 (d := d_next_text) rfl
  have F_next_text : FnP K "_law_next_text" s_next_text _ fd_next_text := F_next_text
  have g_next_text := He.glo_ok X G (c.fact 32 (f := .glo "_law_next_text") rfl)
  have b_next_text : Binds K fd_next_text P_next_text [] := F_next_text.bindsN fun _ _ _ _ _ _ us hl => match us, hl with | [_, _, _, _, _], _ => rfl
  obtain ⟨fd_raised, F_raised⟩ := c.def_ 33 (d := d_raised) rfl
  have F_raised : FnP K "_law_raised" s_raised _ fd_raised := F_raised
  have g_raised := He.glo_ok X G (c.fact 33 (f := .glo "_law_raised") rfl)
  have b_raised : Binds K fd_raised P_raised [] := F_raised.bindsN fun _ _ _ _ _ _ us hl => match us, hl with | [_, _, _, _], _ => rfl
  obtain ⟨fd_law, F_law⟩ := c.def_ 34 (d := d_law) rfl
  have F_law : FnP K "law" s_law _ fd_law := F_law
  have g_law := He.glo_ok X G (c.fact 34 (f := .glo "law") rfl)
  have m_abs := He.free_ok X G (c.fact 35 (f := .free "abs") rfl)
  have m_any := He.free_ok X G (c.fact 36 (f := .free "any") rfl)
  have m_bool := He.free_ok X G (c.fact 37 (f := .free "bool") rfl)
  have m_dict := He.free_ok X G (c.fact 38 (f := .free "dict") rfl)
  have m_enumerate := He.free_ok X G (c.fact 39 (f := .free "enumerate") rfl)
  have m_int := He.free_ok X G (c.fact 40 (f := .free "int") rfl)
  have m_isinstance := He.free_ok X G (c.fact 41 (f := .free "isinstance") rfl)
  have m_len := He.free_ok X G (c.fact 42 (f := .free "len") rfl)
  have m_list := He.free_ok X G (c.fact 43 (f := .free "list") rfl)
  have m_max := He.free_ok X G (c.fact 44 (f := .free "max") rfl)
  have m_range := He.free_ok X G (c.fact 45 (f := .free "range") rfl)
  have m_sorted := He.free_ok X G (c.fact 46 (f := .free "sorted") rfl)
  have m_str := He.free_ok X G (c.fact 47 (f := .free "str") rfl)
  have m_sum := He.free_ok X G (c.fact 48 (f := .free "sum") rfl)
  have m_tuple := He.free_ok X G (c.fact 49 (f := .free "tuple") rfl)
  have m_zip := He.free_ok X G (c.fact 50 (f := .free "zip") rfl)
  have g0_PARTIES := He.str_ok X G (c.fact 51 (f := .str "PARTIES" "abcdef") rfl)
  obtain ⟨tok_PARTIES, g_PARTIES⟩ := g0_PARTIES
  have e := hfa.symm.trans g_law
  cases e
  have b := FunD.bindsA (ps := ["_law_script"]) F_law fun _ _ _ _ _ _ us hl => match us, hl with | [_], _ => rfl
  refine ⟨fd_law, fun s v => b s [v] rfl, fun base _ _ => ?_⟩
  have c_cell : Cal P w K mg base 1 "_law_cell" (spCell K) := cal_of F_cell g_cell b_cell (ok_cell F_cell m_len m_int)
  have c_draws : Cal P w K mg base 1 "_law_draws" spDraws := cal_of F_draws g_draws b_draws (ok_draws F_draws m_int m_abs m_range)
  have c_take : Cal P w K mg base 1 "_law_take" (spTake K) := cal_of F_take g_take b_take (ok_take F_take m_len)
  have c_is_party : Cal P w K mg base 1 "is_party" spParty := cal_of F_is_party g_is_party b_is_party (ok_is_party F_is_party m_len tok_PARTIES g_PARTIES)
  have c_is_pair : Cal P w K mg base 2 "is_pair" spPair := cal_of F_is_pair g_is_pair b_is_pair (ok_is_pair F_is_pair m_len c_is_party)
  have c_check_debts : Cal P w K mg base 3 "check_debts" spCheck := cal_of F_check_debts g_check_debts b_check_debts (ok_check_debts F_check_debts m_list c_is_pair)
  have c_tidy : Cal P w K mg base 1 "tidy" spTidy := cal_of F_tidy g_tidy b_tidy (ok_tidy F_tidy m_list m_sorted)
  have c_wide : Cal P w K mg base 2 "_law_wide" (spWide K) := cal_of F_wide g_wide b_wide (ok_wide F_wide m_range c_take)
  have c_coins : Cal P w K mg base 3 "_law_coins" (spCoins K) := cal_of F_coins g_coins b_coins (ok_coins F_coins m_int c_take c_wide)
  have c_parties : Cal P w K mg base 2 "_law_parties" (spParties K) := cal_of F_parties g_parties b_parties (ok_parties F_parties m_int m_len m_range c_take)
  have c_base : Cal P w K mg base 3 "_law_base" (spBase K) := cal_of F_base g_base b_base (ok_base F_base m_int c_take c_wide)
  have c_debts : Cal P w K mg base 4 "_law_debts" (spDebts K) := cal_of F_debts g_debts b_debts (ok_debts F_debts m_int m_len m_range c_take c_coins)
  have c_common_divisor : Cal P w K mg base 1 "common_divisor" (spGcd K) := cal_of F_common_divisor g_common_divisor b_common_divisor (ok_common_divisor F_common_divisor m_abs)
  have c_lowest_terms : Cal P w K mg base 2 "lowest_terms" spLow := cal_of F_lowest_terms g_lowest_terms b_lowest_terms (ok_lowest_terms F_lowest_terms c_common_divisor)
  have c_without_unknown : Cal P w K mg base 1 "without_unknown" spWu := cal_of F_without_unknown g_without_unknown b_without_unknown (ok_without_unknown F_without_unknown m_zip)
  have c_solve : Cal P w K mg base 2 "solve" spSol := cal_of F_solve g_solve b_solve (ok_solve F_solve m_len m_range m_enumerate c_without_unknown)
  have c_debt_of : Cal P w K mg base 1 "debt_of" spOwe := cal_of F_debt_of g_debt_of b_debt_of (ok_debt_of F_debt_of m_sum)
  have c_received : Cal P w K mg base 1 "received" spRcv := cal_of F_received g_received b_received (ok_received F_received m_sum)
  have c_equation_of : Cal P w K mg base 2 "equation_of" spEqn := cal_of F_equation_of g_equation_of b_equation_of (ok_equation_of F_equation_of m_sum c_debt_of)
  have c_shares_when : Cal P w K mg base 3 "shares_when" spSwh := cal_of F_shares_when g_shares_when b_shares_when (ok_shares_when F_shares_when m_zip c_solve c_equation_of)
  have c_short_parties : Cal P w K mg base 2 "short_parties" spShp := cal_of F_short_parties g_short_parties b_short_parties (ok_short_parties F_short_parties tok_PARTIES g_PARTIES c_debt_of c_received)
  have c_collapse : Cal P w K mg base 4 "collapse" spCol := cal_of F_collapse g_collapse b_collapse (ok_collapse F_collapse m_tuple c_shares_when c_short_parties)
  have c_check_party : Cal P w K mg base 2 "check_party" spChkP := cal_of F_check_party g_check_party b_check_party (ok_check_party F_check_party c_is_party)
  have c_check_purses : Cal P w K mg base 3 "check_purses" spChkPs := cal_of F_check_purses g_check_purses b_check_purses (ok_check_purses F_check_purses m_list c_check_party)
  have c_checked : Cal P w K mg base 4 "checked" spChd := cal_of F_checked g_checked b_checked (ok_checked F_checked m_any tok_PARTIES g_PARTIES c_check_debts c_check_purses c_tidy)
  have c_clear : Cal P w K mg base 5 "clear" spClr := cal_of F_clear g_clear b_clear (ok_clear F_clear c_checked c_collapse c_debt_of c_lowest_terms)
  have c_purses : Cal P w K mg base 4 "_law_purses" (spPrs K) := cal_of F_purses g_purses b_purses (ok_purses F_purses m_int m_len m_range c_take c_coins)
  have c_is_integer : Cal P w K mg base 1 "_law_is_integer" spInt := cal_of F_is_integer g_is_integer b_is_integer (ok_is_integer F_is_integer m_isinstance m_int m_bool)
  have c_owes : Cal P w K mg base 1 "_law_owes" spOwe := cal_of F_owes g_owes b_owes (ok_owes F_owes m_sum)
  have c_parts_fit : Cal P w K mg base 2 "_law_parts_fit" spFit := cal_of F_parts_fit g_parts_fit b_parts_fit (ok_parts_fit F_parts_fit m_isinstance m_dict m_tuple m_str m_list m_len c_is_integer)
  have c_has : Cal P w K mg base 1 "_law_has" spHas := cal_of F_has g_has b_has (ok_has F_has)
  have c_raised : Cal P w K mg base 1 "_law_raised" spRsd := cal_of F_raised g_raised b_raised (ok_raised F_raised m_max)
  have c_next_text : Cal P w K mg base 2 "_law_next_text" spNxt := cal_of F_next_text g_next_text b_next_text (ok_next_text F_next_text c_has)
  have c_chain : Cal P w K mg base 2 "_law_chain" (spChn K) := cal_of F_chain g_chain b_chain (ok_chain F_chain m_int m_len m_range c_take)
  exact ok_law F_law m_int m_dict m_list m_len m_range c_cell c_draws c_take c_parties c_base c_debts c_purses c_chain c_owes c_clear c_parts_fit c_raised c_next_text
end Z
open PySem PySem.W PySem.Calls PyProof.Rows
theorem PySem.Challenge.cw_signedpacts_k73_clear_waves_holds : PySem.Challenge.rw_signedpacts_k73_clear_waves.Holds := by
  w_on; o_law
  refine HandSHeadRun.head_any (r := OpenLaw.row PySem.Challenge.rw_signedpacts_k73_clear_waves) (q := view (OpenLaw.row PySem.Challenge.rw_signedpacts_k73_clear_waves).prog [47]) (H := Z.hk) (ob := Z.ob) (M := 8000) (loose := Z.loose) (d := HandSHeadRun.topDef (OpenLaw.row PySem.Challenge.rw_signedpacts_k73_clear_waves).prog 47) (kwd := []) Z.ob_eq
    (by kernel_rfl) (fun s => by kernel_rfl) Z.run (by kernel_rfl) (by kernel_rfl) (by kernel_rfl) (by rfl) (by first | assumption | decide +kernel) (by decide +kernel) ⟨rfl, rfl, rfl, rfl, rfl, by decide +kernel⟩ ?hw ?hc
  case hw => w_witness2
  case hc =>
    refine L2.walk_ofE (l := PySem.Challenge.rw_signedpacts_k73_clear_waves) (n := 63) (k := 6) (x := "_law_script") (CX := L2.CX0) rfl (by decide) (by kernel_rfl) ⟨rfl, by decide, by decide⟩ ?F (fun _ _ _ _ z => z)
    intro w mg fa h Y G hmg0
    obtain ⟨K, KX, c⟩ := Y
    have hmg : mg ("law" : PySem.Str) = some (.ref fa) := by
      have e : (HandSHeadRun.topDef (OpenLaw.row PySem.Challenge.rw_signedpacts_k73_clear_waves).prog 47).name = ("law" : PySem.Str) := by kernel_rfl
      rw [← e]
      exact hmg0
    obtain ⟨fd, hb, hF⟩ := Z.facts (P := (PySem.Challenge.rw_signedpacts_k73_clear_waves).prog) (w := w) KX G hmg c
    exact ⟨K, fd, Z.spLaw K, KX, hb, fun H a ns hl _ hS => ⟨a, ns, rfl, hS, hl, fun _ => rfl⟩, hF⟩
