import PyProof.Rows.All
import Wide.All
import OpenK.AllK
import Wide.FinOn
import HandS.ForMost
import HandS.Zip
import HandS.TupMul
import HandS.Codes
import KE.GoesMore
import KE.GoesEnum
import HandS.Defaults
import HandS.IsInst
import HandS.Wide
import HandS.WideBits
import HandS.NoneIn
import HandS.OwnEq
import HandS.Star
import HandS.SetTxtIn
import HandS.ExcInit
import HandS.ExcField
import HandS.ExcIs
import HandS.Nested
import HandS.ClsMeth
import HandS.HeadHook1
import KE.KSuper
import KE.KExcSuper
import HandS.WordsExc
import HandS.ExcInitHot
import KE.KExcIs
import HandS.HeadHook2
import HandS.Property
import HandS.NamedTupGet
import HandS.ExcCtx
import HandS.SortInts
import HandS.Conv
import HandS.More
import HandS.Style
import KE.DataMinMax
import KE.SortData
import HandS.TupAny
import HandS.Head0
import HandS.Head1
import HandS.Head2
import HandS.HeadEnd
import PySem.Challenge.RW_signedpacts_k92_whole_dispute_replies
set_option Elab.async false
set_option linter.all false
set_option maxRecDepth 100000
set_option maxHeartbeats 4000000
namespace Z
open PySem PySem.Spec PyProof.Rows L2
/-! ### zip over two sequences, each a list (true) or a tuple (false) -/
def SqK (b : Bool) (K : PySem.W.Frag) (H : Hp) (a : Addr) (xs : List V) : Prop := match b with
  | true => SqL K H a xs
  | false => SqT K H a xs
def ItK (b : Bool) (h : Heap) (it l : Addr) (i : Nat) : Prop := match b with
  | true => h.IsListIter it l i
  | false => h.IsTupleIter it l i
def IsK (b : Bool) (h : Heap) (l : Addr) (xs : Array Value) : Prop := match b with
  | true => h.IsList l xs
  | false => h.IsTuple l xs
theorem ItK.at' {b : Bool} {h h' : Heap} {it l : Addr} {i : Nat} (x : ItK b h it l i) (k : ∀ o, h.get? it = some o → h'.get? it = some o) : ItK b h' it l i := by
  cases b
  · exact Heap.IsTupleIter.at x k
  · exact Heap.IsListIter.at x k
theorem ItK.obj {b : Bool} {h : Heap} {it l : Addr} {i : Nat} (x : ItK b h it l i) : ∃ o, h.get? it = some o ∧ ∀ v, o.data ≠ .cell v := by
  cases b
  · obtain ⟨o, e, _, d⟩ := (show h.IsTupleIter it l i from x)
    exact ⟨o, e, fun v q => by rw [d] at q; cases q⟩
  · obtain ⟨o, e, _, d⟩ := (show h.IsListIter it l i from x)
    exact ⟨o, e, fun v q => by rw [d] at q; cases q⟩
theorem sqk_is {X : Cx} {pins : List (Addr × Obj)} {σ : L2.St} {H : Hp} {s : Shared} {b : Bool} {a : Addr} {xs : List V} (I : Inv X pins σ H s) (h : SqK b X.K H a xs) :
    ∃ its : List Value, Vals xs its ∧ IsK b s.heap a its.toArray ∧ a < s.heap.objs.size := by
  cases b
  · obtain ⟨its, r, p, _⟩ := I.tuple h
    obtain ⟨o, ho, _⟩ := id p
    exact ⟨its, r, p, Heap.lt_size ho⟩
  · obtain ⟨its, r, p, _⟩ := I.list h
    exact ⟨its, r, p.isList, p.lt⟩
theorem sqk_inj {X : Cx} {pins : List (Addr × Obj)} {σ : L2.St} {H : Hp} {s : Shared} {b : Bool} {a : Addr} {xs ys : List V} (I : Inv X pins σ H s) (h : SqK b X.K H a xs) (h' : SqK b X.K H a ys) : xs = ys := by
  cases b
  · exact I.tuple_inj h h'
  · exact I.list_inj h h'
theorem drawsK {prog : Program} {w : World} {A : Around} (b : Bool) (hh : A.handled = none) (it l : Addr) (hne : l ≠ it) (items : Array Value) :
    Draws prog w A it [it, l] items.size (fun i v => items[i]? = some v) (fun i h => ItK b h it l i ∧ IsK b h l items) := by
  cases b
  · exact Draws.tuple hh it l hne items
  · exact Draws.list hh it l hne items
def ItzM (p q : Bool) (K : PySem.W.Frag) (a b : Addr) : It :=
  ⟨fun i H => ∃ (xs ys : List V) (x y : V), SqK p K H a xs ∧ SqK q K H b ys ∧ xs[i]? = some x ∧ ys[i]? = some y,
   fun i H v H' => ∃ T x y, v = .ref T ∧ H T = none ∧ H' = upd H T (.tup [x, y]) ∧ (∀ xs, SqK p K H a xs → xs[i]? = some x) ∧ (∀ ys, SqK q K H b ys → ys[i]? = some y),
   fun i H => ∃ xs ys : List V, SqK p K H a xs ∧ SqK q K H b ys ∧ (xs.length ≤ i ∨ ys.length ≤ i) ∧ i ≤ xs.length ∧ i ≤ ys.length⟩
theorem zsep {z TI TO i1 i2 a b : Addr} (D : ZipApart z TI TO i1 i2 a b) : ZipSep2 z TI TO i1 i2 [i1, a] [i2, b] where
  TIz := D.TIz
  TOz := D.TOz
  TITO := D.TITO
  TIi1 := D.TIi1
  mem1 := List.mem_cons_self
  zf1 := fun h => by rcases List.mem_cons.mp h with e | h; exact D.i1z e.symm; exact D.l1z (List.mem_singleton.mp h).symm
  Tf1 := fun h => by rcases List.mem_cons.mp h with e | h; exact D.TOi1 e; exact D.l1TO (List.mem_singleton.mp h).symm
  TIi2 := D.TIi2
  mem2 := List.mem_cons_self
  zf2 := fun h => by rcases List.mem_cons.mp h with e | h; exact D.i2z e.symm; exact D.l2z (List.mem_singleton.mp h).symm
  Tf2 := fun h => by rcases List.mem_cons.mp h with e | h; exact D.TOi2 e; exact D.l2TO (List.mem_singleton.mp h).symm
  sep1_2 := fun h => by rcases List.mem_cons.mp h with e | h; exact D.i12 e; exact D.l2i1 (List.mem_singleton.mp h).symm
  sep2_1 := fun h => by rcases List.mem_cons.mp h with e | h; exact D.i12 e.symm; exact D.l1i2 (List.mem_singleton.mp h).symm
theorem five {c z TI TO i1 i2 : Addr} {Pr : Addr → Prop} (hc : c ∈ [z, TI, TO, i1, i2]) (a : Pr z) (b : Pr TI) (d : Pr TO) (e : Pr i1) (f : Pr i2) : Pr c := by
  have q : c = z ∨ c = TI ∨ c = TO ∨ c = i1 ∨ c = i2 := by simpa using hc
  rcases q with rfl | rfl | rfl | rfl | rfl <;> assumption
theorem turn_zipM {p q : Bool} {P : Program} {w : World} {K : PySem.W.Frag} {elts : List Expr} {kk : Nat} {tpos : Pos} {a b z TI TO i1 i2 : Addr} (D : ZipApart z TI TO i1 i2 a b) :
    Turn P w K (.Tuple elts kk tpos) (ItzM p q K a b) [z, TI, TO, i1, i2] z (fun i h => IsZip h z TI TO .none ∧ IsTupOf2 h TI (.ref i1) (.ref i2) ∧ (∃ x y, IsTupOf2 h TO x y) ∧ ItK p h i1 a i ∧ ItK q h i2 b i) where
  mem := by simp
  obj := fun i h st c hc => by
    obtain ⟨hz, hI, ⟨x, y, hO⟩, h1, h2⟩ := st
    exact five (Pr := fun c => ∃ o, h.get? c = some o ∧ ∀ v, o.data ≠ .cell v) hc ⟨_, hz, fun v q => nomatch q⟩ ⟨_, hI, fun v q => nomatch q⟩ ⟨_, hO, fun v q => nomatch q⟩ h1.obj h2.obj
  keep := fun i h h' st k => by
    obtain ⟨hz, hI, ⟨x, y, hO⟩, h1, h2⟩ := st
    exact ⟨k z (by simp) _ hz, k TI (by simp) _ hI, ⟨x, y, k TO (by simp) _ hO⟩, h1.at' (fun o e => k i1 (by simp) o e), h2.at' (fun o e => k i2 (by simp) o e)⟩
  item := by
    intro X hP hw hK hc i pins s σ H E I hf st hg
    subst hP hw hK
    obtain ⟨hz, hI, ⟨x0, y0, hO⟩, h1, h2⟩ := st
    obtain ⟨xs, ys, x, y, qx, qy, ex, ey⟩ := hg
    obtain ⟨us, rx, kx, _⟩ := sqk_is I qx
    obtain ⟨vs, ry, ky, _⟩ := sqk_is I qy
    obtain ⟨u, eu, ru⟩ := rx.get ex
    obtain ⟨v, ev, rv⟩ := ry.get ey
    have hzl : z < s.heap.objs.size := Heap.lt_size hz
    have lu : i < us.toArray.size := by simpa using (List.getElem?_eq_some_iff.mp eu).1
    have lv : i < vs.toArray.size := by simpa using (List.getElem?_eq_some_iff.mp ev).1
    have hh : X.A.in1.handled = none := I.ok.hd hc
    refine wpAny_pyNext_zipD2_item (zsep D) (drawsK p hh i1 a D.l1i1 us.toArray) (drawsK q hh i2 b D.l2i2 vs.toArray) hz hI hO ⟨h1, kx⟩ ⟨h2, ky⟩ lu lv fun m1 m2 g tk p1 p2 gz gO g1 g2 gT gs gk => ?_
    have e1 : m1 = u := by
      have t1 : us.toArray[i]? = some u := by simpa using eu
      exact Option.some.inj (p1.symm.trans t1)
    have e2 : m2 = v := by
      have t1 : vs.toArray[i]? = some v := by simpa using ev
      exact Option.some.inj (p2.symm.trans t1)
    subst e1 e2
    refine ⟨_, rfl, wpAny_letOwnedTupleGo_zip (s := { s with heap := g, toks := tk }) gz fun g' gz' sb => ?_⟩
    have gT' : g'.get? s.heap.objs.size = some { cls := .type "tuple", data := .seq #[m1, m2] } := (sb.2 _ (Nat.ne_of_gt hzl)).trans gT
    have nw : ObjOk X.prog X.w (upd H s.heap.objs.size (.tup [x, y])) g' s.heap.objs.size (.tup [x, y]) := ⟨by show 2 ≤ sizeLine; decide, [m1, m2], .cons ru (.cons rv .nil), ⟨_, gT', rfl, _, rfl⟩⟩
    have I1 : Inv X pins σ (upd H s.heap.objs.size (.tup [x, y])) { s with heap := g', toks := tk } :=
      I.turnedNew (t' := tk) (ch := [z, TI, TO, i1, i2]) (fun c o nb e => (sb.2 c (fun w => nb (by simp [w]))).trans (gk c o (fun w => nb (by simp [w])) (fun w => nb (by simp [w])) (fun w => nb (by simp [w])) (fun w => nb (by simp [w])) e)) hf (Nat.le_refl _) nw
    refine ⟨.ref s.heap.objs.size, _, I1, rfl, ⟨_, x, y, rfl, I.hok.fresh (Nat.le_refl _), rfl, fun l hl => by rw [sqk_inj I hl qx]; exact ex, fun l hl => by rw [sqk_inj I hl qy]; exact ey⟩, ⟨gz', ?_, ⟨m1, m2, ?_⟩, ?_, ?_⟩, fun c hcm => ?_⟩
    · exact (sb.2 _ D.TIz).trans (gk _ _ D.TIz D.TITO D.TIi1 D.TIi2 hI)
    · exact (sb.2 _ D.TOz).trans gO
    · exact ItK.at' g1.1 (fun o e => (sb.2 _ D.i1z).trans e)
    · exact ItK.at' g2.1 (fun o e => (sb.2 _ D.i2z).trans e)
    · have lt : c < s.heap.objs.size := by
        obtain ⟨o1, q1, _⟩ := h1.obj
        obtain ⟨o2, q2, _⟩ := h2.obj
        exact five (Pr := fun c => c < s.heap.objs.size) hcm hzl (Heap.lt_size hI) (Heap.lt_size hO) (Heap.lt_size q1) (Heap.lt_size q2)
      rw [upd_ne (Nat.ne_of_lt lt)]
      exact (hf c hcm).1
  done := by
    intro X hP hw hK hc i pins s σ H E I hf st hg
    subst hP hw hK
    obtain ⟨hz, hI, ⟨x0, y0, hO⟩, h1, h2⟩ := st
    obtain ⟨xs, ys, qx, qy, hend, le1, le2⟩ := hg
    obtain ⟨us, rx, kx, _⟩ := sqk_is I qx
    obtain ⟨vs, ry, ky, _⟩ := sqk_is I qy
    have l1 := rx.length
    have l2 := ry.length
    have n1 : us.toArray.size = us.length := by simp
    have n2 : vs.toArray.size = vs.length := by simp
    have hh : X.A.in1.handled = none := I.ok.hd hc
    refine wpAny_pyNext_zipD2_end (i := i) (zsep D) (drawsK p hh i1 a D.l1i1 us.toArray) (drawsK q hh i2 b D.l2i2 vs.toArray) hz hI hO ⟨h1, kx⟩ ⟨h2, ky⟩ (by omega) (by omega) (by omega) fun g tk gk => ?_
    exact ⟨rfl, I.turnedL (t' := tk) (ch := [z, TI, TO, i1, i2]) (fun c o nb e => gk c o (fun w => nb (by simp [w])) (fun w => nb (by simp [w])) (fun w => nb (by simp [w])) (fun w => nb (by simp [w])) e) hf⟩
  self := fun A i s Q E st h => wpAny_pyIter_zip st.1 h
def iZipM (K : PySem.W.Frag) (ta : TA) : TI := fun σ H R => ta σ H fun vs H1 => ∃ p q a b xs ys, vs = [.ref a, .ref b] ∧ SqK p K H1 a xs ∧ SqK q K H1 b ys ∧ R (ItzM p q K a b) H1
theorem begK {p : Bool} {h : Heap} {a : Addr} {xs : Array Value} (k : IsK p h a xs) : ∃ o Hp', Begins (.ref a) o Hp' ∧ Hp' h ∧ ∀ h' it, h'.get? it = some o → ItK p h' it a 0 := by
  cases p
  · exact ⟨_, _, begins_tuple a xs, k, fun h' it e => ⟨_, e, rfl, rfl⟩⟩
  · exact ⟨_, _, begins_list a xs, k, fun h' it e => ⟨_, e, rfl, rfl⟩⟩
theorem pi_zipM {X : Cx} {e e2 : Expr} {ta : TA} {p pos tpos : Pos} {elts : List Expr} {kk : Nat} (hg : Gl X "zip") (hm : X.mg "zip" = none) (ha : PA X [e, e2] ta)
    (hs : starEach [e, e2] X.env = (false, eval e X.env) :: starEach [e2] X.env := by rfl) (hpl : (backTo pos (starEach [e2] X.env)).any (·.1) = false := by rfl) :
    PI X (.Tuple elts kk tpos) (.Call (.Name "zip" p) [e, e2] [] pos) (iZipM X.K ta) := by
  constructor
  intro pins s σ H R I h
  refine Call_ (ld_blt I hg hm PyProof.Rows.boot_zip (PyProof.Rows.callWith_type1 (thn (ha.run pos pins s σ H _ I h) fun us s1 ⟨vs, H1, I1, r1, q1⟩ => ?_) hs hpl))
  obtain ⟨k1, k2, a, b, xs, ys, ex, qx, qy, q⟩ := q1
  subst ex
  obtain ⟨u, v, rfl, ru, rv⟩ := Vals.two r1
  cases ru
  cases rv
  obtain ⟨i1, _, p1, lt1⟩ := sqk_is I1 qx
  obtain ⟨i2, _, p2, lt2⟩ := sqk_is I1 qy
  obtain ⟨o1, G1, B1, g1, w1⟩ := begK p1
  obtain ⟨o2, G2, B2, g2, w2⟩ := begK p2
  refine zip_begins2 B1 B2 g1 g2 fun h' hz hI hO e1 e2 hsz hk => wpAny_pyIter_zip hz ?_
  have I2 : Inv X pins σ H1 { s1 with heap := h' } := I1.kept (t' := s1.toks) hk
  refine ⟨s1.heap.objs.size + 4, [s1.heap.objs.size + 4, s1.heap.objs.size + 2, s1.heap.objs.size + 3, s1.heap.objs.size, s1.heap.objs.size + 1], _, _, H1, rfl, I2, turn_zipM (PySem.W.ktu_apart s1.heap.objs.size a b lt1 lt2), ⟨hz, hI, ⟨_, _, hO⟩, w1 _ _ e1, w2 _ _ e2⟩, fun c hcm => ?_, q⟩
  have hle : s1.heap.objs.size ≤ c := five (Pr := fun c => s1.heap.objs.size ≤ c) hcm (Nat.le_add_right _ _) (Nat.le_add_right _ _) (Nat.le_add_right _ _) (Nat.le_refl _) (Nat.le_add_right _ _)
  exact I1.fpOk hle (I1.hok.fresh hle)
end Z
set_option Elab.async false
set_option linter.all false
set_option maxRecDepth 100000
set_option maxHeartbeats 4000000
namespace Z
open PySem PySem.Spec PyProof.Rows L2
/-! ### (v,) * k for 0 ≤ k -/
theorem tmul0 (l : Addr) (v : Value) (n : Nat) (dd : Option Addr) (sl : Array (Option Value)) (u : Tok) :
    Meets (Builtin.«tuple.__mul__» ⟨[.ref l, .int 0 u], []⟩) (fun _ R s => s.heap.get? l = some { cls := .type "tuple", dict := dd, data := .seq #[v] n, slots := sl } ∧
      R (.ok (.ret (Value.ref s.heap.objs.size))) { s with heap := s.heap.push { cls := Value.type "tuple", data := Data.seq #[] }, toks := s.toks }) :=
  .of_wp fun prog w A R s h => by
    obtain ⟨hp, g, d, tk, os⟩ := s
    obtain ⟨hl, h⟩ := h
    have f1 := AutoSeq1.idx_int
    wp_walk using AutoSeq1.wpAny_loadPart' hl
    exact ⟨_, rfl, h⟩
theorem tmul1 (l : Addr) (items : Array Value) (n : Nat) (dd : Option Addr) (sl : Array (Option Value)) (u : Tok) :
    Meets (Builtin.«tuple.__mul__» ⟨[.ref l, .int 1 u], []⟩) (fun _ R s => s.heap.get? l = some { cls := .type "tuple", dict := dd, data := .seq items n, slots := sl } ∧ R (.ok (.ret (Value.ref l))) s) :=
  .of_wp fun prog w A R s h => by
    obtain ⟨hp, g, d, tk, os⟩ := s
    obtain ⟨hl, h⟩ := h
    have f1 := AutoSeq1.idx_int
    wp_walk using AutoSeq1.wpAny_loadPart' hl
    exact ⟨_, rfl, h⟩
theorem same_new {H : Hp} {p : Addr} {o : HO} (h : H p = none) : Same H (upd H p o) := fun b x e => by
  rw [upd_ne (ne_of_none e h)]
  exact e
def rRepU : R2 := fun x y H Q => ∃ l k v, x = .ref l ∧ y = .int k ∧ H l = some (.tup [v]) ∧ 0 ≤ k ∧ k ≤ 1000 ∧ ∀ p H', Same H H' → H' p = some (.tup (List.replicate k.toNat v)) → Q (.ref p) H'
theorem op_repU {X : Cx} : OpR X (binaryOp .Mult) rRepU := by
  intro pins s σ H x y vv uu Q I rx ry h
  obtain ⟨l, k, v, rfl, rfl, hT, h0, h1, q⟩ := id h
  by_cases k2 : 2 ≤ k
  · refine op_repT pins s σ H _ _ vv uu Q I rx ry ⟨l, k, [v], rfl, rfl, .inl (.inl hT), by simp, k2, h1, by simp, fun p np => q p _ (same_new np) ?_⟩
    rw [upd_same]
    congr 2
    generalize k.toNat = m
    induction m with
    | zero => rfl
    | succ m ih => rw [List.replicate_succ, List.flatten_cons, ih, List.replicate_succ]; rfl
  · cases rx
    obtain ⟨t, rfl⟩ := ry
    obtain ⟨its, r, ⟨⟨cls, dd, data, sl⟩, ho, hc, n, hd⟩, hs⟩ := I.tuple (.inl (.inl hT) : SqT X.K H l [v])
    simp only at hc hd
    subst hc hd
    obtain ⟨u, rfl, ru⟩ := Vals.one r
    by_cases k1 : k = 1
    · subst k1
      refine wpAny_binaryOp_repeat_ref (T := "tuple") (U := "int") (by decide) ⟨_, ho, rfl⟩ (fun s' => typeIs_int s' 1 t) noFill_tuple_mul F.fills_int_mul F.slot_int_rmul repeat_tuple F.slot_int_index.lookup
        (call_meets F.slot_int_rmul (typeIs_int s 1 t) F.entry_int_rmul (F.args_int_rmul_2 _ _) (int_rmul_tuple 1 t l [u].toArray n dd sl)
          ⟨ho, rfl, ⟨_, ho, rfl⟩, call_meets F.slot_tuple_mul ⟨_, ho, rfl⟩ F.entry_tuple_mul (F.args_tuple_mul_2 _ _) (tmul1 l [u].toArray n dd sl t) ⟨ho, ?_⟩⟩)
      exact ⟨.ref l, H, I, rfl, q l H (Same.refl H) hT⟩
    · have k0 : k = 0 := by omega
      subst k0
      refine wpAny_binaryOp_repeat_ref (T := "tuple") (U := "int") (by decide) ⟨_, ho, rfl⟩ (fun s' => typeIs_int s' 0 t) noFill_tuple_mul F.fills_int_mul F.slot_int_rmul repeat_tuple F.slot_int_index.lookup
        (call_meets F.slot_int_rmul (typeIs_int s 0 t) F.entry_int_rmul (F.args_int_rmul_2 _ _) (int_rmul_tuple 0 t l [u].toArray n dd sl)
          ⟨ho, rfl, ⟨_, ho, rfl⟩, call_meets F.slot_tuple_mul ⟨_, ho, rfl⟩ F.entry_tuple_mul (F.args_tuple_mul_2 _ _) (tmul0 l u n dd sl t) ⟨ho, ?_⟩⟩)
      refine ⟨.ref s.heap.objs.size, _, I.laid (t' := s.toks) (o := .tup []) (fun b ob z => Heap.get?_push_of_some _ z) (Nat.le_refl _) ?_, rfl, q _ _ (same_new (I.hok.fresh (Nat.le_refl _))) upd_same⟩
      exact ⟨Nat.zero_le _, [], .nil, IsTup.new _ _⟩
/-! ### loops and comprehensions over any iterator -/
def forW (J : It) (g : TG) (tb : TS) (D : Ends) (σ : L2.St) (H : Hp) : Prop := ∃ W : Nat → Nat → L2.St → Hp → Prop, (∃ m, W 0 m σ H) ∧ ∀ i m σ H, W i m σ H →
  (J.stop i H ∧ D.nx σ H) ∨ (J.go i H ∧ ∃ N : L2.St → Hp → Prop, (∀ σ' H', N σ' H' → ∃ m', m' < m ∧ W (i + 1) m' σ' H') ∧ ∀ x H', J.yld i H x H' → g x σ H' fun σ2 H2 => tb { D with nx := N, ct := N, bk := D.nx } σ2 H2)
theorem for_gen {J : It} {n : Nat} {g : TG} {tb : TS} {D : Ends} {σ : L2.St} {H : Hp} (Pv : Nat → L2.St → Hp → Prop) (h0 : Pv 0 σ H) (hgo : ∀ i σ H, i < n → Pv i σ H → J.go i H) (hst : ∀ σ H, Pv n σ H → J.stop n H)
    (hs : ∀ i σ H x H', i < n → Pv i σ H → J.yld i H x H' → g x σ H' fun σ2 H2 => tb { D with nx := Pv (i + 1), ct := Pv (i + 1), bk := D.nx } σ2 H2) (hd : ∀ σ H, Pv n σ H → D.nx σ H) : forW J g tb D σ H := by
  refine ⟨fun i m σ H => m = n - i ∧ i ≤ n ∧ Pv i σ H, ⟨n, by omega, Nat.zero_le _, h0⟩, fun i m σ H w => ?_⟩
  obtain ⟨rfl, hi, p⟩ := w
  by_cases hlt : i < n
  · exact .inr ⟨hgo i σ H hlt p, Pv (i + 1), fun σ' H' z => ⟨n - (i + 1), by omega, rfl, hlt, z⟩, fun x H' y => hs i σ H x H' hlt p y⟩
  · have e : i = n := by omega
    subst e
    exact .inl ⟨hst σ H p, hd σ H p⟩
def lcW (J : It) (g : TG) (tt : TT) (te : TE) (vs : List Nat) (σ : L2.St) (D : Addr) (Qd : Hp → Prop) (H1 : Hp) : Prop := ∃ W : Nat → Nat → Hp → Prop, (∃ m, W 0 m (upd H1 D (.lst []))) ∧ ∀ i m H, W i m H →
  (J.stop i H ∧ Qd H) ∨ (J.go i H ∧ ∃ Nx : Hp → Prop, (∀ H', Nx H' → ∃ m', m' < m ∧ W (i + 1) m' H') ∧ ∀ x H', J.yld i H x H' → g x (wipe σ vs) H' fun σ2 H2 => wipe σ2 vs = wipe σ vs ∧ tt σ2 H2 fun b H3 =>
    if b = true then te σ2 H3 fun y H4 => ∃ acc, H4 D = some (.lst acc) ∧ acc.length < sizeLine ∧ Nx (upd H4 D (.lst (acc ++ [y]))) else Nx H3)
theorem lc_gen {J : It} {n : Nat} {g : TG} {tt : TT} {te : TE} {vs : List Nat} {σ : L2.St} {H1 : Hp} {D : Addr} {Qd : Hp → Prop} (Pv : Nat → Hp → Prop) (h0 : Pv 0 (upd H1 D (.lst []))) (hgo : ∀ i H, i < n → Pv i H → J.go i H) (hst : ∀ H, Pv n H → J.stop n H)
    (hs : ∀ i H x H', i < n → Pv i H → J.yld i H x H' → g x (wipe σ vs) H' fun σ2 H2 => wipe σ2 vs = wipe σ vs ∧ tt σ2 H2 fun b H3 =>
      if b = true then te σ2 H3 fun y H4 => ∃ acc, H4 D = some (.lst acc) ∧ acc.length < sizeLine ∧ Pv (i + 1) (upd H4 D (.lst (acc ++ [y]))) else Pv (i + 1) H3) (hd : ∀ H, Pv n H → Qd H) : lcW J g tt te vs σ D Qd H1 := by
  refine ⟨fun i m H => m = n - i ∧ i ≤ n ∧ Pv i H, ⟨n, by omega, Nat.zero_le _, h0⟩, fun i m H w => ?_⟩
  obtain ⟨rfl, hi, p⟩ := w
  by_cases hlt : i < n
  · exact .inr ⟨hgo i H hlt p, Pv (i + 1), fun H' z => ⟨n - (i + 1), by omega, rfl, hlt, z⟩, fun x H' y => hs i H x H' hlt p y⟩
  · have e : i = n := by omega
    subst e
    exact .inl ⟨hst H p, hd H p⟩
/-! ### a def of the module that may be called by its name -/
structure Cal (P : Program) (w : World) (K : PySem.W.Frag) (mg : Str → Option Value) (base : Heap) (k : Nat) (x : Str) (sp : Sp) : Prop where
  ex : ∃ (f : Addr) (fd : FuncData) (ps : List Str), FnOk P w K mg base CX0 k f fd ps sp ∧ mg x = some (.ref f) ∧ PySem.W.keepIn K (.ref f) = true ∧ Binds K fd ps []
section
variable {X : Cx} {k j : Nat} {x : Str} {sp : Sp} {p pos : Pos} {e : Expr} {es : List Expr} {t : TA}
theorem pe_cl (c : Cal X.prog X.w X.K X.mg X.base k x sp) (hr : Room j X.A) (hk : k ≤ j) (hg : Gl X x) (ha : PA X (e :: es) t)
    (hdb : (x == ("__debug__" : Str)) = false := by decide) (he : starEach (e :: es) X.env = (false, eval e X.env) :: starEach es X.env := by rfl) (hpl : (backTo pos (starEach es X.env)).any (·.1) = false := by rfl) : PE X (.Call (.Name x p) (e :: es) [] pos) (tCall sp [] E0 t) := by
  obtain ⟨f, fd, ps, F, hm, kp, b⟩ := c.ex
  exact pe_call F (hr.mono hk) hg hm kp b .nil pass0 ha hdb he hpl
end
structure CalK (P : Program) (w : World) (K : PySem.W.Frag) (mg : Str → Option Value) (base : Heap) (k : Nat) (x : Str) (n : Nat) (ks : List Str) (gV : List V → List V → List V) (sp : Sp) : Prop where
  ex : ∃ (f : Addr) (fd : FuncData) (ps : List Str) (g : List Value → List Value → List Value), FnOk P w K mg base CX0 k f fd ps sp ∧ mg x = some (.ref f) ∧ PySem.W.keepIn K (.ref f) = true ∧ KBn K fd ps n ks g gV
section
variable {X : Cx} {k j n : Nat} {x : Str} {sp : Sp} {ks : List Str} {gV : List V → List V → List V} {p pos : Pos} {e : Expr} {es : List Expr} {kws : List Keyword} {t tk : TA}
theorem pe_clK (c : CalK X.prog X.w X.K X.mg X.base k x n ks gV sp) (hr : Room j X.A) (hk : k ≤ j) (hg : Gl X x) (ha : PA X (e :: es) t) (hkw : PK X kws tk)
    (hall : (backToKw pos (keywordEach kws X.env)).all (·.1.isSome) = true := by rfl) (hks : (backToKw pos (keywordEach kws X.env)).filterMap (·.1) = ks := by rfl) (hdb : (x == ("__debug__" : Str)) = false := by decide)
    (he : starEach (e :: es) X.env = (false, eval e X.env) :: starEach es X.env := by rfl) (hpl : ((backTo pos (starEach (e :: es) X.env)).any (·.1) || (backToKw pos (keywordEach kws X.env)).any (·.1.isNone)) = false := by rfl) :
    PE X (.Call (.Name x p) (e :: es) kws pos) (tCallN n ks.length sp gV E0 t tk) := by
  obtain ⟨f, fd, ps, g, F, hm, kp, b⟩ := c.ex
  exact pe_callN F (hr.mono hk) hg hm kp b pass0 ha hkw hall hks hdb he hpl
end
/-! ### heaps -/
/-- all but p stands -/
def SB (p : Addr) (H H' : Hp) : Prop := ∀ b o, b ≠ p → H b = some o → H' b = some o
theorem Same.sb {p : Addr} {H H' : Hp} (s : Same H H') : SB p H H' := fun b o _ h => s b o h
theorem SB.trans {p : Addr} {H H1 H2 : Hp} (a : SB p H H1) (b : SB p H1 H2) : SB p H H2 := fun c o n h => b c o n (a c o n h)
theorem SB.upd {p : Addr} {H H' : Hp} {o : HO} (s : SB p H H') : SB p H (upd H' p o) := fun b u n h => by
  rw [upd_ne n]
  exact s b u n h
theorem SB.same {p : Addr} {H H' : Hp} (s : SB p H H') (n : H p = none) : Same H H' := fun b o h => s b o (ne_of_none h n) h
theorem Same.mut {p : Addr} {H H' : Hp} {o : HO} (s : Same H H') (n : H p = none) : Same H (L2.upd H' p o) := fun b u h => by
  rw [upd_ne (ne_of_none h n)]
  exact s b u h
theorem SB.sq {K : PySem.W.Frag} {p a : Addr} {H H' : Hp} {xs : List V} (s : SB p H H') (n : a ≠ p) (h : SqL K H a xs) : SqL K H' a xs := by
  rcases h with (h | ⟨o, h⟩) | h
  · exact .inl (.inl (s _ _ n h))
  · exact .inl (.inr ⟨o, s _ _ n h⟩)
  · exact .inr h
theorem Same.sqT {K : PySem.W.Frag} {a : Addr} {H H' : Hp} {xs : List V} (s : Same H H') (h : SqT K H a xs) : SqT K H' a xs := by
  rcases h with (h | ⟨o, h⟩) | h
  · exact .inl (.inl (s _ _ h))
  · exact .inl (.inr ⟨o, s _ _ h⟩)
  · exact .inr h
theorem Same.sqK {b : Bool} {K : PySem.W.Frag} {a : Addr} {H H' : Hp} {xs : List V} (s : Same H H') (h : SqK b K H a xs) : SqK b K H' a xs := by
  cases b
  · exact Z.Same.sqT s h
  · exact s.seq h
theorem at_map {α : Type} {f : α → V} {xs : List α} {i : Nat} {x : α} (h : xs[i]? = some x) : atI (xs.map f) (i : Int) = some (f x) := atI_nat (by rw [List.getElem?_map, h]; rfl)
theorem of_map {α : Type} {f : α → V} {xs : List α} {i : Nat} {v : V} (h : (xs.map f)[i]? = some v) : ∃ x, xs[i]? = some x ∧ v = f x := by
  rw [List.getElem?_map] at h
  cases e : xs[i]? with
  | none => rw [e] at h; cases h
  | some x => rw [e] at h; exact ⟨x, rfl, (Option.some.inj h).symm⟩
end Z
set_option Elab.async false
set_option linter.all false
set_option maxRecDepth 100000
set_option maxHeartbeats 4000000
namespace Z
open PySem PySem.Spec PyProof.Rows L2
open C8 (pss_cut tCut)
local macro_rules | `(tactic| walk_at "num") => `(tactic| first | omega | decide | exact ⟨by omega, by omega⟩ | exact ⟨by omega, by omega, by omega⟩ | exact ⟨by decide, by decide, by decide⟩ | exact Or.inl ⟨by omega, by omega⟩ | exact Or.inr ⟨by omega, by omega⟩)
local macro_rules | `(tactic| walk_at "go") => `(tactic| repeat (first | refine ⟨_, rfl, ?_⟩ | refine ⟨_, _, rfl, rfl, ?_⟩ | refine ⟨_, _, rfl, rfl, (by walk_at "num"), ?_⟩ | refine Or.inl ⟨_, rfl, ?_⟩ | refine ⟨rfl, ?_⟩ | refine And.intro (by walk_at "num") ?_))
def topS (i : Nat) : Stmt := PySem.Challenge.pw_signedpacts_k92_whole_dispute_replies.main.body.getD i (.Pass ⟨0, 0, 0, 0⟩)
abbrev s_cell : Stmt := topS 11
abbrev N_cell : List Str := ["_law_script", "_law_k"]
abbrev P_cell : List Str := ["_law_script", "_law_k"]
theorem sc_cell : FnScope N_cell P_cell (defScope s_cell) := ⟨rfl, rfl, rfl, by decide +kernel, rfl, by decide +kernel, by decide +kernel⟩
abbrev s_draws : Stmt := topS 12
abbrev N_draws : List Str := ["_law_cell_here", "_law_many", "_law_rest", "_law_large", "_law_seed", "_law_found", "_law_k"]
abbrev P_draws : List Str := ["_law_cell_here", "_law_many"]
theorem sc_draws : FnScope N_draws P_draws (defScope s_draws) := ⟨rfl, rfl, rfl, by decide +kernel, rfl, by decide +kernel, by decide +kernel⟩
abbrev FnP (K : PySem.W.Frag) (x : Str) (st : Stmt) (f : Addr) (fd : FuncData) : Prop := FunD K x x (defArgs st) (defBody st) (defScope st) [] [] f fd
section
variable {P : Program} {w : World} {K : PySem.W.Frag} {mg : Str → Option Value} {base : Heap} {f : Addr} {fd : FuncData}
theorem cal_of {k : Nat} {x : Str} {st : Stmt} {ps : List Str} {sp : Sp} (F : FnP K x st f fd) (g : mg x = some (.ref f)) (b : Binds K fd ps []) (h : FnOk P w K mg base CX0 k f fd ps sp) : Cal P w K mg base k x sp := ⟨f, fd, ps, h, g, F.kp, b⟩
/-! ### _law_cell -/
def spCell (K : PySem.W.Frag) : Sp := fun vs H Q _ => ∃ (a : Addr) (ns : List Int) (k : Nat), vs = [.ref a, .int (k : Int)] ∧ SqL K H a (ns.map V.int) ∧ Q (.int (ns.getD k 0)) H
theorem ok_cell (F : FnP K "_law_cell" s_cell f fd) (m_len : mg "len" = none) (m_int : mg "int" = none) : FnOk P w K mg base CX0 1 f fd P_cell (spCell K) := by
  refine F.ok sc_cell (fun vs H Q E h => ?_) (fun cdv A outer s H vs Q E hr h => ?_)
  · obtain ⟨a, ns, k, rfl, _⟩ := h
    rfl
  · obtain ⟨a, ns, k, rfl, hS, q⟩ := h
    refine ⟨_, PSs.nox (pss_cons (ps_if (pt_cmpR op_lt (pv 1) (pe_callB call_len_seq (by rfl) m_len PySem.boot_len (pa_cons (pv 0) pa_nil)) (nomark _)) (pss_one (ps_ret (pe_callTy call_int1 (by rfl) m_int (by decide +kernel) (pa_cons (pe_ix ix_list (pv 0) (pv 1) (fun _ _ => rfl)) pa_nil)))) pss_nil)
      (pss_one (ps_ret pe_int))), ?_⟩
    walk_at "go"
    refine ⟨a, _, rfl, .inl hS, ?_⟩
    walk_at "go"
    rw [List.length_map]
    refine ite2 (fun e => ?_) (fun e => ?_)
    · have hk : k < ns.length := by have := of_decide_eq_true e; omega
      walk_at "go"
      refine ⟨a, _, _, _, rfl, rfl, hS, at_map (List.getElem?_eq_getElem hk), ?_⟩
      walk_at "go"
      rw [List.getD_eq_getElem?_getD, List.getElem?_eq_getElem hk] at q
      exact q
    · have hk : ¬ k < ns.length := fun z => e (decide_eq_true (by omega))
      rw [List.getD_eq_getElem?_getD, List.getElem?_eq_none (by omega)] at q
      exact q
/-! ### _law_draws -/
def Dr (n : Nat) (ds : List Int) : Prop := ds.length = n ∧ ∀ d ∈ ds, 0 ≤ d ∧ d < 1000000
def spDraws : Sp := fun vs H Q _ => ∃ (c : Int) (n : Nat), vs = [.int c, .int (n : Int)] ∧ n ≤ 100000 ∧ ∀ p ds, H p = none → Dr n ds → Q (.ref p) (upd H p (.lst (ds.map V.int)))
theorem ok_draws (F : FnP K "_law_draws" s_draws f fd) (m_int : mg "int" = none) (m_abs : mg "abs" = none) (m_range : mg "range" = none) : FnOk P w K mg base CX0 1 f fd P_draws spDraws := by
  refine F.ok sc_draws (fun vs H Q E h => ?_) (fun cdv A outer s H vs Q E hr h => ?_)
  · obtain ⟨c, n, rfl, _⟩ := h
    rfl
  · obtain ⟨c, n, rfl, hn, q⟩ := h
    refine ⟨_, PSs.nox (pss_cons (ps_set (i := 2) sc_draws.nd rfl (by first | exact .inl rfl | exact .inr rfl) (pe_callB call_abs (by rfl) m_abs (by decide +kernel) (pa_cons (pe_callTy call_int1 (by rfl) m_int (by decide +kernel) (pa_cons (pv 0) pa_nil)) pa_nil)))
      (pss_cons (ps_set (i := 3) sc_draws.nd rfl (by first | exact .inl rfl | exact .inr rfl) (pe_cmpR op_ge (pv 2) (pe_op op_pow pe_int pe_int) (nomark _)))
      (pss_cons (ps_set (i := 4) sc_draws.nd rfl (by first | exact .inl rfl | exact .inr rfl) (pe_op op_mod (pe_callTy call_int1 (by rfl) m_int (by decide +kernel) (pa_cons (pv 2) pa_nil)) pe_int))
      (pss_cons (ps_set (i := 5) sc_draws.nd rfl (by first | exact .inl rfl | exact .inr rfl) (pe_lst pa_nil))
      (pss_cons (ps_for PassesOwn.never rfl (pi_range1 (by rfl) m_range (pa_cons (pv 1) pa_nil)) (pg_name (i := 6) sc_draws.nd rfl (by first | exact .inl rfl | exact .inr rfl))
        (pss_cons (ps_set (i := 4) sc_draws.nd rfl (by first | exact .inl rfl | exact .inr rfl) (pe_op op_mod (pe_callTy call_int1 (by rfl) m_int (by decide +kernel) (pa_cons (pe_op op_add (pe_op op_add (pe_op op_mul (pv 4) pe_int) (pe_op op_mul pe_int (pv 6))) pe_int) pa_nil)) pe_int))
      (pss_one (ps_if (PW.pt (pw_and (pt_val (pv 3)) (pw_and1 (pt_cmpR op_gt (pv 2) pe_int (nomark _))))) (pss_cons (ps_expr (pe_bm PySem.F.plainAttrs_list PySem.F.slot_list_append PySem.F.type_list_append mt_append (pv 5) (pa_cons (pe_op op_mod (pe_callTy call_int1 (by rfl) m_int (by decide +kernel) (pa_cons (pv 2) pa_nil)) pe_int) pa_nil)))
      (pss_one (ps_set (i := 2) sc_draws.nd rfl (by first | exact .inl rfl | exact .inr rfl) (pe_op op_fdiv (pv 2) pe_int)))) (pss_one (ps_expr (pe_bm PySem.F.plainAttrs_list PySem.F.slot_list_append PySem.F.type_list_append mt_append (pv 5) (pa_cons (pe_op op_mod (pe_callTy call_int1 (by rfl) m_int (by decide +kernel) (pa_cons (pe_op op_fdiv (pe_op op_mod (pe_callTy call_int1 (by rfl) m_int (by decide +kernel) (pa_cons (pe_op op_add (pe_op op_mul (pv 4) pe_int) (pe_op op_mul pe_int (pv 6))) pa_nil)) pe_int) pe_int) pa_nil)) pe_int) pa_nil))))))))
      (pss_one (ps_ret (pv 5)))))))), ?_⟩
    walk_at "go"
    intro p np
    walk_at "go"
    refine for_gen (n := n) (fun i σ H1 => ∃ (r : Int) (z : Int) (ds : List Int) (v : Option V), 0 ≤ r ∧ 0 ≤ z ∧ z < 2147483647 ∧ Dr i ds ∧ H1 = upd H p (.lst (ds.map V.int)) ∧
      σ = [some (.int c), some (.int (n : Int)), some (.int r), some (.bl (decide ((10 : Int) ^ 18 ≤ (if c < 0 then -c else c)))), some (.int z), some (.ref p), v]) ?_ ?_ ?_ ?_ ?_
    · refine ⟨_, _, [], none, ?_, ?_, ?_, ⟨rfl, fun d hd => nomatch hd⟩, rfl, rfl⟩
      · split <;> omega
      · omega
      · omega
    · intro i σ H1 hi _
      show i < (n : Int).toNat
      omega
    · intro σ H1 _
      show (n : Int).toNat ≤ n
      omega
    · rintro i σ H1 x H' hi ⟨r, z, ds, v, hr0, hz0, hz1, hd, rfl, rfl⟩ ⟨rfl, rfl⟩
      have hlen : (ds.map V.int).length < sizeLine := by
        rw [List.length_map, hd.1]
        exact Nat.lt_of_lt_of_le hi (Nat.le_trans hn (by decide))
      have fin : ∀ (r' z' d : Int) (u : Option V), 0 ≤ r' → 0 ≤ z' → z' < 2147483647 → 0 ≤ d → d < 1000000 → ∃ (r : Int) (z : Int) (es : List Int) (v : Option V), 0 ≤ r ∧ 0 ≤ z ∧ z < 2147483647 ∧ Dr (i + 1) es ∧ upd (upd H p (.lst (ds.map V.int))) p (.lst (ds.map V.int ++ [.int d])) = upd H p (.lst (es.map V.int)) ∧
          [some (.int c), some (.int (n : Int)), some (.int r'), some (.bl (decide ((10 : Int) ^ 18 ≤ (if c < 0 then -c else c)))), some (.int z'), some (.ref p), u] = [some (.int c), some (.int (n : Int)), some (.int r), some (.bl (decide ((10 : Int) ^ 18 ≤ (if c < 0 then -c else c)))), some (.int z), some (.ref p), v] := by
        intro r' z' d u a1 a2 a3 a4 a5
        refine ⟨r', z', ds ++ [d], u, a1, a2, a3, ⟨by rw [List.length_append, hd.1]; rfl, fun x hx => ?_⟩, ?_, rfl⟩
        · rcases List.mem_append.mp hx with h | h
          · exact hd.2 x h
          · rw [List.mem_singleton.mp h]
            exact ⟨a4, a5⟩
        · rw [upd_upd, List.map_append]
          rfl
      walk_at "go"
      refine ite2 (fun e => ?_) (fun e => ?_)
      · walk_at "go"
        refine ite2 (fun e2 => ?_) (fun e2 => ?_)
        · walk_at "go"
          refine ⟨.inl ⟨rfl, _, .inl (.inl upd_same)⟩, ?_⟩
          walk_at "go"
          refine ⟨_, _, _, rfl, rfl, upd_same, hlen, ?_⟩
          walk_at "go"
          exact fin _ _ _ _ (by omega) (by omega) (by omega) (by omega) (by omega)
        · walk_at "go"
          refine ⟨.inl ⟨rfl, _, .inl (.inl upd_same)⟩, ?_⟩
          walk_at "go"
          refine ⟨_, _, _, rfl, rfl, upd_same, hlen, ?_⟩
          walk_at "go"
          exact fin _ _ _ _ (by omega) (by omega) (by omega) (by omega) (by omega)
      · walk_at "go"
        refine ⟨.inl ⟨rfl, _, .inl (.inl upd_same)⟩, ?_⟩
        walk_at "go"
        refine ⟨_, _, _, rfl, rfl, upd_same, hlen, ?_⟩
        walk_at "go"
        exact fin _ _ _ _ (by omega) (by omega) (by omega) (by omega) (by omega)
    · rintro σ H1 ⟨r, z, ds, v, hr0, hz0, hz1, hd, rfl, rfl⟩
      walk_at "go"
      exact q p ds np hd
/-! ### _law_take -/
end
end Z
set_option Elab.async false
set_option linter.all false
set_option maxRecDepth 100000
set_option maxHeartbeats 4000000
namespace Z
open PySem PySem.Spec PyProof.Rows L2
/-! ### data -/
def sqD (b : Bool) (ds : List PyData) : PyData := match b with
  | true => .list ds
  | false => .tuple ds
def intsD (b : Bool) (ns : List Int) : PyData := sqD b (ns.map PyData.int)
def matD (b : Bool) (rs : List (List Int)) : PyData := sqD b (rs.map (intsD b))
theorem dp_sq {b : Bool} {K : PySem.W.Frag} {H : Hp} {a : Addr} {xs : List V} {ds : List PyData} (h : SqK b K H a xs) (d : DpAll K H xs ds) : Dp K H (.ref a) (sqD b ds) := by
  cases b
  · exact .tup h d
  · exact .lst h d
theorem dpa_ints {K : PySem.W.Frag} {H : Hp} : ∀ ns : List Int, DpAll K H (ns.map V.int) (ns.map PyData.int)
  | [] => .nil
  | n :: r => .cons (.int n) (dpa_ints r)
theorem dp_ints {b : Bool} {K : PySem.W.Frag} {H : Hp} {a : Addr} {ns : List Int} (h : SqK b K H a (ns.map V.int)) : Dp K H (.ref a) (intsD b ns) := dp_sq h (dpa_ints ns)
/-- a matrix: a list (or tuple) of lists (or tuples) of ints, at ps -/
def Mat (b : Bool) (K : PySem.W.Frag) (H : Hp) (a : Addr) (ps : List Addr) (rs : List (List Int)) : Prop := SqK b K H a (ps.map V.ref) ∧ ps.length = rs.length ∧ ∀ (i : Nat) (p : Addr) (r : List Int), ps[i]? = some p → rs[i]? = some r → SqK b K H p (r.map V.int)
theorem Mat.mono {b : Bool} {K : PySem.W.Frag} {H H' : Hp} {a : Addr} {ps : List Addr} {rs : List (List Int)} (s : Same H H') (m : Mat b K H a ps rs) : Mat b K H' a ps rs := ⟨Z.Same.sqK s m.1, m.2.1, fun i p r h1 h2 => Z.Same.sqK s (m.2.2 i p r h1 h2)⟩
theorem dpa_mat {b : Bool} {K : PySem.W.Frag} {H : Hp} : ∀ (ps : List Addr) (rs : List (List Int)), ps.length = rs.length → (∀ (i : Nat) (p : Addr) (r : List Int), ps[i]? = some p → rs[i]? = some r → SqK b K H p (r.map V.int)) → DpAll K H (ps.map V.ref) (rs.map (intsD b))
  | [], [], _, _ => .nil
  | p :: ps, r :: rs, hl, h => .cons (dp_ints (h 0 p r rfl rfl)) (dpa_mat ps rs (by simpa using hl) fun i q s h1 h2 => h (i + 1) q s h1 h2)
theorem Mat.dp {b : Bool} {K : PySem.W.Frag} {H : Hp} {a : Addr} {ps : List Addr} {rs : List (List Int)} (m : Mat b K H a ps rs) : Dp K H (.ref a) (matD b rs) := dp_sq m.1 (dpa_mat ps rs m.2.1 m.2.2)
theorem lay_ints : ∀ ns : List Int, PyData.canLayAll0 (ns.map PyData.int) = true
  | [] => rfl
  | n :: r => by
    rw [List.map_cons, PyData.canLayAll0, lay_ints r]
    rfl
theorem dep_ints : ∀ ns : List Int, PyData.depthAll (ns.map PyData.int) = 0
  | [] => rfl
  | n :: r => by
    rw [List.map_cons, PyData.depthAll, dep_ints r]
    rfl
theorem shaped_ints (b : Bool) (ns : List Int) : SeqAt.shaped (intsD b ns) = true := by
  unfold SeqAt.shaped intsD
  cases b
  · show (PyData.canLayAll0 (ns.map PyData.int) && decide (PyData.depthAll (ns.map PyData.int) + 1 ≤ 64)) = true
    rw [lay_ints, dep_ints]
    rfl
  · show (PyData.canLayAll0 (ns.map PyData.int) && decide (PyData.depthAll (ns.map PyData.int) + 1 ≤ 64)) = true
    rw [lay_ints, dep_ints]
    rfl
theorem lay_mat (b : Bool) : ∀ rs : List (List Int), PyData.canLayAll0 (rs.map (intsD b)) = true
  | [] => rfl
  | n :: r => by
    rw [List.map_cons, PyData.canLayAll0, lay_mat b r, SeqAt.canLay_of_shaped (shaped_ints b n)]
    rfl
theorem dep_mat (b : Bool) : ∀ rs : List (List Int), PyData.depthAll (rs.map (intsD b)) ≤ 1
  | [] => Nat.zero_le _
  | n :: r => by
    rw [List.map_cons, PyData.depthAll]
    have h := dep_mat b r
    have h2 : (intsD b n).depth = 1 := by
      cases b
      · show PyData.depthAll (n.map PyData.int) + 1 = 1
        rw [dep_ints]
      · show PyData.depthAll (n.map PyData.int) + 1 = 1
        rw [dep_ints]
    omega
theorem shaped_mat (b : Bool) (rs : List (List Int)) : SeqAt.shaped (matD b rs) = true := by
  have h := dep_mat b rs
  unfold SeqAt.shaped matD
  cases b
  · show (PyData.canLayAll0 (rs.map (intsD false)) && decide (PyData.depthAll (rs.map (intsD false)) + 1 ≤ 64)) = true
    rw [lay_mat, decide_eq_true (by omega)]
    rfl
  · show (PyData.canLayAll0 (rs.map (intsD true)) && decide (PyData.depthAll (rs.map (intsD true)) + 1 ≤ 64)) = true
    rw [lay_mat, decide_eq_true (by omega)]
    rfl
theorem same2 {K : PySem.W.Frag} {H : Hp} {x y : V} {d : PyData} {R : PyData → PyData → Prop} (hx : Dp K H x d) (hy : Dp K H y d) (hs : SeqAt.shaped d = true) (q : R d d) : ∃ d' e', Dp K H x d' ∧ Dp K H y e' ∧ SeqAt.shaped d' = true ∧ SeqAt.shaped e' = true ∧ R d' e' := ⟨d, d, hx, hy, hs, hs, q⟩
theorem eqv_same {d : PyData} (hs : SeqAt.shaped d = true) : PyData.eqv d d = true := SeqAt.eqv_refl d (SeqAt.canLay_of_shaped hs)
/-! ### a target that is one of two kinds -/
def gOr (t u : TG) : TG := fun v σ H Q => t v σ H Q ∨ u v σ H Q
theorem pg_or {X : Cx} {e : Expr} {t u : TG} (h1 : PG X e t) (h2 : PG X e u) : PG X e (gOr t u) := by
  refine ⟨fun pins s σ H v uu Q I r hw => ?_⟩
  rcases hw with h | h
  · exact h1.run pins s σ H v uu Q I r h
  · exact h2.run pins s σ H v uu Q I r h
/-! ### isinstance of built-in kinds -/
theorem isi {K : PySem.W.Frag} {H : Hp} {x : V} {T c : String} {b : Bool} {R : Bool → Prop} (t : TyOf K H x (.type T)) (h : kitB T c = some b) (q : R b) : ∃ (x' c' : V) (t' u' : Value) (b' : Bool), [x, .ty c] = [x', c'] ∧ ClsV c' u' ∧ TyX K H x' t' ∧ PySem.W.kitOne K t' u' = some b' ∧ R b' :=
  ⟨x, .ty c, .type T, .type c, b, rfl, .ty c, .base t, kit_ty h, q⟩
/-! ### rules by the written part itself (within a comprehension's block) -/
section
variable {X : Cx} {K : PySem.W.Frag}
theorem ix_list_K (h : X.K = K) : IxR X (rIxL K) := by subst h; exact ix_list
theorem ix_tup_K (h : X.K = K) : IxR X (rIxT K) := by subst h; exact ix_tup
theorem ix_seq_K (h : X.K = K) : IxR X (rIx K) := by subst h; exact ix_seq
theorem call_len_seq_K (h : X.K = K) : CallR X (.builtin "len") (fun xs H Q => ∃ p ys, xs = [.ref p] ∧ (SqL K H p ys ∨ SqT K H p ys) ∧ Q (.int ys.length) H) := by subst h; exact call_len_seq
theorem call_list_of_K (h : X.K = K) : CallR X (.type "list") (fun xs H Q => ∃ p ys, xs = [.ref p] ∧ (SqL K H p ys ∨ SqT K H p ys) ∧ ∀ l, H l = none → Q (.ref l) (upd H l (.lst ys))) := by subst h; exact call_list_of
theorem call_tuple_of_K (h : X.K = K) : CallR X (.type "tuple") (fun xs H Q => ∃ p ys, xs = [.ref p] ∧ ((SqL K H p ys ∧ ∀ l, H l = none → Q (.ref l) (upd H l (.tup ys))) ∨ (SqT K H p ys ∧ Q (.ref p) H))) := by subst h; exact call_tuple_of
theorem op_in_seq_K (h : X.K = K) : OpR X (compareOp .In) (rIn K false) := by subst h; exact op_in_seq
theorem op_notIn_seq_K (h : X.K = K) : OpR X (compareOp .NotIn) (rIn K true) := by subst h; exact op_notIn_seq
theorem op_eqD_K (h : X.K = K) (hu : X.A.units + 64 < cLine) : OpR X (compareOp .Eq) (rEqD K) := by subst h; exact op_eqD hu
theorem op_neD_K (h : X.K = K) (hu : X.A.units + 64 < cLine) : OpR X (compareOp .NotEq) (rNeD K) := by subst h; exact op_neD hu
theorem call_isi_K (h : X.K = K) : CallR X (.builtin "isinstance") (rIsi K) := by subst h; exact call_isi
end
/-! ### great products -/
theorem big_mul {i j : Int} (hi : i.natAbs < 2 ^ 4000) (hj : j.natAbs < 2 ^ 4000) : CMulX i j := mulx_ok hi hj (by decide)
/-! ### sums of multiples of rows -/
def combN (rs : List (List Int)) (fs : List Int) (w : Nat) : Nat → List Int
  | 0 => List.replicate w 0
  | n + 1 => List.zipWith (fun a b => a + fs.getD n 0 * b) (combN rs fs w n) (rs.getD n [])
theorem combN_len {rs : List (List Int)} {fs : List Int} {w : Nat} (h : ∀ r ∈ rs, r.length = w) : ∀ n, n ≤ rs.length → (combN rs fs w n).length = w
  | 0, _ => List.length_replicate
  | n + 1, hn => by
    rw [combN, List.length_zipWith, combN_len h n (by omega), List.getD_eq_getElem?_getD, List.getElem?_eq_getElem (by omega), Option.getD_some, h _ (List.getElem_mem _)]
    omega
theorem combN_at {rs : List (List Int)} {fs : List Int} {w i c : Nat} (hi : i < rs.length) (hf : i < fs.length) (c1 : c < (combN rs fs w i).length) (c2 : c < rs[i].length) : (combN rs fs w (i + 1))[c]? = some ((combN rs fs w i)[c] + fs[i] * rs[i][c]) := by
  have g1 : fs.getD i 0 = fs[i] := by rw [List.getD_eq_getElem?_getD, List.getElem?_eq_getElem hf]; rfl
  have g2 : rs.getD i [] = rs[i] := by rw [List.getD_eq_getElem?_getD, List.getElem?_eq_getElem hi]; rfl
  rw [combN, List.getElem?_zipWith, g1, g2, List.getElem?_eq_getElem c1, List.getElem?_eq_getElem c2]
end Z
set_option Elab.async false
set_option linter.all false
set_option maxRecDepth 100000
set_option maxHeartbeats 4000000
namespace Z
open PySem PySem.Spec PyProof.Rows L2
/-! ### own classes: making, methods, calls of instances, == -/
structure Mak (P : Program) (w : World) (K : PySem.W.Frag) (mg : Str → Option Value) (base : Heap) (k : Nat) (x : Str) (sp : Sp) : Prop where
  ex : ∃ (C f : Addr) (fd : FuncData) (ps : List Str) (si : Sp), Mk K C f ∧ FnOk P w K mg base CX0 k f fd ps si ∧ mg x = some (.ref C) ∧ Binds K fd ps [] ∧
    ∀ vs H Q E, sp vs H Q E → ∀ n dx, H n = none → H dx = none → dx ≠ n → si (.ref n :: vs) (upd (upd H dx (.own n)) n (.ins C dx [])) (fun v H2 => v = .non ∧ Q (.ref n) H2) E
structure Met (P : Program) (w : World) (K : PySem.W.Frag) (mg : Str → Option Value) (base : Heap) (k : Nat) (C : Addr) (m : Str) (sp : Sp) : Prop where
  ex : ∃ (f : Addr) (fd : FuncData) (ps : List Str), Cls K C ∧ Meth K C m f ∧ FnOk P w K mg base CX0 k f fd ps sp ∧ Binds K fd ps []
section
variable {X : Cx} {k j : Nat} {x m : Str} {sp : Sp} {C : Addr} {p pos apos : Pos} {e o : Expr} {es : List Expr} {t : TA} {ta : TE}
theorem pe_mk (c : Mak X.prog X.w X.K X.mg X.base k x sp) (hr : Room j X.A) (hk : k + 1 ≤ j) (hg : Gl X x) (ha : PA X (e :: es) t)
    (hdb : (x == ("__debug__" : Str)) = false := by decide) (he : starEach (e :: es) X.env = (false, eval e X.env) :: starEach es X.env := by rfl) (hpl : (backTo pos (starEach es X.env)).any (·.1) = false := by rfl) : PE X (.Call (.Name x p) (e :: es) [] pos) (tCall sp [] E0 t) := by
  obtain ⟨C, f, fd, ps, si, M, F, hm, b, imp⟩ := c.ex
  constructor
  intro pins s σ H Q I h
  refine wpAny_Call_Name_kw (ld_glob I hg hm ?_ hdb)
  refine PySem.W.callWith_K (h₀ := X.base) I.ok.mod.kin M.kp (thn (ha.run pos pins s σ H _ I h) fun us s1 ⟨vs, H1, I1, r, q⟩ => ⟨I1.kIn, ?_⟩) he hpl
  have q2 : sp vs H1 Q E0 := by
    have z : sp (vs ++ []) H1 Q E0 := q
    rw [List.append_nil] at z
    exact z
  refine run_make (dvs := []) M F (hr.mono hk) b .nil pass0 I1 r (fun n dx n1 n2 n3 => ?_)
  rw [List.append_nil]
  exact imp _ _ _ _ q2 n dx n1 n2 n3
theorem pe_me {pl : Sem Bool} (c : Met X.prog X.w X.K X.mg X.base k C m sp) (he : PE X o ta) (hr : Room j X.A) (hk : k ≤ j) (ha : PA X (e :: es) t)
    (hst : starEach (e :: es) X.env = (false, eval e X.env) :: starEach es X.env := by rfl) (hpl : (backTo pos (starEach es X.env)).any (·.1) = false := by rfl)
    (ht : eval (.Call (.Attribute o m apos) (e :: es) [] pos) X.env = (do
      let ov ← eval o X.env
      standAt apos.atName
      let (f, first) ← holding [ov] (getMethod ov m pl)
      callWith pos f first (backTo pos (starEach (e :: es) X.env)) (backToKw pos (keywordEach [] X.env))) := by rfl) : PE X (.Call (.Attribute o m apos) (e :: es) [] pos) (tMeth C m sp [] E0 ta t) := by
  obtain ⟨f, fd, ps, cl, me, F, b⟩ := c.ex
  exact pe_meth he cl me F (hr.mono hk) b .nil pass0 ha hst hpl ht
theorem pe_me0 {pl : Sem Bool} (c : Met X.prog X.w X.K X.mg X.base k C m sp) (he : PE X o ta) (hr : Room j X.A) (hk : k ≤ j)
    (ht : eval (.Call (.Attribute o m apos) [] [] pos) X.env = (do
      let ov ← eval o X.env
      standAt apos.atName
      let (f, first) ← holding [ov] (getMethod ov m pl)
      callWith pos f first (backTo pos (starEach [] X.env)) (backToKw pos (keywordEach [] X.env))) := by rfl) : PE X (.Call (.Attribute o m apos) [] [] pos) (tMeth C m sp [] E0 ta tNil) := by
  obtain ⟨f, fd, ps, cl, me, F, b⟩ := c.ex
  exact pe_meth0 he cl me F (hr.mono hk) b .nil pass0 ht
end
/-! ### f(e, ..), f an instance of C -/
structure Cob (P : Program) (w : World) (K : PySem.W.Frag) (mg : Str → Option Value) (base : Heap) (k : Nat) (C : Addr) (sp : Sp) : Prop where
  ex : ∃ g : Addr, StX.CallO K C g ∧ FnR P w K mg base CX0 k g sp
def tCo (C : Addr) (sp : Sp) (tf : TE) (t : TA) : TE := fun σ H Q => tf σ H fun y H1 => ∃ a, y = V.ref a ∧ t σ H1 fun vs H2 => (∃ dx fs, H2 a = some (.ins C dx fs)) ∧ sp (V.ref a :: vs) H2 Q E0
section
variable {X : Cx} {k j : Nat} {sp : Sp} {C : Addr} {pos : Pos} {e fe : Expr} {es : List Expr} {t : TA} {tf : TE}
theorem pe_co (c : Cob X.prog X.w X.K X.mg X.base k C sp) (hf : PE X fe tf) (hr : Room j X.A) (hk : k ≤ j) (ha : PA X (e :: es) t)
    (ht : eval (.Call fe (e :: es) [] pos) X.env = (do callWith pos (← eval fe X.env) [] (backTo pos (starEach (e :: es) X.env)) (backToKw pos (keywordEach [] X.env))) := by rfl)
    (he : starEach (e :: es) X.env = (false, eval e X.env) :: starEach es X.env := by rfl) (hpl : (backTo pos (starEach es X.env)).any (·.1) = false := by rfl) : PE X (.Call fe (e :: es) [] pos) (tCo C sp tf t) := by
  obtain ⟨g, co, F⟩ := c.ex
  constructor
  intro pins s σ H Q I h
  refine Call_ (thn (hf.run pins s σ H _ I h) fun u s1 ⟨y, H1, I1, ry, a, ey, q⟩ => ?_) ht
  subst ey
  obtain rfl : u = Value.ref a := ry
  refine StX.callO_with (thn (ha.run pos pins s1 σ H1 _ I1 q) fun us s2 ⟨vs, H2, I2, r, hi, q2⟩ => ?_) he hpl
  have hi2 : StX.InsC X H2 a C := .inr hi
  obtain ⟨ox, od, J, hd⟩ := StX.insC_at I2 hi2
  exact ⟨⟨C, ox, od, J, hd⟩, StX.run_callO co F (hr.mono hk) pass0 I2 hi2 r q2⟩
end
/-! ### a == b by the class's own __eq__ -/
structure Eqo (P : Program) (w : World) (K : PySem.W.Frag) (mg : Str → Option Value) (base : Heap) (k : Nat) (C : Addr) (sp : Sp) : Prop where
  ex : ∃ (f : Addr) (fd : FuncData) (ps : List Str), FnOk P w K mg base CX0 k f fd ps sp ∧ PySem.W.findIn K (.ref C) "__eq__" = some (some (.ref f)) ∧ PySem.W.isFn K (.ref f) = true ∧ Binds K fd ps []
def rOwn (C : Addr) (sp : Sp) : R2 := fun x y H Q => ∃ a b dx dy fs gs, x = .ref a ∧ y = .ref b ∧ H a = some (.ins C dx fs) ∧ H b = some (.ins C dy gs) ∧ sp [.ref a, .ref b] H (fun v H' => ∃ r, v = .bl r ∧ Q v H') E0
theorem op_own {X : Cx} {k j : Nat} {C : Addr} {sp : Sp} (c : Eqo X.prog X.w X.K X.mg X.base k C sp) (hr : Room j X.A) (hk : k ≤ j) : OpR X (compareOp .Eq) (rOwn C sp) := by
  intro pins s σ H x y v u Q I rx ry hq
  obtain ⟨f, fd, ps, F, hs, hf, hb⟩ := c.ex
  obtain ⟨a, b, dx, dy, fs, gs, rfl, rfl, ha, hb', q⟩ := hq
  cases rx
  cases ry
  obtain ⟨mA, J, _⟩ := ins_get I.hok ha
  obtain ⟨mB, J', _⟩ := ins_get I.hok hb'
  obtain ⟨od, J, _⟩ := J.look
  obtain ⟨od', J', _⟩ := J'.look
  obtain ⟨m, hF⟩ := I.fr
  show wpAny (model X.prog X.w) X.A (richCompare .Eq (Value.ref a) (Value.ref b)) (EP X pins σ Q) X.xe s
  refine PySem.W.cmp_K (op := .Eq) (tb := .ref C) (hr.mono hk).units0 hF I.ok.mod.kin J J'.type (by simp [PySem.W.notFirst]) hs hf ?_
  have r2 : Vals [V.ref a, V.ref b] [Value.ref a, Value.ref b] := .cons rfl (.cons rfl .nil)
  refine thn (run_fn (dvs := []) F (hr.mono hk) hb .nil pass0 I r2 q) fun r s' z => ?_
  obtain ⟨v, H', I', rv, b', rfl, q'⟩ := z
  cases rv
  exact ⟨.bl b', H', I', rfl, q'⟩
end Z
set_option Elab.async false
set_option linter.all false
set_option maxRecDepth 100000
set_option maxHeartbeats 4000000
namespace Z
open PySem PySem.Spec PyProof.Rows L2 NdefX
/-! ### an own exception whose __init__ begins with super().__init__(..) -/
/-- what the written part says of it: the function f of the class C (cell cc, code c) -/
structure SupK (P : Program) (K : PySem.W.Frag) (C f c cc : Addr) (fd : FuncData) : Prop where
  lk : ∃ oc od osl, K.lookup f = some ⟨oc, od, .func fd, osl⟩
  code : ∃ (ccl : Value) (cdd : Option Addr) (vs : Array Value) (ccs : Array (Option Value)) (file : Str) (tf : Tok), K.lookup c = some ⟨ccl, cdd, .fields vs, ccs⟩ ∧ vs[2]? = some (.str file tf) ∧ ((P.main.file : Str) == file) = true
  cell : ∃ cl cld csl, K.lookup cc = some ⟨cl, cld, .cell (some (.ref C)), csl⟩
  top : (P.main.scope.names.lookup ("super" : Str)).isSome = false
  mro : PySem.W.mroIn K C (.ref C) = some true
  opq : PySem.W.nsIn K cStatics "thirdparty.any" = some none
  ini : PySem.W.ks_superIn K C C "__init__" = some (some (.builtin "ValueError.__init__"))
  sub : PySem.W.subIn K (.ref C) (.type "ValueError") = some true
  exi : PySem.W.excInitIn K C He.veBase "ValueError.__new__" = true
  oex : OexC K C
section
variable {CX : CXT} {P : Program} {w : World} {K : PySem.W.Frag} {mg : Str → Option Value} {base : Heap} {N ps : List Str} {F : NF} {f C a cc : Addr} {A : Around} {outer : List Env} {s0 s : Shared} {H0 H : Hp} {E : XK} {σ : L2.St}
/-- the bound __init__ called -/
theorem call_mw {X : Cx} {pins : List (Addr × Obj)} {u : Addr} {us : List Value} {Q : Value → Shared → Prop} {E : Value → Shared → Prop} {A : Around} (S : SupK X.prog X.K C f c cc fd) (I : Inv X ((u, PySem.W.kxs_mw "ValueError.__init__" a) :: pins) σ H s) (e : H a = some (exo a C none)) (hz : us.length ≤ sizeLine)
    (h : ∀ s', Inv X ((u, PySem.W.kxs_mw "ValueError.__init__" a) :: pins) σ H s' → Q .none s') : wpAny (model X.prog X.w) A (call (.ref u) us) Q E s := by
  have FB := F.excBase_ValueError
  obtain ⟨nm, N', qn, bs, bm, hdct, sn, sub, ab, col, dd, k0, k1, k2, k3, k5, hC, hT⟩ := PySem.W.excInit_of I.kIn S.exi
  have hu := (I.pin (u, PySem.W.kxs_mw "ValueError.__init__" a) (List.mem_append_right _ (List.mem_cons_self ..))).1
  obtain ⟨t1, he⟩ := exo_at I.hok e
  obtain ⟨hh, g, d, tk, os⟩ := s
  refine wpAny_call (codeAny_of_tree ?_)
  show wpAny _ A.in1 (callAny (.ref u) ⟨us, []⟩) _ _ _
  simp only [callAny]
  refine wpAny_bind (wpAny_load hu ?_)
  simp only [PySem.W.kxs_mw, show (Value.type "method-wrapper" == Value.type "method" || Value.type "method-wrapper" == Value.type "builtin_function_or_method" || Value.type "method-wrapper" == Value.type "method-wrapper") = true by decide, if_true]
  refine PySem.W.KFB.if_so (by decide) ?_
  refine wpAny_bind (PySem.W.check_bound_init FB.toExcCallFacts hC he rfl ?_)
  refine wpAny_bind (wpAny_pure (wpAny_pure ?_))
  refine ⟨plainId_quiet FB.init.plain _, codeAny_builtin FB.initEntry ?_⟩
  refine PySem.W.exc_init_tree (cls := .ref C) (t0 := t1) (dv := none) (c2 := .none) (c3 := .none) (b4 := .bool false) he hz fun h' k hx _ => ?_
  have J := I.write (t' := tk) (x := a) (e := a) (o := exo a C none) (by rw [e]; exact True.intro) (.inl rfl) k ⟨_, hx⟩ (exo_ok hx)
  have eu : upd H a (exo a C none) = H := by
    funext b
    by_cases hb : b = a
    · rw [hb, upd_same, e]
    · rw [upd_ne hb]
  rw [eu] at J
  exact h _ J
/-- super().__init__(e, ..), the first statement -/
theorem super_first {pl : Sem Bool} {fd : FuncData} {ar : Arg} {t : TA} {e : Expr} {es : List Expr} {p0 p1 p2 pos pos2 : Pos} {Qn : Hp → Prop} (S : SupK P K C f F.c cc fd) (hcl : F.cl = [(("__class__" : Str), cc)]) (hp : (fd.params.posonlyargs ++ fd.params.args).head? = some ar)
    (hks : F.scope.names.lookup ("super" : Str) = some .globalImplicit) (hkc : F.scope.names.lookup ("__class__" : Str) = some .free) (hka : F.scope.names.lookup ar.arg = some .local) (hk : F.scope.kind = .function) (m_super : mg "super" = none)
    (hN : N[0]? = some ar.arg) (ha : PA (ncx CX P w K mg base N F f A outer s0 H0 E) (e :: es) t) (I : Inv (ncx CX P w K mg base N F f A outer s0 H0 E) [] σ H s) (hs : σ[0]? = some (some (.ref a))) (hx : H a = some (exo a C none))
    (ht : t σ H fun vs H1 => vs.length ≤ 1000 ∧ H1 a = some (exo a C none) ∧ Qn H1)
    (hint : interactive (ncx CX P w K mg base N F f A outer s0 H0 E).env = false := by rfl) (hsw : swapsWith (.Call (.Attribute (.Call (.Name "super" p0) [] [] p1) "__init__" p2) (e :: es) [] pos) none pos2.line (ncx CX P w K mg base N F f A outer s0 H0 E).env = pure false := by rfl)
    (hev : eval (.Call (.Attribute (.Call (.Name "super" p0) [] [] p1) "__init__" p2) (e :: es) [] pos) (ncx CX P w K mg base N F f A outer s0 H0 E).env = (do
      let ov ← attributeBase (.Call (.Name "super" p0) [] [] p1) "__init__" (ncx CX P w K mg base N F f A outer s0 H0 E).env (eval (.Call (.Name "super" p0) [] [] p1) (ncx CX P w K mg base N F f A outer s0 H0 E).env)
      standAt p2.atName
      let (g, first) ← holding [ov] (getMethod ov "__init__" pl)
      callWith pos g first (backTo pos (starEach (e :: es) (ncx CX P w K mg base N F f A outer s0 H0 E).env)) []) := by rfl)
    (he : starEach (e :: es) (ncx CX P w K mg base N F f A outer s0 H0 E).env = (false, eval e (ncx CX P w K mg base N F f A outer s0 H0 E).env) :: starEach es (ncx CX P w K mg base N F f A outer s0 H0 E).env := by rfl) (hpl : (backTo pos (starEach es (ncx CX P w K mg base N F f A outer s0 H0 E).env)).any (·.1) = false := by rfl) :
    _root_.PySem.wpAt (model P w) (ncx CX P w K mg base N F f A outer s0 H0 E).A (.func F.body (ncx CX P w K mg base N F f A outer s0 H0 E).env) (exec (.Expr (.Call (.Attribute (.Call (.Name "super" p0) [] [] p1) "__init__" p2) (e :: es) [] pos) pos2) (ncx CX P w K mg base N F f A outer s0 H0 E).env)
      (fun fl s' => fl = .next ∧ ∃ H1, Inv (ncx CX P w K mg base N F f A outer s0 H0 E) [] σ H1 s' ∧ H1 a = some (exo a C none) ∧ Qn H1) (ncx CX P w K mg base N F f A outer s0 H0 E).xe s := by
  obtain ⟨oc, od, osl, lkf⟩ := S.lk
  obtain ⟨ccl, cdd, vs, ccs, file, tf, lkc, hvs, hfile⟩ := S.code
  obtain ⟨cl, cld, csl, lkcc⟩ := S.cell
  have KX : K.In s.heap := I.kIn
  obtain ⟨m, hn, hl⟩ := I.loc
  obtain ⟨u, ru, lu⟩ := hl 0 ar.arg (.ref a) hN hs (.inl hka)
  obtain rfl : u = .ref a := ru
  have hma : m ar.arg = some (.ref a) := by
    rcases lu with ⟨_, z⟩ | ⟨z, _⟩
    · exact z
    · rcases z with z | z
      · rw [show (ncx CX P w K mg base N F f A outer s0 H0 E).env.kindOf ar.arg = some .local from hka] at z; cases z
      · rw [show (ncx CX P w K mg base N F f A outer s0 H0 E).env.kindOf ar.arg = some .local from hka] at z; cases z
  obtain ⟨nm, q, NN, bs, bm, sn, sub, ab, col, dd, k0, k1, k2, k3, k5, hC, hbm⟩ := S.oex.cls
  obtain ⟨t1, hox⟩ := exo_at I.hok hx
  refine ks_wpAt_Expr_any (ks_wpAt_MethodCall ?_ hev) hint hsw
  refine ks_wpAt_super_base (env := (ncx CX P w K mg base N F f A outer s0 H0 E).env) (cc := F.c) hks hkc (by decide) rfl (KX _ _ lkf) rfl hp rfl (KX _ _ lkc) rfl hvs hfile S.top ?_
  obtain ⟨mb, h1, h2⟩ := I.mod.blt
  refine PySem.W.ks_loadName_global hk hks (Calls.loadGlobal_builtin (by rw [I.ok.glob]; exact I.mod.glob.keeps I.bk) m_super (by rw [I.ok.blt]; exact h1.keeps I.bk) ((h2 "super" (by decide)).trans (by decide +kernel)) ⟨rfl, ?_⟩)
  refine wpAny_loadName_free hk hkc (c := cc) (by show F.cl.lookup _ = _; rw [hcl]; rfl) ⟨_, KX _ _ lkcc, rfl⟩ ?_
  refine wpAny_loadName_local hk hka hn hma ?_
  refine ks_wpAny_isType_cls (KX _ _ hC) rfl ⟨rfl, ?_⟩
  obtain ⟨hh, g, d, tk, os⟩ := s
  refine ks_wpAny_call_super (KX _ _ hC) rfl hox rfl (fun c z => by cases z) (PySem.W.looks_mroIn KX S.mro) (fun h' eso kso => ?_)
  have I2 : Inv (ncx CX P w K mg base N F f A outer s0 H0 E) [] σ H ⟨h', g, d, tk, os⟩ := I.kept kso
  have KX2 : K.In h' := I2.kIn
  have hox2 := kso _ _ hox
  have IA : PySem.W.InstAt h' a _ C none := ⟨hox2, rfl, rfl, trivial⟩
  have hI : PySem.W.Looks (model P w) h' (isInstance (.ref a) (.type "ValueError")) true := IA.type.andThen (PySem.W.looks_subIn KX2 S.sub)
  have hm := S.ini
  cases hc : PySem.W.clsIn K C with
  | none =>
    unfold PySem.W.ks_superIn at hm
    rw [hc] at hm
    cases hm
  | some cd =>
    unfold PySem.W.ks_superIn at hm
    rw [hc] at hm
    refine PySem.W.kxs_getMethod PySem.W.kxs_ValueError eso (PySem.W.looks_opaque KX2 S.opq) (l₀ := cd.mro) ?_ rfl KX2 hm hI (PySem.W.ks_ne KX2 IA hc) (by decide) ?_
    · exact fun A Q E s k q => wpAny_bind ((PySem.W.looks_clsIn KX2 hc) A _ E s k (wpAny_pure q))
    · have I3 : Inv (ncx CX P w K mg base N F f A outer s0 H0 E) [(h'.objs.size, PySem.W.kxs_mw "ValueError.__init__" a)] σ H ⟨h'.push (PySem.W.kxs_mw "ValueError.__init__" a), g, d, tk + 1, os⟩ := ClX.pin_new I2 (fun b o e => Heap.get?_push_of_some _ e) (Nat.le_refl _) (Heap.get?_push_at rfl rfl) (fun v z => by cases z)
      rw [he]
      refine PySem.W.kxs_callWith (i := "ValueError.__init__") (x := a) (by show (false || (backTo pos (starEach es _)).any (·.1)) = false; rw [hpl]; rfl) ?_
      refine PySem.Calls.evalArgs_plain ?_
      have hrun := ha.run pos _ _ σ H _ I3 ht
      rw [he] at hrun
      refine thn hrun fun us s3 ⟨ws, H3, I4, r, q1, q2, q3⟩ => ?_
      refine ⟨ClX.pin_at I4, ?_⟩
      refine call_mw (X := ncx CX P w K mg base N F f A outer s0 H0 E) S I4 q2 (by show us.length ≤ sizeLine; rw [← r.length]; exact Nat.le_trans q1 (by decide)) fun s' I5 => ⟨rfl, H3, ClX.unpin I5, q2, q3⟩
theorem wpAt_to {M : Model} {A : Around} {c : Code} {α : Type} {m : Sem α} {Q Q' : α → Shared → Prop} {E : Value → Shared → Prop} {s : Shared} (h : _root_.PySem.wpAt M A c m Q E s) (hq : ∀ a s', Q a s' → Q' a s') : _root_.PySem.wpAt M A c m Q' E s := ks_wpAt_mono h hq fun _ _ z => z
/-- THE RULE: such an __init__, the rest of its body by its readings -/
theorem sup_ok {pl : Sem Bool} {fd : FuncData} {dV kV doc pm ct : Value} {an : Option Addr} {ar : Arg} {k : Nat} {sp : Sp} {txt : Str} {j : Nat} {p0 p1 p2 p3 pos pos2 : Pos} {rest : List Stmt} (hfd : fd = PySem.W.fnX F.name F.qual F.params F.body F.scope F.cl dV kV doc pm an (.ref F.c) ct)
    (S : SupK P K C f F.c cc fd) (hcd : PySem.W.codeIn K (.ref F.c) F.qual = true) (NS : NScope N ps ["__class__"] F.scope) (hcl : F.cl = [(("__class__" : Str), cc)]) (hp : (F.params.posonlyargs ++ F.params.args).head? = some ar) (hks : F.scope.names.lookup ("super" : Str) = some .globalImplicit) (m_super : mg "super" = none)
    (hN : N[0]? = some ar.arg) (hka : F.scope.names.lookup ar.arg = some .local)
    (hb : F.body = .Expr (.Call (.Attribute (.Call (.Name "super" p0) [] [] p1) "__init__" p2) [.Constant (.str txt) j p3] [] pos) pos2 :: rest)
    (len : ∀ vs H Q E, sp vs H Q E → vs.length = ps.length) (hself : ∀ vs H Q E, sp vs H Q E → ∃ a vs', vs = .ref a :: vs' ∧ H a = some (exo a C none))
    (hint : ∀ (A : Around) (outer : List Env) (s : Shared) (H : Hp) (E : XK), interactive (ncx CX P w K mg base N F f A outer s H E).env = false)
    (hsw : ∀ (A : Around) (outer : List Env) (s : Shared) (H : Hp) (E : XK), swapsWith (.Call (.Attribute (.Call (.Name "super" p0) [] [] p1) "__init__" p2) [.Constant (.str txt) j p3] [] pos) none pos2.line (ncx CX P w K mg base N F f A outer s H E).env = pure false)
    (hev : ∀ (A : Around) (outer : List Env) (s : Shared) (H : Hp) (E : XK), eval (.Call (.Attribute (.Call (.Name "super" p0) [] [] p1) "__init__" p2) [.Constant (.str txt) j p3] [] pos) (ncx CX P w K mg base N F f A outer s H E).env = (do
      let ov ← attributeBase (.Call (.Name "super" p0) [] [] p1) "__init__" (ncx CX P w K mg base N F f A outer s H E).env (eval (.Call (.Name "super" p0) [] [] p1) (ncx CX P w K mg base N F f A outer s H E).env)
      standAt p2.atName
      let (g, first) ← holding [ov] (getMethod ov "__init__" pl)
      callWith pos g first (backTo pos (starEach [.Constant (.str txt) j p3] (ncx CX P w K mg base N F f A outer s H E).env)) []))
    (hrest : ∀ (A : Around) (outer : List Env) (s : Shared) (H : Hp) (vs : List V) (Q : VK) (E : XK), sp vs H Q E → ∃ t, PSs (ncx CX P w K mg base N F f A outer s H E) rest t ∧ t { nx := fun _ H' => Q .non H', rt := Q } (startF N vs [some (.ref C)]) H) : FnOk P w K mg base CX (k + 1) f fd ps sp := by
  refine ⟨len, fun A outer s H args us vs Q E hr e0 hbn r hsp => ?_⟩
  have hl := len _ _ _ _ hsp
  have KX : K.In s.heap := e0.mod.kin.keeps fun b o e => (e0.bs b o e).1
  have lim : s.heap.NoLimit := e0.mod.nolimit.keeps fun b o e => (e0.bs b o e).1
  obtain ⟨oc, od, osl, lkf⟩ := S.lk
  obtain ⟨cl, cld, csl, lkcc⟩ := S.cell
  have CA : CellsAt F.cl ["__class__"] [some (.ref C)] s.heap H := by
    refine ⟨rfl, fun y c e => ?_, fun x y c e1 e2 => ?_, fun i y e => ?_⟩
    · rw [hcl] at e
      have ec : c = cc := by
        unfold List.lookup at e
        split at e
        · exact (Option.some.inj e).symm
        · cases e
      subst ec
      exact ⟨(e0.bs _ _ (e0.mod.kin _ _ lkcc)).2, _, _, KX _ _ lkcc, rfl⟩
    · rw [hcl] at e1 e2
      have k : ∀ z : Str, ([(("__class__" : Str), cc)] : List (Str × Addr)).lookup z = some c → z = "__class__" := fun z e => by
        unfold List.lookup at e
        split at e
        · next h => exact beq_iff_eq.mp h
        · cases e
      rw [k x e1, k y e2]
    · have ey : y = "__class__" := by
        cases i with
        | zero => exact (Option.some.inj e).symm
        | succ i => cases e
      subst ey
      refine ⟨cc, by rw [hcl]; rfl, fun v hv => ?_⟩
      have ei : i = 0 := by
        cases i with
        | zero => rfl
        | succ i => cases e
      subst ei
      obtain rfl : V.ref C = v := Option.some.inj (Option.some.inj hv)
      exact ⟨.ref C, rfl, _, KX _ _ lkcc, rfl⟩
  subst hfd
  refine ks_codeAny_call_defAt hr.depth (KX _ _ lkf) rfl lim (PySem.W.codeRec_of KX hcd) rfl hbn NS.nocell (fun ⟨n, _⟩ hy => NS.par n (List.of_mem_zip hy).1) (fun h₁ hns kp => ?_) NS.co NS.gen NS.kind
  show _root_.PySem.wpAt _ (ncx CX P w K mg base N F f A outer s H E).A (.func F.body (ncx CX P w K mg base N F f A outer s H E).env) (execs F.body (ncx CX P w K mg base N F f A outer s H E).env) _ (ncx CX P w K mg base N F f A outer s H E).xe _
  have I : Inv (ncx CX P w K mg base N F f A outer s H E) [] (startF N vs [some (.ref C)]) H { s with heap := h₁, toks := s.toks + (ps.zip us).length } := inv_startN NS hr.hd e0 hl r CA hns kp
  obtain ⟨a, vs', rfl, hx⟩ := hself _ _ _ _ hsp
  have hexe : execs F.body (ncx CX P w K mg base N F f A outer s H E).env = execs (.Expr (.Call (.Attribute (.Call (.Name "super" p0) [] [] p1) "__init__" p2) [.Constant (.str txt) j p3] [] pos) pos2 :: rest) (ncx CX P w K mg base N F f A outer s H E).env := by rw [hb]
  rw [hexe]
  refine ks_wpAt_execs_cons (wpAt_to (super_first (Qn := fun H1 => H1 = H) S hcl hp hks (NS.frk _ (List.mem_cons_self ..)) hka NS.kind m_super hN (pa_cons pe_str pa_nil) I rfl hx ⟨by simp, hx, rfl⟩ (hint A outer s H E) (hsw A outer s H E) (hev A outer s H E)) ?_)
  rintro fl s1 ⟨rfl, H1, I1, _, rfl⟩
  obtain ⟨t, ht, hq⟩ := hrest A outer s H1 _ Q E hsp
  refine wpAt_of_wpAny (wpAny_mono (ht.run [] _ _ H1 _ I1 hq) (fun fl s' hs => ?_) fun e s' hs => hs)
  have fin : ∀ {σ' : L2.St} {H' : Hp} {v : V} {u : Value}, Inv (ncx CX P w K mg base N F f A outer s H1 E) [] σ' H' s' → L2.RelV v u → Q v H' → CE outer P w H1 s Q u s' :=
    fun {σ' H' v u} J rv q => ⟨v, H', J.os, J.bare, J.base, J.hok, rv, q⟩
  cases fl with
  | ret u =>
    obtain ⟨v, σ', H', J, rv, q⟩ := hs
    exact fin J rv q
  | next =>
    obtain ⟨σ', H', J, q⟩ := hs
    exact fin (v := V.non) (u := Value.none) J rfl q
  | brk =>
    obtain ⟨_, _, _, q⟩ := hs
    exact False.elim q
  | cont =>
    obtain ⟨_, _, _, q⟩ := hs
    exact False.elim q
end
end Z
set_option Elab.async false
set_option linter.all false
set_option maxRecDepth 100000
set_option maxHeartbeats 4000000
namespace Z
open PySem PySem.Spec PyProof.Rows L2 NdefX
/-! ### class X(..): def __init__(self, v): super().__init__("text"); self.field = v -/
def spEx (C : Addr) (field : Str) : Sp := fun vs H Q _ => ∃ (a : Addr) (v : V), vs = [.ref a, v] ∧ H a = some (exo a C none) ∧ ∀ dx, H dx = none → dx ≠ a → Q .non (upd (upd H dx (exd dx [(field, v)])) a (exo a C (some dx)))
theorem exn_ok {P : Program} {w : World} {K : PySem.W.Frag} {mg : Str → Option Value} {base : Heap} {F : NF} {f C cc : Addr} {pl : Sem Bool} {fd : FuncData} {dV kV doc pm ct : Value} {an : Option Addr} {ar : Arg} {txt v field : Str} {j : Nat} {p0 p1 p2 p3 pos pos2 q1 q2 q3 q4 : Pos} (hfd : fd = PySem.W.fnX F.name F.qual F.params F.body F.scope F.cl dV kV doc pm an (.ref F.c) ct)
    (S : SupK P K C f F.c cc fd) (hcd : PySem.W.codeIn K (.ref F.c) F.qual = true) (NS : NScope ["self", v, "__class__"] ["self", v] ["__class__"] F.scope) (hcl : F.cl = [(("__class__" : Str), cc)]) (hp : (F.params.posonlyargs ++ F.params.args).head? = some ar) (har : ar.arg = "self") (hks : F.scope.names.lookup ("super" : Str) = some .globalImplicit) (m_super : mg "super" = none)
    (hno : PySem.W.findIn K (.ref C) field = some none) (hvd : (v == ("__debug__" : Str)) = false) (hvc : (v == ("__classdict__" : Str)) = false)
    (hb : F.body = [.Expr (.Call (.Attribute (.Call (.Name "super" p0) [] [] p1) "__init__" p2) [.Constant (.str txt) j p3] [] pos) pos2, .Assign [.Attribute (.Name "self" q1) field q2] (.Name v q3) q4])
    (hint : ∀ (A : Around) (outer : List Env) (s : Shared) (H : Hp) (E : XK), interactive (ncx CX0 P w K mg base ["self", v, "__class__"] F f A outer s H E).env = false)
    (hsw : ∀ (A : Around) (outer : List Env) (s : Shared) (H : Hp) (E : XK), swapsWith (.Call (.Attribute (.Call (.Name "super" p0) [] [] p1) "__init__" p2) [.Constant (.str txt) j p3] [] pos) none pos2.line (ncx CX0 P w K mg base ["self", v, "__class__"] F f A outer s H E).env = pure false)
    (hev : ∀ (A : Around) (outer : List Env) (s : Shared) (H : Hp) (E : XK), eval (.Call (.Attribute (.Call (.Name "super" p0) [] [] p1) "__init__" p2) [.Constant (.str txt) j p3] [] pos) (ncx CX0 P w K mg base ["self", v, "__class__"] F f A outer s H E).env = (do
      let ov ← attributeBase (.Call (.Name "super" p0) [] [] p1) "__init__" (ncx CX0 P w K mg base ["self", v, "__class__"] F f A outer s H E).env (eval (.Call (.Name "super" p0) [] [] p1) (ncx CX0 P w K mg base ["self", v, "__class__"] F f A outer s H E).env)
      standAt p2.atName
      let (g, first) ← holding [ov] (getMethod ov "__init__" pl)
      callWith pos g first (backTo pos (starEach [.Constant (.str txt) j p3] (ncx CX0 P w K mg base ["self", v, "__class__"] F f A outer s H E).env)) []))
    (hs2 : ∀ (A : Around) (outer : List Env) (s : Shared) (H : Hp) (E : XK), swapsWith (.Name v q3) (some (.Attribute (.Name "self" q1) field q2)) q4.line (ncx CX0 P w K mg base ["self", v, "__class__"] F f A outer s H E).env = pure false) : FnOk P w K mg base CX0 1 f fd ["self", v] (spEx C field) := by
  refine sup_ok (k := 0) (rest := [.Assign [.Attribute (.Name "self" q1) field q2] (.Name v q3) q4]) hfd S hcd NS hcl hp hks m_super (by rw [har]; rfl) (by rw [har]; exact NS.par _ (List.mem_cons_self ..)) hb (fun vs H Q E h => ?_) (fun vs H Q E h => ?_) hint hsw hev (fun A outer s H vs Q E h => ?_)
  · obtain ⟨a, y, rfl, _⟩ := h
    rfl
  · obtain ⟨a, y, rfl, hx, _⟩ := h
    exact ⟨a, [y], rfl, hx⟩
  · obtain ⟨a, y, rfl, hx, q⟩ := h
    refine ⟨_, pss_one (ps_ost (pe_var (i := 0) rfl (.inl (NS.par _ (List.mem_cons_self ..)))) (pe_var (i := 1) rfl (.inl (NS.par _ (List.mem_cons_of_mem _ (List.mem_cons_self ..)))) hvd hvc) (hs2 A outer s H E)), ?_⟩
    refine ⟨y, rfl, .ref a, rfl, a, C, rfl, S.oex, hno, .inl ⟨hx, fun dx n1 n2 => ?_⟩⟩
    exact q dx n1 n2
/-! ### raise X(e) -/
structure Exn (P : Program) (w : World) (K : PySem.W.Frag) (mg : Str → Option Value) (base : Heap) (x : Str) (C : Addr) (field : Str) : Prop where
  oex : OexC K C
  gl : mg x = some (.ref C)
  ini : ∃ fI fd ps, PySem.W.findIn K (.ref C) "__init__" = some (some (.ref fI)) ∧ PySem.W.typeIn K (.ref fI) = some (.type "function") ∧ FnOk P w K mg base CX0 1 fI fd ps (spEx C field) ∧ Binds K fd ps []
/-! ### C(e): the exception's object has no context -/
section
variable {X : Cx} {x : Str} {C g : Addr} {k : Nat} {fd : FuncData} {ps : List Str} {sp : Sp} {e : Expr} {ta : TA} {p pos : Pos}
/-- the two objects that type.__call__ lays -/
abbrev hp2 (h : Heap) (C : Addr) (us : List Value) : Heap :=
  (h.push (PySem.W.kdv_tup us)).push (PySem.HandSPX.excO C h.objs.size)
theorem hp2_keep {h : Heap} {us : List Value} (b : Addr) (o : Obj) (z : h.get? b = some o) :
    (hp2 h C us).get? b = some o := Heap.get?_push_of_some _ (Heap.get?_push_of_some _ z)
theorem hp2_at {h : Heap} {us : List Value} :
    (hp2 h C us).get? (h.objs.size + 1) = some (PySem.HandSPX.excO C h.objs.size) := by heap_get
theorem inv2 {pins : List (Addr × Obj)} {σ : L2.St} {H : Hp} {h : Heap} {gs : Array GenState} {dr : Drawn} {tk : Nat} {os : OsState} {us : List Value}
    (I : Inv X pins σ H ⟨h, gs, dr, tk, os⟩) :
    Inv X pins σ (upd H (h.objs.size + 1) (exo (h.objs.size + 1) C none)) ⟨hp2 h C us, gs, dr, tk, os⟩ :=
  I.laid (t' := tk) (a := h.objs.size + 1) (o := exo (h.objs.size + 1) C none) (h' := hp2 h C us)
    hp2_keep (Nat.le_succ _) (exo_ok hp2_at)
theorem pmkN (T : OexC X.K C)
    (iC : PySem.W.findIn X.K (.ref C) "__init__" = some (some (.ref g)))
    (tI : PySem.W.typeIn X.K (.ref g) = some (.type "function"))
    (F : FnOk X.prog X.w X.K X.mg X.base CX0 k g fd ps sp) (hr : Room (k + 1) X.A) (hb : Binds X.K fd ps [])
    (hg : Gl X x) (hm : X.mg x = some (.ref C)) (ha : PA X [e] ta)
    (hdb : (x == ("__debug__" : Str)) = false := by decide)
    (he : starEach [e] X.env = (false, eval e X.env) :: starEach [] X.env := by rfl)
    (hpl : (backTo pos (starEach [] X.env)).any (·.1) = false := by rfl) :
    L2N.PMk X (.Call (.Name x p) [e] [] pos) (tMkO C sp [] ta) := by
  intro pins s σ H Q I h
  obtain ⟨_, _, _, _, vm, _, _, _, _, _, _, _, _, _, _, atC, inM⟩ := T.cls
  refine wpAny_Call_Name_kw (ld_glob I hg hm ?_ hdb)
  refine PySem.W.callWith_K (h₀ := X.base) I.ok.mod.kin T.kC ?_ he hpl
  refine thn (ha.run pos pins s σ H _ I h) fun us s1 hh => ?_
  obtain ⟨vs, H1, J, r, few, q⟩ := hh
  refine ⟨J.kIn, ?_⟩
  obtain ⟨hp, gs, dr, tk, os⟩ := s1
  have q := q (hp.objs.size + 1) (J.hok.fresh (Nat.le_succ _))
  rw [List.append_nil] at q
  have J2 := inv2 (C := C) (us := us) J
  have r2 : Vals (V.ref (hp.objs.size + 1) :: vs) (Value.ref (hp.objs.size + 1) :: us) := .cons rfl r
  have len2 : (Value.ref (hp.objs.size + 1) :: us ++ []).length = ps.length := by
    rw [List.append_nil, ← r2.length]
    exact F.len _ _ _ _ q
  have b2 := hb _ (Value.ref (hp.objs.size + 1) :: us) J2.kIn len2
  rw [List.append_nil] at b2
  have few2 : us.length ≤ sizeLine := by
    have := Paired.length r
    rw [sizeLine_eq]
    omega
  have run := F.run _ X.stack _ _ _ _ _ _ _ (hr.make C us []) (J2.env0.make C us []) b2 r2 q
  refine wpAny_call (PySem.HandSPX.call_own PySem.F.excBase_ValueError (fun Y => PySem.HandSPX.refsVE_contains Y vm inM)
    (J.kIn _ _ atC) (PySem.W.looks_findIn J.kIn iC) (fun self => PySem.W.bind_fn J.kIn self tI) few2
    (codeAny_mono run fun res s' z => ?_))
  match res, z with
  | .error er, z => exact z.elim
  | .ok (.ret u), z =>
    obtain ⟨v, H2, eo, bare, un, ok2, rv, ev, d, fs, ea, ed, nd, q2⟩ := z
    subst ev
    obtain ⟨h2, g2, d2, t2, os'⟩ := s'
    obtain ⟨t0, G, J3, kG, ge, hoe, na⟩ := mk_end0 (d2 := d2) (t2 := t2) J (Nat.le_succ _) hp2_keep un ok2 eo bare ea ed nd
    refine ⟨rv, hp.objs.size + 1, _, _, ⟨G, g2, d2, t2, os'⟩, _, .ref C, some d, rfl, J3, kG, ge, hoe, ⟨rfl, rfl, fun ws ew => ?_⟩, rfl, rfl, na, rfl, bare, raises_own T.exC T.tyC, q2⟩
    cases ew
    rfl
end
section
variable {X : Cx} {x field : Str} {C : Addr} {j : Nat} {e : Expr} {ta : TA} {p pos pos2 : Pos} {W : WX}
theorem pmk_exn (c : Exn X.prog X.w X.K X.mg X.base x C field) (hr : Room j X.A) (hk : 2 ≤ j) (hg : Gl X x) (ha : PA X [e] ta) (hdb : (x == ("__debug__" : Str)) = false := by decide) (he : starEach [e] X.env = (false, eval e X.env) :: starEach [] X.env := by rfl) (hpl : (backTo pos (starEach [] X.env)).any (·.1) = false := by rfl) :
    L2N.PMk X (.Call (.Name x p) [e] [] pos) (tMkO C (spEx C field) [] ta) := by
  obtain ⟨fI, fd, ps, iC, tI, F1, b⟩ := c.ini
  exact pmkN (X := X) (pos := pos) (p := p) c.oex iC tI F1 (hr.mono hk) b hg c.gl ha hdb he hpl
/-- raise X(e) -/
theorem ps_exn (hc : X.calm = true) (tk : L2N.Takes X W) (c : Exn X.prog X.w X.K X.mg X.base x C field) (hr : Room j X.A) (hk : 2 ≤ j) (hg : Gl X x) (ha : PA X [e] ta) (hdb : (x == ("__debug__" : Str)) = false := by decide) (he : starEach [e] X.env = (false, eval e X.env) :: starEach [] X.env := by rfl) (hpl : (backTo pos (starEach [] X.env)).any (·.1) = false := by rfl) :
    PS X (.Raise (some (.Call (.Name x p) [e] [] pos)) none pos2) (fun _ σ H => tMkO C (spEx C field) [] ta σ H fun cls d H' => W cls d σ H') := L2N.ps_raise hc tk (pmk_exn c hr hk hg ha hdb he hpl)
end
/-- what is left to show of X(v) -/
theorem mkx_of {C : Addr} {field : Str} {v : V} {H1 : Hp} {Q : XK} (q : ∀ d, H1 d = none → Q (.ref C) (some d) (upd H1 d (.xd [(field, v)]))) :
    [v].length ≤ 1000 ∧ ∀ a, H1 a = none → spEx C field (.ref a :: ([v] ++ [])) (upd H1 a (exo a C none)) (fun v H2 => v = .non ∧ ∃ (d : Addr) (fs : List (Str × V)), H2 a = some (exo a C (some d)) ∧ H2 d = some (exd d fs) ∧ H1 d = none ∧ Q (.ref C) (some d) (upd (del H2 a) d (.xd fs))) (fun _ _ _ => False) := by
  refine ⟨by simp, fun a na => ⟨a, v, rfl, upd_same, fun dx n1 n2 => ⟨rfl, dx, [(field, v)], upd_same, ?_, ?_, ?_⟩⟩⟩
  · rw [upd_ne n2, upd_same]
  · rw [← n1, upd_ne n2]
  · have n3 : H1 dx = none := by rw [← n1, upd_ne n2]
    have e1 : upd (del (upd (upd (upd H1 a (exo a C none)) dx (exd dx [(field, v)])) a (exo a C (some dx))) a) dx (.xd [(field, v)]) = upd H1 dx (.xd [(field, v)]) := by
      funext b
      by_cases hb : b = dx
      · rw [hb, upd_same, upd_same]
      · rw [upd_ne hb, upd_ne hb]
        by_cases ha2 : b = a
        · rw [ha2, del_same, na]
        · rw [del_ne ha2, upd_ne ha2, upd_ne hb, upd_ne ha2]
    rw [e1]
    exact q dx n3
/-! ### calls that may raise -/
structure CalX (P : Program) (w : World) (K : PySem.W.Frag) (mg : Str → Option Value) (base : Heap) (k : Nat) (x : Str) (sp : Sp) : Prop where
  ex : ∃ (f : Addr) (fd : FuncData) (ps : List Str), FnOk P w K mg base (L2N.CX P w) k f fd ps sp ∧ mg x = some (.ref f) ∧ PySem.W.keepIn K (.ref f) = true ∧ Binds K fd ps []
structure MakX (P : Program) (w : World) (K : PySem.W.Frag) (mg : Str → Option Value) (base : Heap) (k : Nat) (x : Str) (C : Addr) (sp : Sp) : Prop where
  ex : ∃ (f : Addr) (fd : FuncData) (ps : List Str), Mk K C f ∧ FnOk P w K mg base (L2N.CX P w) k f fd ps sp ∧ mg x = some (.ref C) ∧ Binds K fd ps []
structure MetX (P : Program) (w : World) (K : PySem.W.Frag) (mg : Str → Option Value) (base : Heap) (k : Nat) (C : Addr) (m : Str) (sp : Sp) : Prop where
  ex : ∃ (f : Addr) (fd : FuncData) (ps : List Str), Cls K C ∧ Meth K C m f ∧ FnOk P w K mg base (L2N.CX P w) k f fd ps sp ∧ Binds K fd ps []
structure CobX (P : Program) (w : World) (K : PySem.W.Frag) (mg : Str → Option Value) (base : Heap) (k : Nat) (C : Addr) (sp : Sp) : Prop where
  ex : ∃ (g : Addr) (fd : FuncData) (ps : List Str), StX.CallO K C g ∧ FnOk P w K mg base (L2N.CX P w) k g fd ps sp ∧ Binds K fd ps []
/-- C(e, ..) by its __init__'s promise; what is raised at the slots -/
def tMkW (C : Addr) (sp : Sp) (E : L2.St → XK) (t : TA) : TE := fun σ H Q => t σ H fun vs H1 => ∀ n dx, H1 n = none → H1 dx = none → dx ≠ n → sp (.ref n :: vs) (upd (upd H1 dx (.own n)) n (.ins C dx [])) (fun v H2 => v = .non ∧ Q (.ref n) H2) (E σ)
def tCoW (C : Addr) (sp : Sp) (E : L2.St → XK) (tf : TE) (t : TA) : TE := fun σ H Q => tf σ H fun y H1 => ∃ a, y = V.ref a ∧ t σ H1 fun vs H2 => (∃ dx fs, H2 a = some (.ins C dx fs)) ∧ sp (V.ref a :: vs) H2 Q (E σ)
def tMeW (C : Addr) (m : Str) (sp : Sp) (E : L2.St → XK) (ta : TE) (t : TA) : TE := fun σ H Q => ta σ H fun x H1 => ∃ a dx fs, x = V.ref a ∧ H1 a = some (.ins C dx fs) ∧ List.lookup m fs = none ∧ t σ H1 fun vs H2 => sp (x :: vs) H2 Q (E σ)
section
variable {X : Cx} {k j : Nat} {x m : Str} {sp : Sp} {C : Addr} {p pos apos : Pos} {e o fe : Expr} {es : List Expr} {t : TA} {ta tf : TE} {W : WX} {E : L2.St → XK}
theorem passS0 {σ : L2.St} : PassesAt (L2N.CX X.prog X.w) X σ E0 := fun _ _ _ _ _ _ h => by
  obtain ⟨_, _, _, _, _, _, _, _, _, _, _, _, z⟩ := h
  exact z.elim
/-- any result of a promise, at the slots -/
theorem back_at {σ : L2.St} {H : Hp} {s : Shared} {pins : List (Addr × Obj)} {Q : VK} {E : XK} {CX : CXT} (hx : PassesAt CX X σ E) (I : Inv X pins σ H s) : ∀ (r : Result) (s' : Shared), CR CX X.stack X.prog X.w H s Q E r s' → match r with
    | .ok (.ret v) => EP X pins σ Q v s'
    | .ok _ => False
    | .error e => X.xe e s'
  | .error e, s', h => hx pins H s e s' I h
  | .ok (.ret u), s', h => I.after h
  | .ok .next, s', h => h
  | .ok .brk, s', h => h
  | .ok .cont, s', h => h
theorem pe_clE (c : CalX X.prog X.w X.K X.mg X.base k x sp) (hx : ∀ σ, PassesAt (L2N.CX X.prog X.w) X σ (E σ)) (hr : Room j X.A) (hk : k ≤ j) (hg : Gl X x) (ha : PA X (e :: es) t) (hdb : (x == ("__debug__" : Str)) = false := by decide) (he : starEach (e :: es) X.env = (false, eval e X.env) :: starEach es X.env := by rfl) (hpl : (backTo pos (starEach es X.env)).any (·.1) = false := by rfl) :
    PE X (.Call (.Name x p) (e :: es) [] pos) (tCallS sp E t) := by
  obtain ⟨f, fd, ps, F, hm, kp, b⟩ := c.ex
  exact pe_callS F (hr.mono hk) hg hm kp b hx ha hdb he hpl
theorem pe_mkE (c : MakX X.prog X.w X.K X.mg X.base k x C sp) (hx : ∀ σ, PassesAt (L2N.CX X.prog X.w) X σ (E σ)) (hr : Room j X.A) (hk : k + 1 ≤ j) (hg : Gl X x) (ha : PA X (e :: es) t) (hdb : (x == ("__debug__" : Str)) = false := by decide) (he : starEach (e :: es) X.env = (false, eval e X.env) :: starEach es X.env := by rfl) (hpl : (backTo pos (starEach es X.env)).any (·.1) = false := by rfl) :
    PE X (.Call (.Name x p) (e :: es) [] pos) (tMkW C sp E t) := by
  obtain ⟨f, fd, ps, M, F, hm, b⟩ := c.ex
  constructor
  intro pins s σ H Q I h
  refine wpAny_Call_Name_kw (ld_glob I hg hm ?_ hdb)
  refine PySem.W.callWith_K (h₀ := X.base) I.ok.mod.kin M.kp (thn (ha.run pos pins s σ H _ I h) fun us s1 z => ?_) he hpl
  obtain ⟨vs, H1, I1, rr, q⟩ := z
  refine ⟨I1.kIn, ?_⟩
  obtain ⟨n, hn⟩ : ∃ n, n = s1.heap.objs.size := ⟨_, rfl⟩
  have q1 := q (n + 1) n (I1.hok.fresh (by rw [hn]; exact Nat.le_succ _)) (I1.hok.fresh (by rw [hn]; exact Nat.le_refl _)) (Nat.ne_of_lt (Nat.lt_succ_self _))
  subst hn
  have J := Inv.made (C := C) I1
  have r3 : Vals (V.ref (s1.heap.objs.size + 1) :: vs) (Value.ref (s1.heap.objs.size + 1) :: us) := .cons rfl rr
  have b3 := b { s1 with heap := (s1.heap.push PySem.W.emptyDict).push (PySem.W.instObj C s1.heap.objs.size) } (Value.ref (s1.heap.objs.size + 1) :: us) J.kIn (by rw [List.append_nil, ← r3.length]; exact F.len _ _ _ _ q1)
  rw [List.append_nil] at b3
  have run := F.run _ X.stack _ _ _ _ _ _ _ ((hr.mono hk).make C us []) (J.env0.make C us []) b3 r3 q1
  refine wpAny_call (make_map (f := f) I1.kIn M.makes M.init (beq_iff_eq.mp M.fn) (codeAny_mono run fun r s' hq => ?_))
  have z := back_at (hx σ) J r s' hq
  match r, z with
  | .error e, z => exact z
  | .ok (.ret u), ⟨v, H', J', rv, ev, q3⟩ =>
    subst ev
    exact ⟨rv, V.ref (s1.heap.objs.size + 1), H', J', rfl, q3⟩
theorem run_atE {f : Addr} {fd : FuncData} {ps : List Str} {σ : L2.St} {H : Hp} {s : Shared} {pins : List (Addr × Obj)} {Q : VK} {us : List Value} {vs : List V} (F : FnOk X.prog X.w X.K X.mg X.base (L2N.CX X.prog X.w) k f fd ps sp) (b : Binds X.K fd ps []) (hx : PassesAt (L2N.CX X.prog X.w) X σ (E σ)) (hr : Room k X.A) (I : Inv X pins σ H s) (r : Vals vs us) (h : sp vs H Q (E σ)) :
    codeAny (model X.prog X.w) X.A (.call (.ref f) ⟨us, []⟩) (fun r s' => match r with | .ok (.ret v) => EP X pins σ Q v s' | .ok _ => False | .error e => X.xe e s') s := by
  have b3 := b s us I.kIn (by rw [List.append_nil, ← r.length]; exact F.len _ _ _ _ h)
  rw [List.append_nil] at b3
  exact codeAny_mono (F.run _ X.stack _ _ _ _ _ _ _ hr I.env0 b3 r h) (back_at hx I)
theorem pe_coE (c : CobX X.prog X.w X.K X.mg X.base k C sp) (hf : PE X fe tf) (hx : ∀ σ, PassesAt (L2N.CX X.prog X.w) X σ (E σ)) (hr : Room j X.A) (hk : k ≤ j) (ha : PA X (e :: es) t)
    (ht : eval (.Call fe (e :: es) [] pos) X.env = (do callWith pos (← eval fe X.env) [] (backTo pos (starEach (e :: es) X.env)) (backToKw pos (keywordEach [] X.env))) := by rfl)
    (he : starEach (e :: es) X.env = (false, eval e X.env) :: starEach es X.env := by rfl) (hpl : (backTo pos (starEach es X.env)).any (·.1) = false := by rfl) : PE X (.Call fe (e :: es) [] pos) (tCoW C sp E tf t) := by
  obtain ⟨g, fd, ps, co, F, b⟩ := c.ex
  constructor
  intro pins s σ H Q I h
  refine Call_ (thn (hf.run pins s σ H _ I h) fun u s1 ⟨y, H1, I1, ry, a, ey, q⟩ => ?_) ht
  subst ey
  obtain rfl : u = Value.ref a := ry
  refine StX.callO_with (thn (ha.run pos pins s1 σ H1 _ I1 q) fun us s2 z => ?_) he hpl
  obtain ⟨vs, H2, I2, r, hi, q2⟩ := z
  have hi2 : StX.InsC X H2 a C := .inr hi
  obtain ⟨ox, od, J, hd⟩ := StX.insC_at I2 hi2
  exact ⟨⟨C, ox, od, J, hd⟩, wpAny_call (PySem.W.kco_code I2.kIn J hd co.at_ co.fn co.fi (run_atE (vs := .ref a :: vs) (us := .ref a :: us) F b (hx σ) (hr.mono hk) I2 (.cons rfl r) q2))⟩
theorem pe_meE {pl : Sem Bool} (c : MetX X.prog X.w X.K X.mg X.base k C m sp) (ho : PE X o ta) (hx : ∀ σ, PassesAt (L2N.CX X.prog X.w) X σ (E σ)) (hr : Room j X.A) (hk : k ≤ j) (ha : PA X (e :: es) t)
    (hst : starEach (e :: es) X.env = (false, eval e X.env) :: starEach es X.env := by rfl) (hpl : (backTo pos (starEach es X.env)).any (·.1) = false := by rfl)
    (ht : eval (.Call (.Attribute o m apos) (e :: es) [] pos) X.env = (do
      let ov ← eval o X.env
      standAt apos.atName
      let (g, first) ← holding [ov] (getMethod ov m pl)
      callWith pos g first (backTo pos (starEach (e :: es) X.env)) (backToKw pos (keywordEach [] X.env))) := by rfl) : PE X (.Call (.Attribute o m apos) (e :: es) [] pos) (tMeW C m sp E ta t) := by
  obtain ⟨f, fd, ps, cl, me, F, b⟩ := c.ex
  constructor
  intro pins s σ H Q I h
  refine PySem.W.methodCall_KW (pl := pl) (thn (ho.run pins s σ H _ I h) fun u s1 z => ?_) ht
  obtain ⟨y, H1, I1, ry, a, dx, fs, ey, ea, l, q⟩ := z
  subst ey
  obtain rfl : u = Value.ref a := ry
  refine getmeth_ok I1 ea cl me l ?_
  refine PySem.W.callWith_K (first := [.ref a]) (h₀ := X.base) I.ok.mod.kin me.kp (thn (ha.run pos pins s1 σ H1 _ I1 q) fun us s2 z => ?_) hst hpl
  obtain ⟨vs, H2, I2, r, q2⟩ := z
  exact ⟨I2.kIn, wpAny_call (run_atE (vs := .ref a :: vs) (us := .ref a :: us) F b (hx σ) (hr.mono hk) I2 (.cons rfl r) q2)⟩
theorem takes_fn {P : Program} {w : World} {K : PySem.W.Frag} {mg : Str → Option Value} {base : Heap} {N : List Str} {qual : Str} {scope : Scope} {f : Addr} {cd : Value} {A : Around} {outer : List Env} {s : Shared} {H : Hp} {E : XK} : L2N.Takes (cxOf (L2N.CX P w) P w K mg base N qual scope f cd A outer s H E) (fun cls d _ H' => E cls d H') := L2N.takes_of rfl rfl rfl rfl
end
end Z
set_option Elab.async false
set_option linter.all false
set_option maxRecDepth 100000
set_option maxHeartbeats 4000000
namespace Z
open PySem PySem.Spec PyProof.Rows L2 L2H
/-! ### calls within an except suite -/
section
variable {P : Program} {w : World} {K : PySem.W.Frag} {mg : Str → Option Value} {base : Heap} {x qual : Str} {params : Arguments} {body : List Stmt} {scope : Scope} {dvs : List V} {kws : List (Str × V)} {f : Addr} {fd : FuncData}
theorem fund_okH {N ps : List Str} {k : Nat} {sp : Sp} (F : FunD K x qual params body scope dvs kws f fd) (S : FnScope N ps scope) (len : ∀ vs H Q E, sp vs H Q E → vs.length = ps.length)
    (hbody : ∀ (cdv : Value) (A : Around) (outer : List Env) (s : Shared) (H : Hp) (vs : List V) (Q : VK) (E : XK) (p : Addr × Obj), Hot1 A p → RoomH k (A.deeper (envOfC qual scope s.heap.objs.size f cdv)) → sp vs H Q E →
      ∃ t, PSs (cxH CX0 P w K mg base N qual scope f cdv A outer s H E p) body t ∧ t { nx := fun _ H' => Q .non H', rt := Q } (L2.start N vs) H) : FnH P w K mg base CX0 (k + 1) f fd ps sp := by
  obtain ⟨oc, od, dV, kV, doc, pm, an, cdv, ct, osl, rfl, lk, hcd, _, _⟩ := F.ex
  exact fn_ofH lk hcd S len (hbody cdv)
structure CalH (P : Program) (w : World) (K : PySem.W.Frag) (mg : Str → Option Value) (base : Heap) (k : Nat) (x : Str) (sp : Sp) : Prop where
  ex : ∃ (f : Addr) (fd : FuncData) (ps : List Str), FnH P w K mg base CX0 k f fd ps sp ∧ mg x = some (.ref f) ∧ PySem.W.keepIn K (.ref f) = true ∧ Binds K fd ps []
end
section
variable {X : Cx} {k j : Nat} {x : Str} {sp : Sp} {p pos : Pos} {e : Expr} {es : List Expr} {t : TA}
theorem pe_clH (c : CalH X.prog X.w X.K X.mg X.base k x sp) (hr : RoomH j X.A) (hk : k ≤ j) (hc : HotC X) (hg : Gl X x) (ha : PA X (e :: es) t) (hdb : (x == ("__debug__" : Str)) = false := by decide) (he : starEach (e :: es) X.env = (false, eval e X.env) :: starEach es X.env := by rfl) (hpl : (backTo pos (starEach es X.env)).any (·.1) = false := by rfl) :
    PE X (.Call (.Name x p) (e :: es) [] pos) (tCallS sp (fun _ => E0) t) := by
  obtain ⟨f, fd, ps, F, hm, kp, b⟩ := c.ex
  exact pe_callH F (hr.mono hk) hc hg hm kp b (fun σ _ _ _ _ _ _ h => h.elim) ha hdb he hpl
theorem hotC_suite {a : Addr} {cls : Value} {d : Option Addr} {oe : Obj} {pn : List (Addr × Obj)} (hz : L2N.Zn cls d oe) (hf : ∃ vs, oe.data = .fields vs) : HotC (X.suite a ((a, oe) :: pn)) := by
  obtain ⟨vs, e⟩ := hf
  exact ⟨(a, oe), ⟨rfl, vs, e, hz.2.2 vs e⟩, List.mem_cons_self⟩
theorem room_mark {v : Option Value} {A : Around} (r : Room j A) : RoomH j (A.mark v) := roomH_mark r v
theorem takes0N : L2N.Takes X (fun _ _ _ _ => False) := fun _ _ x => by
  obtain ⟨_, _, _, _, _, _, _, _, _, _, _, _, _, _, _, _, z⟩ := x
  exact z.elim
end
theorem hotC_fn {P : Program} {w : World} {K : PySem.W.Frag} {mg : Str → Option Value} {base : Heap} {CX : CXT} {N : List Str} {qual : Str} {scope : Scope} {f : Addr} {cd : Value} {A : Around} {outer : List Env} {s : Shared} {H : Hp} {E : XK} {p : Addr × Obj} (h : Hot1 A p) : HotC (cxH CX P w K mg base N qual scope f cd A outer s H E p) :=
  ⟨p, ⟨h.1, h.2⟩, List.mem_cons_self⟩
end Z
set_option Elab.async false
set_option linter.all false
set_option maxRecDepth 100000
set_option maxHeartbeats 4000000
namespace Z
open PySem PySem.Spec PyProof.Rows L2 NdefX
/-! ### what the head tells of such a class -/
def oexB (K : PySem.W.Frag) (C : Addr) : Bool := (match K.lookup C with
  | some ⟨.type t, _, .cls cd, sl⟩ => (match cd.mro, sl.toList with
    | .ref D :: bm, [_, _, _, _, some (.builtin n), _] => decide (t = "type") && (decide (D = C) && (decide (n = "ValueError.__new__") && (!cd.hasDel && (cd.hasDict && PySem.HandSPX.refsVE bm))))
    | _, _ => false)
  | _ => false) && (He.eqO (PySem.W.findIn K (.ref C) "__setattr__") (some (some (.builtin "object.__setattr__"))) && (decide (PySem.W.subIn K (.ref C) (.type "BaseException") = some true) && (decide (PySem.W.typeIn K (.ref C) = some (.type "type")) && PySem.W.keepIn K (.ref C))))
theorem oexB_ok {K : PySem.W.Frag} {C : Addr} (h : oexB K C = true) : OexC K C := by
  obtain ⟨h0, h⟩ := He.ba h
  obtain ⟨h1, h⟩ := He.ba h
  obtain ⟨h2, h⟩ := He.ba h
  obtain ⟨h3, h4⟩ := He.ba h
  refine ⟨?_, He.eqO_ok h1, of_decide_eq_true h2, of_decide_eq_true h3, h4⟩
  split at h0
  · next t dd cd sl lk =>
    split at h0
    · next D bm a0 a1 a2 a3 n a5 em es =>
      obtain ⟨g1, h0⟩ := He.ba h0
      obtain ⟨g2, h0⟩ := He.ba h0
      obtain ⟨g3, h0⟩ := He.ba h0
      obtain ⟨g4, h0⟩ := He.ba h0
      obtain ⟨g5, g6⟩ := He.ba h0
      have g1 := of_decide_eq_true g1
      have g2 := of_decide_eq_true g2
      have g3 := of_decide_eq_true g3
      subst g1 g2 g3
      obtain ⟨c1, c2, c3, c4, c5, c6, c7, c8, c9, c10, c11⟩ := cd
      have k3 : c3 = .ref D :: bm := em
      have k4 : c11 = false := by
        have z : (!c11) = true := g4
        cases c11
        · rfl
        · cases z
      have k5 : c6 = true := g5
      clear em g4 g5
      subst k3 k4 k5
      refine ⟨c1, c5, c4, c2, bm, c7, c8, c9, c10, dd, a0, a1, a2, a3, a5, ?_, g6⟩
      rw [lk]
      have : sl = #[a0, a1, a2, a3, some (.builtin "ValueError.__new__"), a5] := by
        apply Array.toList_inj.mp
        rw [es]
      rw [this]
    · cases h0
  · cases h0
def initFd (K : PySem.W.Frag) (C : Addr) : Option FuncData := match K.lookup (He.ma K C "__init__") with
  | some ⟨_, _, .func fd, _⟩ => some fd
  | _ => none
abbrev SupV : Type := Option (Str × Str × Arguments × FuncBody × Scope × Addr × List Str × Value × Addr)
def supObs (K : PySem.W.Frag) (x : Str) : SupV := (initFd K (He.ga K x)).map fun fd => (fd.name, fd.qualname, fd.params, fd.body, fd.scope, fd.globals, fd.closure.map (·.1), fd.defaults, fd.builtins)
def supVal (q : Str) (st : Stmt) : SupV := some ("__init__", q, defArgs st, .stmts (defBody st), defScope st, mainGlobals, ["__class__"], .none, builtinsNs)
def supB (fl : Str) (K : PySem.W.Frag) (C : Addr) (q : Str) : Bool := (match initFd K C with
  | some fd => (match fd.code, fd.closure with
    | .ref c, [(_, cc)] => PySem.W.codeIn K (.ref c) q && ((match K.lookup c with
      | some ⟨_, _, .fields vs, _⟩ => (match (vs[2]? : Option Value) with
        | some (.str file _) => fl == file
        | _ => false)
      | _ => false) && (match K.lookup cc with
      | some ⟨_, _, .cell (some (.ref D)), _⟩ => decide (D = C)
      | _ => false))
    | _, _ => false)
  | none => false) && (decide (PySem.W.mroIn K C (.ref C) = some true) && (He.eqO (PySem.W.nsIn K cStatics "thirdparty.any") (some none) && (He.eqO (PySem.W.ks_superIn K C C "__init__") (some (some (.builtin "ValueError.__init__"))) && (decide (PySem.W.subIn K (.ref C) (.type "ValueError") = some true) && (PySem.W.excInitIn K C He.veBase "ValueError.__new__" && oexB K C)))))
theorem sup_of {P : Program} {K : PySem.W.Frag} {x q fl : Str} {st : Stmt} (h1 : supObs K x = supVal q st) (h2 : supB fl K (He.ga K x) q = true) (hfl : ((P.main.file : Str) == fl) = true) (htop : (P.main.scope.names.lookup ("super" : Str)).isSome = false) :
    ∃ (c cc : Addr) (fd : FuncData) (kV doc pm ct : Value) (an : Option Addr), fd = PySem.W.fnX "__init__" q (defArgs st) (defBody st) (defScope st) [(("__class__" : Str), cc)] .none kV doc pm an (.ref c) ct ∧ SupK P K (He.ga K x) (He.ma K (He.ga K x) "__init__") c cc fd ∧ PySem.W.codeIn K (.ref c) q = true := by
  obtain ⟨g0, h2⟩ := He.ba h2
  obtain ⟨g1, h2⟩ := He.ba h2
  obtain ⟨g2, h2⟩ := He.ba h2
  obtain ⟨g3, h2⟩ := He.ba h2
  obtain ⟨g4, h2⟩ := He.ba h2
  obtain ⟨g5, g6⟩ := He.ba h2
  unfold supObs at h1
  cases e : initFd K (He.ga K x) with
  | none =>
    rw [e] at h1
    cases h1
  | some fd =>
    rw [e] at h1 g0
    have lk : ∃ oc od osl, K.lookup (He.ma K (He.ga K x) "__init__") = some ⟨oc, od, .func fd, osl⟩ := by
      unfold initFd at e
      split at e
      · next oc od fd' osl l =>
        cases e
        exact ⟨_, _, _, l⟩
      · cases e
    obtain ⟨n1, n2, n3, n4, n5, n6, n7, n8, n9, n10, n11, n12, n13, n14, n15⟩ := fd
    have h1 : (some (n1, n2, n3, n4, n5, n6, n7.map (·.1), n8, n15) : SupV) = supVal q st := h1
    unfold supVal at h1
    simp only [Option.some.injEq, Prod.mk.injEq] at h1
    obtain ⟨a1, a2, a3, a4, a5, a6, a7, a8, a9⟩ := h1
    subst a1 a2 a3 a4 a5 a6 a8 a9
    dsimp only at g0
    split at g0
    · next c y cc =>
      obtain ⟨b1, g0⟩ := He.ba g0
      obtain ⟨b2, b3⟩ := He.ba g0
      have ey : y = "__class__" := by
        have := a7
        simpa using this
      subst ey
      refine ⟨c, cc, _, _, _, _, _, _, rfl, ⟨lk, ?_, ?_, htop, of_decide_eq_true g1, He.eqO_ok g2, He.eqO_ok g3, of_decide_eq_true g4, g5, oexB_ok g6⟩, b1⟩
      · split at b2
        · next u1 u2 vs u3 l =>
          split at b2
          · next file tf ev =>
            refine ⟨_, _, vs, _, file, tf, l, ev, ?_⟩
            rw [beq_iff_eq.mp b2] at hfl
            exact hfl
          · cases b2
        · cases b2
      · split at b3
        · next u1 u2 D u3 l =>
          have := of_decide_eq_true b3
          subst this
          exact ⟨_, _, _, l⟩
        · cases b3
    · cases g0
end Z
set_option Elab.async false
set_option linter.all false
set_option maxRecDepth 100000
set_option maxHeartbeats 4000000
namespace Z
open PySem PySem.Spec PyProof.Rows L2 NdefX
/-! ### isinstance(e, c), e a caught error with a dict of its own -/
def rIsX (K : PySem.W.Frag) (a : Addr) (cls : Value) (d : Option Addr) : List V → Hp → VK → Prop := fun xs H Q => ∃ (D dd : Addr) (fs : List (Str × V)) (c : V) (cv : Value) (b : Bool), cls = .ref D ∧ d = some dd ∧ ExcC K D ∧ H dd = some (.xd fs) ∧ xs = [.ref a, c] ∧ (∀ u, RelV c u → u = cv) ∧ PySem.W.kitOne K (.ref D) cv = some b ∧ Q (.bl b) H
theorem call_isX {X : Cx} {a : Addr} {cls : Value} {d : Option Addr} {oe : Obj} {pn : List (Addr × Obj)} (hz : Zc cls d oe) (hf : ∃ vs, oe.data = .fields vs) : CallR (X.suite a ((a, oe) :: pn)) (.builtin "isinstance") (rIsX X.K a cls d) := by
  intro pins s σ H xs us Q I r h
  obtain ⟨D, dd, fs, c, cv, b, rfl, rfl, C, ed, rfl, hcv, e, q⟩ := h
  obtain ⟨u1, u2, rfl, r1, r2⟩ := vals2 r
  cases r1
  have ec := hcv _ r2
  subst ec
  obtain ⟨hget, _⟩ := I.pin (a, oe) (List.mem_append.mpr (.inl List.mem_cons_self))
  obtain ⟨vs, hv⟩ := hf
  have hx : ObjOk X.prog X.w H s.heap dd (.xd fs) := I.hok dd _ ed
  obtain ⟨mA, hns, hr⟩ := hx
  obtain ⟨od, ho, hl⟩ := lookIn_ns hns
  have J : PySem.W.InstAt s.heap a oe D (some od) := ⟨hget, hz.1, by unfold PySem.W.notCls; rw [hv] <;> rfl, by rw [hz.2]; exact ho⟩
  have hcl : (PySem.W.clsIn X.K D).isSome = true := by
    obtain ⟨cd, hc, _⟩ := PySem.W.any_some C.hd
    rw [hc]
    rfl
  exact PySem.W.kia_one (PySem.W.kitx_exc hcl C.hg C.hk C.hs C.ha C.hn C.ht C.hm) I.kIn J e (fun z => nomatch z) fun tk => ⟨.bl b, H, I.kept (t' := tk) fun _ _ z => z, rfl, q⟩
end Z
set_option Elab.async false
set_option linter.all false
set_option maxRecDepth 100000
set_option maxHeartbeats 4000000
namespace Z
open PySem PySem.Spec PyProof.Rows L2 NdefX
/-! ### the head with own exceptions: facts of defs and classes, one more Bool, the __init__s -/
def asX (g : Addr → Option Obj) (n : Nat) : List Addr := He.asD g n ++ [cStatics]
def hookX (n : Nat) (fa : List He.Fa) (fn : List He.DefD) (xs : List Str) (vs : List SupV) (ex : PySem.W.Frag → Bool) : PySem.W.Hook where
  α := He.AlD × (List SupV × Bool)
  obs := fun s => (He.obsD fa fn (He.frG s.heap.get? (asX s.heap.get? n)), xs.map (supObs (He.frG s.heap.get? (asX s.heap.get? n))), ex (He.frG s.heap.get? (asX s.heap.get? n)))
  val := fun _ => (He.valD fn, vs, true)
  says := fun _ h => ∃ K : PySem.W.Frag, K.In h ∧ He.SaysD fa fn K ∧ xs.map (supObs K) = vs ∧ ex K = true
  of := fun _ _ e => ⟨_, He.frG_in, congrArg (fun z : He.AlD × (List SupV × Bool) => z.1) e, congrArg (fun z : He.AlD × (List SupV × Bool) => z.2.1) e, congrArg (fun z : He.AlD × (List SupV × Bool) => z.2.2) e⟩
  keeps := fun _ _ _ ⟨K, hK, c⟩ k => ⟨K, PySem.W.Frag.In.keeps hK k, c⟩
def obX (n : Nat) (fa : List He.Fa) (fn : List He.DefD) (xs : List Str) (ex : PySem.W.Frag → Bool) (g : Addr → Option Obj) : He.AlD × (List SupV × Bool) := (He.obsD fa fn (He.frG g (asX g n)), xs.map (supObs (He.frG g (asX g n))), ex (He.frG g (asX g n)))
theorem obX_eq {n : Nat} {fa : List He.Fa} {fn : List He.DefD} {xs : List Str} {vs : List SupV} {ex : PySem.W.Frag → Bool} {g : Addr → Option Obj} {s : Shared} (h : ∀ a, g a = s.heap.get? a) : obX n fa fn xs ex g = (hookX n fa fn xs vs ex).obs s := by
  have e : g = s.heap.get? := funext h
  rw [e] <;> rfl
theorem sup_at {xs : List Str} {vs : List SupV} {K : PySem.W.Frag} (e : xs.map (supObs K) = vs) (i : Nat) {x : Str} {v : SupV} (h1 : xs[i]? = some x := by rfl) (h2 : vs[i]? = some v := by rfl) : supObs K x = v := by
  have := congrArg (fun z : List SupV => z[i]?) e
  simp only [List.getElem?_map, h1, h2] at this
  exact Option.some.inj this
def excB (K : PySem.W.Frag) (D : Addr) : Bool := He.eqO (PySem.W.findIn K (.ref D) "__getattribute__") (some (some (.builtin "BaseException.__getattribute__"))) && (He.eqO (PySem.W.findIn K (.ref D) "__getattr__") (some none) && (decide (PySem.W.subIn K (.ref D) (.type "BaseException") = some true) && (PySem.W.hasDictIn K D && (He.eqO (PySem.W.findIn K (.ref D) "__class__") (some (some (.builtin "object.__class__"))) && (He.eqO (PySem.W.specialIn K (.builtin "object.__class__") "__get__") (some (some (.builtin "getset_descriptor.__get__"))) && (decide (PySem.W.takesIn K (.builtin "object.__class__") = some true) && decide (PySem.W.mroIn K D (.type "object") = some true)))))))
theorem excB_ok {K : PySem.W.Frag} {D : Addr} (h : excB K D = true) : ExcC K D ∧ XfC K D := by
  obtain ⟨h1, h⟩ := He.ba h
  obtain ⟨h2, h⟩ := He.ba h
  obtain ⟨h3, h⟩ := He.ba h
  obtain ⟨h4, h⟩ := He.ba h
  obtain ⟨h5, h⟩ := He.ba h
  obtain ⟨h6, h⟩ := He.ba h
  obtain ⟨h7, h8⟩ := He.ba h
  exact ⟨⟨He.eqO_ok h1, He.eqO_ok h2, of_decide_eq_true h3, h4, He.eqO_ok h5, He.eqO_ok h6, of_decide_eq_true h7, of_decide_eq_true h8⟩, ⟨He.eqO_ok h1, He.eqO_ok h2, of_decide_eq_true h3, h4⟩⟩
/-- an own exception class with the field -/
def exnB (fl q field : Str) (K : PySem.W.Frag) (C : Addr) : Bool := supB fl K C q && (He.eqO (PySem.W.findIn K (.ref C) "__init__") (some (some (.ref (He.ma K C "__init__")))) && (decide (PySem.W.typeIn K (.ref (He.ma K C "__init__")) = some (.type "function")) && (He.eqO (PySem.W.findIn K (.ref C) field) (some none) && excB K C)))
structure ExnF (K : PySem.W.Frag) (C : Addr) (q field fl : Str) : Prop where
  sup : supB fl K C q = true
  ini : PySem.W.findIn K (.ref C) "__init__" = some (some (.ref (He.ma K C "__init__")))
  ty : PySem.W.typeIn K (.ref (He.ma K C "__init__")) = some (.type "function")
  no : PySem.W.findIn K (.ref C) field = some none
  ec : ExcC K C
  xf : XfC K C
theorem exnB_ok {fl q field : Str} {K : PySem.W.Frag} {C : Addr} (h : exnB fl q field K C = true) : ExnF K C q field fl := by
  obtain ⟨h1, h⟩ := He.ba h
  obtain ⟨h2, h⟩ := He.ba h
  obtain ⟨h3, h⟩ := He.ba h
  obtain ⟨h4, h5⟩ := He.ba h
  exact ⟨h1, He.eqO_ok h2, of_decide_eq_true h3, He.eqO_ok h4, (excB_ok h5).1, (excB_ok h5).2⟩
def exmB (K : PySem.W.Frag) (a b : Addr) : Bool := decide (PySem.W.exmOne K (.ref a) (.ref b) = some true)
def kitVB (K : PySem.W.Frag) (a : Addr) (v : Value) (b : Bool) : Bool := decide (PySem.W.kitOne K (.ref a) v = some b)
end Z
set_option Elab.async false
set_option linter.all false
set_option maxRecDepth 100000
set_option maxHeartbeats 4000000
namespace Z
open PySem PySem.Spec PyProof.Rows L2 NdefX
/-! ### the head with own exceptions and properties: further observations are any functions of the written part -/
def hookY (n : Nat) (fa : List He.Fa) (fn : List He.DefD) (xs : List (PySem.W.Frag → SupV)) (vs : List SupV) (ex : PySem.W.Frag → Bool) : PySem.W.Hook where
  α := He.AlD × (List SupV × Bool)
  obs := fun s => (He.obsD fa fn (He.frG s.heap.get? (asX s.heap.get? n)), xs.map (fun f => f (He.frG s.heap.get? (asX s.heap.get? n))), ex (He.frG s.heap.get? (asX s.heap.get? n)))
  val := fun _ => (He.valD fn, vs, true)
  says := fun _ h => ∃ K : PySem.W.Frag, K.In h ∧ He.SaysD fa fn K ∧ xs.map (fun f => f K) = vs ∧ ex K = true
  of := fun _ _ e => ⟨_, He.frG_in, congrArg (fun z : He.AlD × (List SupV × Bool) => z.1) e, congrArg (fun z : He.AlD × (List SupV × Bool) => z.2.1) e, congrArg (fun z : He.AlD × (List SupV × Bool) => z.2.2) e⟩
  keeps := fun _ _ _ ⟨K, hK, c⟩ k => ⟨K, PySem.W.Frag.In.keeps hK k, c⟩
def obY (n : Nat) (fa : List He.Fa) (fn : List He.DefD) (xs : List (PySem.W.Frag → SupV)) (ex : PySem.W.Frag → Bool) (g : Addr → Option Obj) : He.AlD × (List SupV × Bool) := (He.obsD fa fn (He.frG g (asX g n)), xs.map (fun f => f (He.frG g (asX g n))), ex (He.frG g (asX g n)))
theorem obY_eq {n : Nat} {fa : List He.Fa} {fn : List He.DefD} {xs : List (PySem.W.Frag → SupV)} {vs : List SupV} {ex : PySem.W.Frag → Bool} {g : Addr → Option Obj} {s : Shared} (h : ∀ a, g a = s.heap.get? a) : obY n fa fn xs ex g = (hookY n fa fn xs vs ex).obs s := by
  have e : g = s.heap.get? := funext h
  rw [e] <;> rfl
theorem y_at {xs : List (PySem.W.Frag → SupV)} {vs : List SupV} {K : PySem.W.Frag} (e : xs.map (fun f => f K) = vs) (i : Nat) {f : PySem.W.Frag → SupV} {v : SupV} (h1 : xs[i]? = some f := by rfl) (h2 : vs[i]? = some v := by rfl) : f K = v := by
  have := congrArg (fun z : List SupV => z[i]?) e
  simp only [List.getElem?_map, h1, h2] at this
  exact Option.some.inj this
def isB (K : PySem.W.Frag) (C : Addr) : Bool := He.eqO (PySem.W.findIn K (.ref C) "__class__") (some (some (.builtin "object.__class__"))) && (He.eqO (PySem.W.specialIn K (.builtin "object.__class__") "__get__") (some (some (.builtin "getset_descriptor.__get__"))) && (decide (PySem.W.takesIn K (.builtin "object.__class__") = some true) && (decide (PySem.W.mroIn K C (.type "object") = some true) && decide (PySem.W.kitOne K (.ref C) (.ref C) = some true))))
theorem isB_ok {K : PySem.W.Frag} {C : Addr} (cl : Cls K C) (h : isB K C = true) : C8.InsC K C := by
  obtain ⟨h1, h⟩ := He.ba h
  obtain ⟨h2, h⟩ := He.ba h
  obtain ⟨h3, h⟩ := He.ba h
  obtain ⟨h4, h5⟩ := He.ba h
  exact ⟨cl, He.eqO_ok h1, He.eqO_ok h2, of_decide_eq_true h3, of_decide_eq_true h4, of_decide_eq_true h5⟩
def spB (K : PySem.W.Frag) (C : Addr) (m : Str) : Bool := He.eqO (PySem.W.findIn K (.ref C) m) (some (some (.ref (He.ma K C m)))) && (PySem.W.isFn K (.ref (He.ma K C m)) && PySem.W.fnIn K (He.ma K C m))
theorem spB_ok {K : PySem.W.Frag} {C : Addr} {m : Str} (h : spB K C m = true) : PySem.W.findIn K (.ref C) m = some (some (.ref (He.ma K C m))) ∧ PySem.W.isFn K (.ref (He.ma K C m)) = true ∧ PySem.W.fnIn K (He.ma K C m) = true := by
  obtain ⟨h1, h⟩ := He.ba h
  obtain ⟨h2, h3⟩ := He.ba h
  exact ⟨He.eqO_ok h1, h2, h3⟩
theorem all_at {bs : List Bool} (h : bs.all id = true) (i : Nat) {b : Bool} (e : bs[i]? = some b := by rfl) : b = true := List.all_eq_true.mp h b (List.mem_of_getElem? e)
theorem fnr_ok {P : Program} {w : World} {K : PySem.W.Frag} {mg : Str → Option Value} {base : Heap} {k : Nat} {f : Addr} {fd : FuncData} {ps : List Str} {sp : Sp} (F : FnOk P w K mg base CX0 k f fd ps sp) (b : Binds K fd ps []) : FnR P w K mg base CX0 k f sp := (FnOk.raw (dvs := []) F b .nil).imp fun vs H Q E h => by
  show sp (vs ++ []) H Q E
  rw [List.append_nil]
  exact h
/-! a property's getter -/
def gtA (K : PySem.W.Frag) (C : Addr) (m : Str) : Addr := match PySem.W.recIn K (He.ma K C m) "property" with
  | some (.ref g :: _) => g
  | _ => 0
def fdAt (K : PySem.W.Frag) (g : Addr) : Option FuncData := match K.lookup g with
  | some ⟨_, _, .func fd, _⟩ => some fd
  | _ => none
def propObs (x m : Str) (K : PySem.W.Frag) : SupV := (fdAt K (gtA K (He.ga K x) m)).map fun fd => (fd.name, fd.qualname, fd.params, fd.body, fd.scope, fd.globals, fd.closure.map (·.1), fd.defaults, fd.builtins)
def propVal (m q : Str) (st : Stmt) : SupV := some (m, q, defArgs st, .stmts (defBody st), defScope st, mainGlobals, [], .none, builtinsNs)
def propB (K : PySem.W.Frag) (C : Addr) (m q : Str) : Bool := He.eqO (PySem.W.findIn K (.ref C) m) (some (some (.ref (He.ma K C m)))) && (He.eqO (PySem.W.specialIn K (.ref (He.ma K C m)) "__get__") (some (some (.builtin "property.__get__"))) && (decide (PySem.W.takesIn K (.ref (He.ma K C m)) = some true) && ((match PySem.W.recIn K (He.ma K C m) "property" with
  | some (.ref _ :: _) => true
  | _ => false) && (PySem.W.keepIn K (.ref (gtA K C m)) && (match fdAt K (gtA K C m) with
  | some fd => PySem.W.codeIn K fd.code q && (He.dflB K fd.defaults [] && He.kwdB K fd.kwdefaults [])
  | none => false)))))
theorem prop_of {K : PySem.W.Frag} {x m q : Str} {st : Stmt} (h1 : propObs x m K = propVal m q st) (h2 : propB K (He.ga K x) m q = true) : ∃ fd : FuncData, PropOf K (He.ga K x) m (He.ma K (He.ga K x) m) (gtA K (He.ga K x) m) ∧ FunD K m q (defArgs st) (defBody st) (defScope st) [] [] (gtA K (He.ga K x) m) fd := by
  obtain ⟨g0, h2⟩ := He.ba h2
  obtain ⟨g1, h2⟩ := He.ba h2
  obtain ⟨g2, h2⟩ := He.ba h2
  obtain ⟨g3, h2⟩ := He.ba h2
  obtain ⟨g4, g5⟩ := He.ba h2
  have P : PropOf K (He.ga K x) m (He.ma K (He.ga K x) m) (gtA K (He.ga K x) m) := by
    refine ⟨He.eqO_ok g0, He.eqO_ok g1, of_decide_eq_true g2, ?_⟩
    unfold gtA
    split at g3
    · next g rest e =>
      rw [e]
      exact ⟨rest, rfl⟩
    · cases g3
  unfold propObs at h1
  cases e : fdAt K (gtA K (He.ga K x) m) with
  | none =>
    rw [e] at h1
    cases h1
  | some fd =>
    rw [e] at h1 g5
    have lk : ∃ oc od osl, K.lookup (gtA K (He.ga K x) m) = some ⟨oc, od, .func fd, osl⟩ := by
      unfold fdAt at e
      split at e
      · next oc od fd' osl l =>
        cases e
        exact ⟨_, _, _, l⟩
      · cases e
    obtain ⟨oc, od, osl, lk⟩ := lk
    obtain ⟨n1, n2, n3, n4, n5, n6, n7, n8, n9, n10, n11, n12, n13, n14, n15⟩ := fd
    have h1 : (some (n1, n2, n3, n4, n5, n6, n7.map (·.1), n8, n15) : SupV) = propVal m q st := h1
    unfold propVal at h1
    simp only [Option.some.injEq, Prod.mk.injEq] at h1
    obtain ⟨a1, a2, a3, a4, a5, a6, a7, a8, a9⟩ := h1
    have a7 : n7 = [] := List.map_eq_nil_iff.mp a7
    subst a1 a2 a3 a4 a5 a6 a7 a8 a9
    obtain ⟨k1, k2⟩ := He.ba (show (PySem.W.codeIn K n13 n2 && (He.dflB K .none [] && He.kwdB K n9 [])) = true from g5)
    obtain ⟨k3, k4⟩ := He.ba k2
    exact ⟨_, P, ⟨oc, od, _, n9, n10, n11, n12, n13, n14, osl, rfl, lk, k1, He.dflB_ok k3, He.kwdB_ok k4⟩, g4⟩
end Z
set_option Elab.async false
set_option linter.all false
set_option maxRecDepth 100000
set_option maxHeartbeats 4000000
namespace Z
open PySem PySem.Spec PyProof.Rows L2
/-! ### comprehensions that give ints, over a list of ints and over a range -/
theorem lc_ofs {K : PySem.W.Frag} {J : It} {D : Addr} {n : Nat} {H0 : Hp} {i : Nat} {te : TE} {vs : List Nat} {σ : L2.St} {Qd : Hp → Prop} (g : Nat → Int) (xv : Nat → V) (hn : n ≤ 1000000) (nD : H0 D = none)
    (hgo : ∀ k H1, k < n → Same H0 H1 → J.go k H1) (hst : ∀ H1, Same H0 H1 → J.stop n H1) (hy : ∀ k H1 x H2, k < n → Same H0 H1 → J.yld k H1 x H2 → H2 = H1 ∧ x = xv k)
    (hw : ∀ k, wipe ((wipe σ vs).set i (some (xv k))) vs = wipe σ vs)
    (ht : ∀ k H1 (Q : VK), k < n → Same H0 H1 → (∀ H2, Same H1 H2 → Q (.int (g k)) H2) → te ((wipe σ vs).set i (some (xv k))) H1 Q)
    (hd : ∀ H1, Same H0 H1 → H1 D = some (.lst (((List.range n).map g).map V.int)) → Qd H1) : lcW J (gName i) tYes te vs σ D Qd H0 := by
  refine lc_gen (n := n) (fun k H1 => Same H0 H1 ∧ H1 D = some (.lst (((List.range k).map g).map V.int))) ⟨same_new nD, upd_same⟩ (fun k H1 hk p => hgo k H1 hk p.1) (fun H1 p => hst H1 p.1) ?_ (fun H1 p => hd H1 p.1 p.2)
  rintro k H1 x H2 hk ⟨s, e⟩ y
  obtain ⟨rfl, rfl⟩ := hy k H1 x H2 hk s y
  refine ⟨hw k, ?_⟩
  refine ht k _ _ hk s (fun H3 s3 => ⟨_, s3 _ _ e, ?_, Z.Same.mut (s.trans s3) nD, ?_⟩)
  · rw [List.length_map, List.length_map, List.length_range]
    exact Nat.lt_of_lt_of_le hk (Nat.le_trans hn (by decide))
  · rw [upd_same, List.range_succ, List.map_append, List.map_append]
    rfl
theorem lc_rng {K : PySem.W.Frag} {lo : Int} {D : Addr} {n : Nat} {H0 : Hp} {i : Nat} {te : TE} {vs : List Nat} {σ : L2.St} {Qd : Hp → Prop} (g : Nat → Int) (hn : n ≤ 1000000) (nD : H0 D = none) (hw : ∀ k : Nat, wipe ((wipe σ vs).set i (some (.int (lo + k)))) vs = wipe σ vs)
    (ht : ∀ (k : Nat) H1 (Q : VK), k < n → Same H0 H1 → (∀ H2, Same H1 H2 → Q (.int (g k)) H2) → te ((wipe σ vs).set i (some (.int (lo + k)))) H1 Q)
    (hd : ∀ H1, Same H0 H1 → H1 D = some (.lst (((List.range n).map g).map V.int)) → Qd H1) : lcW (Itr lo n) (gName i) tYes te vs σ D Qd H0 :=
  lc_ofs (K := K) g (fun k => .int (lo + k)) hn nD (fun k H1 hk _ => hk) (fun H1 _ => Nat.le_refl _) (fun k H1 x H2 _ _ y => y) hw ht hd
theorem lc_lst {K : PySem.W.Frag} {a D : Addr} {xs : List Int} {H0 : Hp} {i : Nat} {te : TE} {vs : List Nat} {σ : L2.St} {Qd : Hp → Prop} (hS : SqL K H0 a (xs.map V.int)) (g : Int → Int) (hn : xs.length ≤ 1000000) (nD : H0 D = none) (hw : ∀ x : Int, wipe ((wipe σ vs).set i (some (.int x))) vs = wipe σ vs)
    (ht : ∀ x H1 (Q : VK), x ∈ xs → Same H0 H1 → (∀ H2, Same H1 H2 → Q (.int (g x)) H2) → te ((wipe σ vs).set i (some (.int x))) H1 Q)
    (hd : ∀ H1, Same H0 H1 → H1 D = some (.lst ((xs.map g).map V.int)) → Qd H1) : lcW (Itl K a) (gName i) tYes te vs σ D Qd H0 := by
  have ex : ∀ k, k < xs.length → (xs.map V.int)[k]? = some (.int (xs.getD k 0)) := fun k hk => by
    rw [List.getElem?_map, List.getD_eq_getElem?_getD, List.getElem?_eq_getElem hk]
    rfl
  refine lc_ofs (K := K) (n := xs.length) (fun k => g (xs.getD k 0)) (fun k => .int (xs.getD k 0)) hn nD (fun k H1 hk s => ⟨_, _, s.seq hS, ex k hk⟩) (fun H1 s => ⟨_, s.seq hS, by rw [List.length_map]; exact Nat.le_refl _⟩) (fun k H1 x H2 hk s y => ⟨y.1, Option.some.inj ((y.2 _ (s.seq hS)).symm.trans (ex k hk))⟩) (fun k => hw _) (fun k H1 Q hk s q => ht _ H1 Q ?_ s q) (fun H1 s e => hd H1 s ?_)
  · rw [List.getD_eq_getElem?_getD, List.getElem?_eq_getElem hk]
    exact List.getElem_mem hk
  · rw [e]
    congr 2
    congr 1
    apply List.ext_getElem
    · rw [List.length_map, List.length_map, List.length_range]
    · intro k h1 h2
      rw [List.length_map] at h2
      rw [List.getElem_map, List.getElem_map, List.getElem_range, List.getD_eq_getElem?_getD, List.getElem?_eq_getElem h2]
      rfl
/-- for x in xs, ints -/
theorem for_lst {K : PySem.W.Frag} {a : Addr} {xs : List Int} {H0 H : Hp} {i : Nat} {tb : TS} {D : Ends} {σ : L2.St} (hS : SqL K H0 a (xs.map V.int)) (Pv : Nat → L2.St → Hp → Prop) (h0 : Pv 0 σ H) (hq : ∀ k σ H1, Pv k σ H1 → Same H0 H1)
    (hs : ∀ (k : Nat) (x : Int) (σ : L2.St) (H1 : Hp), xs[k]? = some x → Pv k σ H1 → tb { D with nx := Pv (k + 1), ct := Pv (k + 1), bk := D.nx } (σ.set i (some (.int x))) H1)
    (hd : ∀ σ H1, Pv xs.length σ H1 → D.nx σ H1) : forW (Itl K a) (gName i) tb D σ H := by
  have ex : ∀ k, k < xs.length → (xs.map V.int)[k]? = some (.int (xs.getD k 0)) := fun k hk => by
    rw [List.getElem?_map, List.getD_eq_getElem?_getD, List.getElem?_eq_getElem hk]
    rfl
  refine for_gen (n := xs.length) Pv h0 (fun k σ H1 hk p => ⟨_, _, (hq k σ H1 p).seq hS, ex k hk⟩) (fun σ H1 p => ⟨_, (hq _ σ H1 p).seq hS, by rw [List.length_map]; exact Nat.le_refl _⟩) ?_ hd
  intro k σ H1 x H2 hk p y
  obtain ⟨rfl, e⟩ := y
  have e2 := Option.some.inj ((e _ ((hq k σ _ p).seq hS)).symm.trans (ex k hk))
  subst e2
  refine hs k _ σ _ ?_ p
  rw [List.getD_eq_getElem?_getD, List.getElem?_eq_getElem hk]
  rfl
/-- for x in xs, any values -/
theorem for_vs {K : PySem.W.Frag} {a : Addr} {xs : List V} {H0 H : Hp} {i : Nat} {tb : TS} {D : Ends} {σ : L2.St} (hS : SqL K H0 a xs) (Pv : Nat → L2.St → Hp → Prop) (h0 : Pv 0 σ H) (hq : ∀ k σ H1, Pv k σ H1 → Same H0 H1)
    (hs : ∀ (k : Nat) (x : V) (σ : L2.St) (H1 : Hp), xs[k]? = some x → Pv k σ H1 → tb { D with nx := Pv (k + 1), ct := Pv (k + 1), bk := D.nx } (σ.set i (some x)) H1)
    (hd : ∀ σ H1, Pv xs.length σ H1 → D.nx σ H1) : forW (Itl K a) (gName i) tb D σ H := by
  refine for_gen (n := xs.length) Pv h0 (fun k σ H1 hk p => ⟨_, _, (hq k σ H1 p).seq hS, List.getElem?_eq_getElem hk⟩) (fun σ H1 p => ⟨_, (hq _ σ H1 p).seq hS, Nat.le_refl _⟩) ?_ hd
  intro k σ H1 x H2 hk p y
  obtain ⟨rfl, e⟩ := y
  exact hs k x σ _ (e _ ((hq k σ _ p).seq hS)) p
theorem pe_fld_K {X : Cx} {K : PySem.W.Frag} {e : Expr} {f : Str} {pos : Pos} {ta : TE} (h : X.K = K) (he : PE X e ta) (hb : attributeBase e f X.env (eval e X.env) = eval e X.env) : PE X (.Attribute e f pos) (tFld K ta f) := by
  subst h
  exact pe_fld he hb
/-! ### reads -/
theorem at_nat {xs : List Int} {i : Int} (h0 : 0 ≤ i) (h1 : i < xs.length) : atI (xs.map V.int) i = some (.int (xs.getD i.toNat 0)) := by
  have hk : i.toNat < xs.length := by omega
  rw [show i = ((i.toNat : Nat) : Int) by omega, List.getD_eq_getElem?_getD, Int.toNat_natCast, List.getElem?_eq_getElem hk]
  exact at_map (List.getElem?_eq_getElem hk)
theorem rd_at {K : PySem.W.Frag} {H : Hp} {a : Addr} {xs : List Int} {i : Int} {R : V → Prop} (h : SqL K H a (xs.map V.int)) (h0 : 0 ≤ i) (h1 : i < xs.length) (q : R (.int (xs.getD i.toNat 0))) : ∃ a' ys j v, V.ref a = .ref a' ∧ V.int i = .int j ∧ SqL K H a' ys ∧ atI ys j = some v ∧ R v := ⟨a, _, i, _, rfl, rfl, h, at_nat h0 h1, q⟩
theorem rd_atT {K : PySem.W.Frag} {H : Hp} {a : Addr} {xs : List Int} {i : Int} {R : V → Prop} (h : SqT K H a (xs.map V.int)) (h0 : 0 ≤ i) (h1 : i < xs.length) (q : R (.int (xs.getD i.toNat 0))) : ∃ a' ys j v, V.ref a = .ref a' ∧ V.int i = .int j ∧ SqT K H a' ys ∧ atI ys j = some v ∧ R v := ⟨a, _, i, _, rfl, rfl, h, at_nat h0 h1, q⟩
end Z
set_option Elab.async false
set_option linter.all false
set_option maxRecDepth 100000
set_option maxHeartbeats 4000000
namespace Z
open PySem PySem.Spec PyProof.Rows L2
/-! ### enumerate(x) of one argument: x a list, a tuple or a text -/
theorem enum_new1 {v : Value} {o : Obj} {G : Heap → Prop} (B : Begins v o G) :
    Meets (Builtin.«enumerate.__new__» ⟨[.type "enumerate", v], []⟩) (fun _ R s => G s.heap ∧
      R (.ok (.ret (.ref (s.heap.push o).objs.size))) { s with heap := (s.heap.push o).push { cls := .type "enumerate", data := .fields #[.none, .bool false, .ref s.heap.objs.size, rawInt 0, .none, .none] } }) :=
  .of_wp fun prog w A R s h => by
    obtain ⟨hp, gl, dd, tok, oo⟩ := s
    obtain ⟨g1, h⟩ := h
    have hsub := sub_enumerate
    have step : ∀ {A' : Around} {E : Value → Shared → Prop} {Q : Value → Shared → Prop}, Q (.ref hp.objs.size) ⟨hp.push o, gl, dd, tok, oo⟩ → wpAny (model prog w) A' (pyIter v) Q E ⟨hp, gl, dd, tok, oo⟩ := fun z => B.iter prog w _ _ ⟨hp, gl, dd, tok, oo⟩ _ g1 z
    wp_walk using step
    refine wpAny_stack_any fun _ => wpAny_pure ?_
    split
    · rename_i cc _ _ _ _ _
      cases (cc == Value.type "enumerate") <;>
        (wp_walk using step
         exact ⟨_, rfl, h⟩)
    · wp_walk using step
      exact ⟨_, rfl, h⟩
section
variable {prog : Program} {w : World} {A : Around} {E : Value → Shared → Prop} {s : Shared}
theorem enum_begins1 {v : Value} {o : Obj} {G : Heap → Prop} {Q : Value → Shared → Prop} (B : Begins v o G) (g : G s.heap)
    (h : ∀ h', IsEnum h' (s.heap.objs.size + 1) s.heap.objs.size 0 .none → h'.get? s.heap.objs.size = some o → (∀ b ob, s.heap.get? b = some ob → h'.get? b = some ob) → Q (.ref (s.heap.objs.size + 1)) { s with heap := h' }) :
    wpAny (model prog w) A (call (.type "enumerate") [v]) Q E s := by
  refine callType_new F.called_enumerate (by decide) (F.typeCall_enumerate_1 v) (F.newCall_enumerate_1 v) (fun ob => F.args_object_init_2 ob _) F.entry_enumerate_new (enum_new1 B) ⟨g, ?_⟩
  have sz : (s.heap.push o).objs.size = s.heap.objs.size + 1 := Heap.size_push ..
  show _ ∧ _
  rw [sz]
  have ie : IsEnum ((s.heap.push o).push { cls := .type "enumerate", data := .fields #[.none, .bool false, .ref s.heap.objs.size, rawInt 0, .none, .none] }) (s.heap.objs.size + 1) s.heap.objs.size 0 .none := by
    have z := Heap.get?_push_size (s.heap.push o) (o := { cls := .type "enumerate", data := .fields #[.none, .bool false, .ref s.heap.objs.size, rawInt 0, .none, .none] }) rfl
    rw [sz] at z
    exact z
  exact ⟨⟨_, ie, rfl⟩, h _ ie (Heap.get?_push_of_some _ (Heap.get?_push_size _ B.free)) fun b ob z => Heap.get?_push_of_some _ (Heap.get?_push_of_some _ z)⟩
end
/-- pairs of a turn's number and its item -/
def ItEM (p : Bool) (K : PySem.W.Frag) (a : Addr) : It :=
  ⟨fun i H => ∃ (xs : List V) (x : V), SqK p K H a xs ∧ xs[i]? = some x,
   fun i H v H' => ∃ T x, v = .ref T ∧ H T = none ∧ H' = upd H T (.tup [.int (i : Nat), x]) ∧ (∀ xs, SqK p K H a xs → xs[i]? = some x),
   fun i H => ∃ xs : List V, SqK p K H a xs ∧ xs.length = i⟩
def ItES (z : Str) : It :=
  ⟨fun i _ => i < z.cps.size,
   fun i H v H' => ∃ T c, v = .ref T ∧ H T = none ∧ H' = upd H T (.tup [.int (i : Nat), .str ⟨#[c]⟩]) ∧ z.cps[i]? = some c,
   fun i _ => z.cps.size = i⟩
theorem enum_item {X : Cx} {pins : List (Addr × Obj)} {σ : L2.St} {H : Hp} {s : Shared} {e it : Addr} {fp : List Addr} {n i : Nat} {Pi : Nat → Value → Prop} {Si : Nat → Heap → Prop} {old : Value} {elts : List Expr} {kk : Nat} {tpos : Pos} {E : Value → Shared → Prop}
    (I : Inv X pins σ H s) (hf : ∀ b ∈ [e, it], FpOk X pins H b) (D : Draws X.prog X.w X.A.in1 it fp n Pi Si) (he : IsEnum s.heap e it ((i : Nat) : Int) old) (st : Si i s.heap) (lt : i < n) (ne : e ≠ it) (ef : e ∉ fp)
    (x : V) (ru : ∀ v, Pi i v → L2.RelV x v) :
    wpAny (model X.prog X.w) X.A (pyNext (.ref e)) (fun r s1 => ∃ u, r = some u ∧ wpAny (model X.prog X.w) X.A (letOwnedTupleGo (.Tuple elts kk tpos) (.ref e) u) (fun _ s2 => ∃ T, u = .ref T ∧ H T = none ∧ Inv X pins σ (upd H T (.tup [.int (i : Nat), x])) s2 ∧ (∃ o, IsEnum s2.heap e it ((i + 1 : Nat) : Int) o) ∧ Si (i + 1) s2.heap ∧ ∀ b ∈ [e, it], upd H T (.tup [.int (i : Nat), x]) b = none) E s1) E s := by
  have el : e < s.heap.objs.size := Heap.lt_size he
  have il : it < s.heap.objs.size := by
    obtain ⟨_, z⟩ := D.live _ _ st
    exact Heap.lt_size z
  refine wpAny_pyNext_enum_itemC D he st lt ne ef fun v g tk pv go st' gT gs gk => ?_
  refine ⟨_, rfl, wpAny_letOwnedTupleGo_enum (s := { s with heap := g, toks := tk + 1 }) go fun g2 ge sb => ?_⟩
  have gT2 : g2.get? s.heap.objs.size = some { cls := .type "tuple", data := .seq #[.int i tk, v] } := (sb.2 _ (Nat.ne_of_gt el)).trans gT
  have nw : ObjOk X.prog X.w (upd H s.heap.objs.size (.tup [.int (i : Nat), x])) g2 s.heap.objs.size (.tup [.int (i : Nat), x]) := ⟨by show 2 ≤ sizeLine; decide, [.int i tk, v], .cons ⟨tk, rfl⟩ (.cons (ru v pv) .nil), ⟨_, gT2, rfl, _, rfl⟩⟩
  have I1 : Inv X pins σ (upd H s.heap.objs.size (.tup [.int (i : Nat), x])) { s with heap := g2, toks := tk + 1 } :=
    I.turnedNew (t' := tk + 1) (ch := [e, it]) (fun b ob nb z => (sb.2 b (fun w => nb (by simp [w]))).trans (gk b ob (fun w => nb (by simp [w])) (fun w => nb (by simp [w])) z)) hf (Nat.le_refl _) nw
  refine ⟨_, rfl, I.hok.fresh (Nat.le_refl _), I1, ⟨v, ?_⟩, D.frame _ _ _ st' fun b hb o z => (sb.2 b fun w => ef (w ▸ hb)).trans z, fun b hb => ?_⟩
  · rw [show ((i + 1 : Nat) : Int) = (i : Int) + 1 by omega]
    exact ge
  · have lb : b < s.heap.objs.size := by
      rcases (show b = e ∨ b = it by simpa using hb) with z | z
      · rw [z]
        exact el
      · rw [z]
        exact il
    rw [upd_ne (Nat.ne_of_lt lb)]
    exact (hf b hb).1
theorem enum_done {X : Cx} {pins : List (Addr × Obj)} {σ : L2.St} {H : Hp} {s : Shared} {e it : Addr} {fp : List Addr} {n : Nat} {Pi : Nat → Value → Prop} {Si : Nat → Heap → Prop} {old : Value} {c : Int} {E : Value → Shared → Prop}
    (I : Inv X pins σ H s) (hf : ∀ b ∈ [e, it], FpOk X pins H b) (D : Draws X.prog X.w X.A.in1 it fp n Pi Si) (he : IsEnum s.heap e it c old) (st : Si n s.heap) :
    wpAny (model X.prog X.w) X.A (pyNext (.ref e)) (fun r s1 => r = none ∧ Inv X pins σ H s1) E s := by
  obtain ⟨f0, f1, f2, f3, f4, f5⟩ := hf it (by simp)
  exact wpAny_pyNext_enum_endD D he st fun g gk => ⟨rfl, I.turned (t' := s.toks) (fun b o hb z => gk b o hb z) f0 f1 f3 f4 f5⟩
theorem turn_enumM {p : Bool} {P : Program} {w : World} {K : PySem.W.Frag} {elts : List Expr} {kk : Nat} {tpos : Pos} (a e it : Addr) (ea : e ≠ a) (ia : a ≠ it) :
    Turn P w K (.Tuple elts kk tpos) (ItEM p K a) [e, it] e (fun i h => (∃ old, IsEnum h e it ((i : Nat) : Int) old) ∧ ItK p h it a i ∧ e ≠ it) where
  mem := by simp
  obj := fun i h st b hb => by
    obtain ⟨⟨old, he⟩, hi, _⟩ := st
    rcases (show b = e ∨ b = it by simpa using hb) with z | z
    · rw [z]
      exact ⟨_, he, fun v q => nomatch q⟩
    · rw [z]
      exact hi.obj
  keep := fun i h h' st k => by
    obtain ⟨⟨old, he⟩, hi, ne⟩ := st
    exact ⟨⟨old, k e (by simp) _ he⟩, hi.at' (fun o z => k it (by simp) o z), ne⟩
  item := by
    intro X hP hw hK hc i pins s σ H E I hf st hg
    subst hP hw hK
    obtain ⟨⟨old, he⟩, hi, ne⟩ := st
    obtain ⟨xs, x, qx, ex⟩ := hg
    obtain ⟨us, rx, kx, _⟩ := sqk_is I qx
    obtain ⟨u, eu, ru⟩ := rx.get ex
    have lu : i < us.toArray.size := by simpa using (List.getElem?_eq_some_iff.mp eu).1
    have hh : X.A.in1.handled = none := I.ok.hd hc
    have key : ∀ v, us.toArray[i]? = some v → L2.RelV x v := fun v pv => by
      have t1 : us.toArray[i]? = some u := by simpa using eu
      have t2 : u = v := Option.some.inj (t1.symm.trans pv)
      exact t2 ▸ ru
    refine thn (enum_item (elts := elts) (kk := kk) (tpos := tpos) (E := E) I hf (drawsK p hh it a ia us.toArray) he ⟨hi, kx⟩ lu ne (by simp [ne, ea]) x key) fun r s1 hr => ?_
    obtain ⟨v, er, hv⟩ := hr
    refine ⟨v, er, thn hv fun _ s2 z => ?_⟩
    obtain ⟨T, eT, nT, I2, ie, si, fr⟩ := z
    subst eT
    exact ⟨.ref T, _, I2, rfl, ⟨T, x, rfl, nT, rfl, fun l hl => by rw [sqk_inj I hl qx]; exact ex⟩, ⟨ie, si.1, ne⟩, fr⟩
  done := by
    intro X hP hw hK hc i pins s σ H E I hf st hg
    subst hP hw hK
    obtain ⟨⟨old, he⟩, hi, ne⟩ := st
    obtain ⟨xs, qx, el⟩ := hg
    obtain ⟨us, rx, kx, _⟩ := sqk_is I qx
    have lx := rx.length
    have hh : X.A.in1.handled = none := I.ok.hd hc
    have hn : us.toArray.size = i := by
      rw [List.size_toArray]
      omega
    exact enum_done I hf (drawsK p hh it a ia us.toArray) he (by rw [hn]; exact ⟨hi, kx⟩)
  self := fun A i s Q E st h => by
    obtain ⟨⟨_, he⟩, _⟩ := st
    exact wpAny_pyIter_enum he h
def iEnumM (K : PySem.W.Frag) (ta : TA) : TI := fun σ H R => ta σ H fun vs H1 => ∃ p a xs, vs = [.ref a] ∧ SqK p K H1 a xs ∧ R (ItEM p K a) H1
theorem pi_enumM {X : Cx} {e : Expr} {ta : TA} {p pos tpos : Pos} {elts : List Expr} {kk : Nat} (hg : Gl X "enumerate") (hm : X.mg "enumerate" = none) (ha : PA X [e] ta) (hs : starEach [e] X.env = [(false, eval e X.env)] := by rfl) :
    PI X (.Tuple elts kk tpos) (.Call (.Name "enumerate" p) [e] [] pos) (iEnumM X.K ta) := by
  constructor
  intro pins s σ H R I h
  refine Call_ (ld_blt I hg hm PyProof.Rows.boot_enumerate (PyProof.Rows.callWith_type1 (thn (ha.run pos pins s σ H _ I h) fun us s1 ⟨vs, H1, I1, r1, q1⟩ => ?_) hs rfl))
  obtain ⟨k1, a, xs, ex, qx, q⟩ := q1
  subst ex
  cases r1 with
  | cons r rr =>
    cases rr
    cases r
    obtain ⟨i1, _, p1, lt1⟩ := sqk_is I1 qx
    obtain ⟨o1, G1, B1, g1, w1⟩ := begK p1
    refine enum_begins1 B1 g1 fun h' he e1 hk => wpAny_pyIter_enum he ?_
    have I2 : Inv X pins σ H1 { s1 with heap := h' } := I1.kept (t' := s1.toks) hk
    refine ⟨s1.heap.objs.size + 1, [s1.heap.objs.size + 1, s1.heap.objs.size], _, _, H1, rfl, I2, turn_enumM a (s1.heap.objs.size + 1) s1.heap.objs.size (Nat.ne_of_gt (Nat.lt_succ_of_lt lt1)) (Nat.ne_of_lt lt1), ⟨⟨.none, he⟩, w1 _ _ e1, Nat.succ_ne_self _⟩, fun b hb => ?_, q⟩
    have lb : s1.heap.objs.size ≤ b := by
      rcases (show b = s1.heap.objs.size + 1 ∨ b = s1.heap.objs.size by simpa using hb) with z | z
      · rw [z]
        exact Nat.le_add_right _ _
      · rw [z]
        exact Nat.le_refl _
    exact I1.fpOk lb (I1.hok.fresh lb)
/-! over a text -/
theorem drawsS {prog : Program} {w : World} {A : Around} (hh : A.handled = none) (it : Addr) (z : Str) (t : Tok) :
    Draws prog w A it [it] z.cps.size (fun i v => ∃ c u, z.cps[i]? = some c ∧ v = .str ⟨#[c]⟩ u) (fun i h => h.IsStrIter it (strIterType z) z t i) := by
  unfold strIterType
  cases z.cps.all (· < 128)
  · exact Draws.strWide hh it z t
  · exact Draws.strAscii hh it z t
theorem turn_enumS {P : Program} {w : World} {K : PySem.W.Frag} {elts : List Expr} {kk : Nat} {tpos : Pos} (z : Str) (t : Tok) (e it : Addr) :
    Turn P w K (.Tuple elts kk tpos) (ItES z) [e, it] e (fun i h => (∃ old, IsEnum h e it ((i : Nat) : Int) old) ∧ h.IsStrIter it (strIterType z) z t i ∧ e ≠ it) where
  mem := by simp
  obj := fun i h st b hb => by
    obtain ⟨⟨old, he⟩, ⟨o, eo, _, d⟩, _⟩ := st
    rcases (show b = e ∨ b = it by simpa using hb) with y | y
    · rw [y]
      exact ⟨_, he, fun v q => nomatch q⟩
    · rw [y]
      exact ⟨o, eo, fun v q => by rw [d] at q; cases q⟩
  keep := fun i h h' st k => by
    obtain ⟨⟨old, he⟩, ⟨o, eo, r⟩, ne⟩ := st
    exact ⟨⟨old, k e (by simp) _ he⟩, ⟨o, k it (by simp) o eo, r⟩, ne⟩
  item := by
    intro X hP hw hK hc i pins s σ H E I hf st hg
    subst hP hw hK
    obtain ⟨⟨old, he⟩, hi, ne⟩ := st
    have lt : i < z.cps.size := hg
    have hh : X.A.in1.handled = none := I.ok.hd hc
    have ec : z.cps[i]? = some z.cps[i] := Array.getElem?_eq_getElem lt
    refine thn (enum_item (elts := elts) (kk := kk) (tpos := tpos) (E := E) I hf (drawsS hh it z t) he hi lt ne (by simp [ne]) (.str ⟨#[z.cps[i]]⟩) (fun v pv => ?_)) fun r s1 hr => ?_
    · obtain ⟨c, u, e1, e2⟩ := pv
      rw [ec] at e1
      cases e1
      subst e2
      exact ⟨u, rfl⟩
    obtain ⟨v, er, hv⟩ := hr
    refine ⟨v, er, thn hv fun _ s2 y => ?_⟩
    obtain ⟨T, eT, nT, I2, ie, si, fr⟩ := y
    subst eT
    exact ⟨.ref T, _, I2, rfl, ⟨T, _, rfl, nT, rfl, ec⟩, ⟨ie, si, ne⟩, fr⟩
  done := by
    intro X hP hw hK hc i pins s σ H E I hf st hg
    subst hP hw hK
    obtain ⟨⟨old, he⟩, hi, ne⟩ := st
    have el : z.cps.size = i := hg
    have hh : X.A.in1.handled = none := I.ok.hd hc
    exact enum_done I hf (drawsS hh it z t) he (by rw [el]; exact hi)
  self := fun A i s Q E st h => by
    obtain ⟨⟨_, he⟩, _⟩ := st
    exact wpAny_pyIter_enum he h
def iEnumS (ta : TA) : TI := fun σ H R => ta σ H fun vs H1 => ∃ z, vs = [.str z] ∧ R (ItES z) H1
theorem pi_enumS {X : Cx} {e : Expr} {ta : TA} {p pos tpos : Pos} {elts : List Expr} {kk : Nat} (hg : Gl X "enumerate") (hm : X.mg "enumerate" = none) (ha : PA X [e] ta) (hs : starEach [e] X.env = [(false, eval e X.env)] := by rfl) :
    PI X (.Tuple elts kk tpos) (.Call (.Name "enumerate" p) [e] [] pos) (iEnumS ta) := by
  constructor
  intro pins s σ H R I h
  refine Call_ (ld_blt I hg hm PyProof.Rows.boot_enumerate (PyProof.Rows.callWith_type1 (thn (ha.run pos pins s σ H _ I h) fun us s1 ⟨vs, H1, I1, r1, q1⟩ => ?_) hs rfl))
  obtain ⟨z, ex, q⟩ := q1
  subst ex
  cases r1 with
  | cons r rr =>
    cases rr
    obtain ⟨t, rfl⟩ := r
    refine enum_begins1 (begins_text z t) trivial fun h' he e1 hk => wpAny_pyIter_enum he ?_
    have I2 : Inv X pins σ H1 { s1 with heap := h' } := I1.kept (t' := s1.toks) hk
    refine ⟨s1.heap.objs.size + 1, [s1.heap.objs.size + 1, s1.heap.objs.size], _, _, H1, rfl, I2, turn_enumS z t (s1.heap.objs.size + 1) s1.heap.objs.size, ⟨⟨.none, he⟩, ⟨_, e1, rfl, rfl⟩, Nat.succ_ne_self _⟩, fun b hb => ?_, q⟩
    have lb : s1.heap.objs.size ≤ b := by
      rcases (show b = s1.heap.objs.size + 1 ∨ b = s1.heap.objs.size by simpa using hb) with y | y
      · rw [y]
        exact Nat.le_add_right _ _
      · rw [y]
        exact Nat.le_refl _
    exact I1.fpOk lb (I1.hok.fresh lb)
end Z
set_option Elab.async false
set_option linter.all false
set_option maxRecDepth 100000
set_option maxHeartbeats 4000000
namespace Z
open PySem PySem.Spec PyProof.Rows L2
/-! ### walks over a list (true) or a tuple (false) -/
inductive SeqOr (A B : Prop) : Prop
  | l : A → SeqOr A B
  | r : B → SeqOr A B
def iSeq (K : PySem.W.Frag) (tl : TE) : TI := fun σ H R => SeqOr (iList K tl σ H R) (iTup K tl σ H R)
theorem pi_sq {X : Cx} {tg l : Expr} {tl : TE} (he : PE X l tl) : PI X tg l (iSeq X.K tl) := by
  constructor
  intro pins s σ H R I h
  rcases h with h | h
  · exact (pi_list he).run pins s σ H R I h
  · exact (pi_tup he).run pins s σ H R I h
theorem pi_sq_K {X : Cx} {K : PySem.W.Frag} {tg l : Expr} {tl : TE} (h : X.K = K) (he : PE X l tl) : PI X tg l (iSeq K tl) := by
  subst h
  exact pi_sq he
theorem pi_list_K {X : Cx} {K : PySem.W.Frag} {tg l : Expr} {tl : TE} (h : X.K = K) (he : PE X l tl) : PI X tg l (iList K tl) := by
  subst h
  exact pi_list he
theorem pi_tup_K {X : Cx} {K : PySem.W.Frag} {tg l : Expr} {tl : TE} (h : X.K = K) (he : PE X l tl) : PI X tg l (iTup K tl) := by
  subst h
  exact pi_tup he
def ItQ (b : Bool) (K : PySem.W.Frag) (a : Addr) : It := match b with
  | true => Itl K a
  | false => Itt K a
theorem itq_go {b : Bool} {K : PySem.W.Frag} {H : Hp} {a : Addr} {xs : List V} {i : Nat} {x : V} (h : SqK b K H a xs) (e : xs[i]? = some x) : (ItQ b K a).go i H := by
  cases b <;> exact ⟨_, _, h, e⟩
theorem itq_stop {b : Bool} {K : PySem.W.Frag} {H : Hp} {a : Addr} {xs : List V} {i : Nat} (h : SqK b K H a xs) (e : xs.length ≤ i) : (ItQ b K a).stop i H := by
  cases b <;> exact ⟨_, h, e⟩
theorem itq_yld {b : Bool} {K : PySem.W.Frag} {H H' : Hp} {a : Addr} {xs : List V} {i : Nat} {x : V} (h : SqK b K H a xs) (y : (ItQ b K a).yld i H x H') : H' = H ∧ xs[i]? = some x := by
  cases b <;> exact ⟨y.1, y.2 _ h⟩
theorem rd_sq {b : Bool} {K : PySem.W.Frag} {σ : L2.St} {H : Hp} {i : Nat} {a : Addr} {xs : List V} {R : It → Hp → Prop} (e : σ[i]? = some (some (.ref a))) (h : SqK b K H a xs) (r : R (ItQ b K a) H) : iSeq K (tVar i) σ H R := by
  cases b
  · exact .r ⟨_, e, a, rfl, ⟨xs, h⟩, r⟩
  · exact .l ⟨_, e, a, rfl, ⟨xs, h⟩, r⟩
theorem lc_sq {b : Bool} {K : PySem.W.Frag} {a D : Addr} {xs : List Int} {H0 : Hp} {i : Nat} {te : TE} {vs : List Nat} {σ : L2.St} {Qd : Hp → Prop} (hS : SqK b K H0 a (xs.map V.int)) (g : Int → Int) (hn : xs.length ≤ 1000000) (nD : H0 D = none) (hw : ∀ x : Int, wipe ((wipe σ vs).set i (some (.int x))) vs = wipe σ vs)
    (ht : ∀ x H1 (Q : VK), x ∈ xs → Same H0 H1 → (∀ H2, Same H1 H2 → Q (.int (g x)) H2) → te ((wipe σ vs).set i (some (.int x))) H1 Q)
    (hd : ∀ H1, Same H0 H1 → H1 D = some (.lst ((xs.map g).map V.int)) → Qd H1) : lcW (ItQ b K a) (gName i) tYes te vs σ D Qd H0 := by
  have ex : ∀ k, k < xs.length → (xs.map V.int)[k]? = some (.int (xs.getD k 0)) := fun k hk => by
    rw [List.getElem?_map, List.getD_eq_getElem?_getD, List.getElem?_eq_getElem hk]
    rfl
  refine lc_ofs (K := K) (n := xs.length) (fun k => g (xs.getD k 0)) (fun k => .int (xs.getD k 0)) hn nD (fun k H1 hk s => itq_go (Z.Same.sqK s hS) (ex k hk)) (fun H1 s => itq_stop (Z.Same.sqK s hS) (by rw [List.length_map]; exact Nat.le_refl _)) (fun k H1 x H2 hk s y => ?_) (fun k => hw _) (fun k H1 Q hk s q => ht _ H1 Q ?_ s q) (fun H1 s e => hd H1 s ?_)
  · obtain ⟨e1, e2⟩ := itq_yld (Z.Same.sqK s hS) y
    exact ⟨e1, Option.some.inj (e2.symm.trans (ex k hk))⟩
  · rw [List.getD_eq_getElem?_getD, List.getElem?_eq_getElem hk]
    exact List.getElem_mem hk
  · rw [e]
    congr 2
    congr 1
    apply List.ext_getElem
    · rw [List.length_map, List.length_map, List.length_range]
    · intro k h1 h2
      rw [List.length_map] at h2
      rw [List.getElem_map, List.getElem_map, List.getElem_range, List.getD_eq_getElem?_getD, List.getElem?_eq_getElem h2]
      rfl
/-- for x in xs, any values -/
theorem for_sq {b : Bool} {K : PySem.W.Frag} {a : Addr} {xs : List V} {H0 H : Hp} {i : Nat} {tb : TS} {D : Ends} {σ : L2.St} (hS : SqK b K H0 a xs) (Pv : Nat → L2.St → Hp → Prop) (h0 : Pv 0 σ H) (hq : ∀ k σ H1, Pv k σ H1 → Same H0 H1)
    (hs : ∀ (k : Nat) (x : V) (σ : L2.St) (H1 : Hp), xs[k]? = some x → Pv k σ H1 → tb { D with nx := Pv (k + 1), ct := Pv (k + 1), bk := D.nx } (σ.set i (some x)) H1)
    (hd : ∀ σ H1, Pv xs.length σ H1 → D.nx σ H1) : forW (ItQ b K a) (gName i) tb D σ H := by
  refine for_gen (n := xs.length) Pv h0 (fun k σ H1 hk p => itq_go (Z.Same.sqK (hq k σ H1 p) hS) (List.getElem?_eq_getElem hk)) (fun σ H1 p => itq_stop (Z.Same.sqK (hq _ σ H1 p) hS) (Nat.le_refl _)) ?_ hd
  intro k σ H1 x H2 hk p y
  obtain ⟨rfl, e⟩ := itq_yld (Z.Same.sqK (hq k σ H1 p) hS) y
  exact hs k x σ _ e p
/-- for i, x in enumerate(xs) -/
theorem for_enum {b : Bool} {K : PySem.W.Frag} {a : Addr} {xs : List V} {H0 H : Hp} {i j : Nat} {tb : TS} {D : Ends} {σ : L2.St} (hS : SqK b K H0 a xs) (Pv : Nat → L2.St → Hp → Prop) (h0 : Pv 0 σ H) (hq : ∀ k σ H1, Pv k σ H1 → Same H0 H1)
    (hs : ∀ (k : Nat) (x : V) (σ : L2.St) (H1 H2 : Hp), xs[k]? = some x → Pv k σ H1 → Same H1 H2 → tb { D with nx := Pv (k + 1), ct := Pv (k + 1), bk := D.nx } ((σ.set i (some (.int (k : Nat)))).set j (some x)) H2)
    (hd : ∀ σ H1, Pv xs.length σ H1 → D.nx σ H1) : forW (ItEM b K a) (gTup K 2 (gCons (gName i) (gCons (gName j) gNil))) tb D σ H := by
  refine for_gen (n := xs.length) Pv h0 (fun k σ H1 hk p => ⟨xs, _, Z.Same.sqK (hq k σ H1 p) hS, List.getElem?_eq_getElem hk⟩) (fun σ H1 p => ⟨xs, Z.Same.sqK (hq _ σ H1 p) hS, rfl⟩) ?_ hd
  intro k σ H1 x H2 hk p y
  obtain ⟨T, z, rfl, nT, rfl, e⟩ := y
  exact ⟨T, _, rfl, SqT.of upd_same, rfl, _, _, rfl, _, _, rfl, rfl, hs k z σ H1 _ (e _ (Z.Same.sqK (hq k σ H1 p) hS)) p (same_new nT)⟩
/-- for i, c in enumerate(text) -/
theorem for_enumS {K : PySem.W.Frag} {z : Str} {H : Hp} {i j : Nat} {tb : TS} {D : Ends} {σ : L2.St} (Pv : Nat → L2.St → Hp → Prop) (h0 : Pv 0 σ H)
    (hs : ∀ (k : Nat) (c : Nat) (σ : L2.St) (H1 H2 : Hp), z.cps[k]? = some c → Pv k σ H1 → Same H1 H2 → tb { D with nx := Pv (k + 1), ct := Pv (k + 1), bk := D.nx } ((σ.set i (some (.int (k : Nat)))).set j (some (.str ⟨#[c]⟩))) H2)
    (hd : ∀ σ H1, Pv z.cps.size σ H1 → D.nx σ H1) : forW (ItES z) (gTup K 2 (gCons (gName i) (gCons (gName j) gNil))) tb D σ H := by
  refine for_gen (n := z.cps.size) Pv h0 (fun k σ H1 hk p => hk) (fun σ H1 p => rfl) ?_ hd
  intro k σ H1 x H2 hk p y
  obtain ⟨T, c, rfl, nT, rfl, e⟩ := y
  exact ⟨T, _, rfl, SqT.of upd_same, rfl, _, _, rfl, _, _, rfl, rfl, hs k c σ H1 _ e p (same_new nT)⟩
/-! ### built-ins within a comprehension's block -/
theorem cr_min_K {X : Cx} {K : PySem.W.Frag} (h : X.K = K) (hc : X.calm = true) : CallR X (.builtin "min") (rMin K) := by
  subst h
  exact cr_min hc
theorem cr_max_K {X : Cx} {K : PySem.W.Frag} (h : X.K = K) (hc : X.calm = true) : CallR X (.builtin "max") (rMax K) := by
  subst h
  exact cr_max hc
theorem cr_sum_K {X : Cx} {K : PySem.W.Frag} (h : X.K = K) (hc : X.calm = true) : CallR X (.builtin "sum") (rSum K) := by
  subst h
  exact cr_sum hc
theorem cr_all_K {X : Cx} {K : PySem.W.Frag} (h : X.K = K) (hc : X.calm = true) : CallR X (.builtin "all") (rAll K) := by
  subst h
  exact cr_all hc
theorem cr_any_K {X : Cx} {K : PySem.W.Frag} (h : X.K = K) (hc : X.calm = true) : CallR X (.builtin "any") (rAny K) := by
  subst h
  exact cr_any hc
/-! ### comprehensions with a test, any values -/
def fltL (kb : Nat → Bool) (g : Nat → V) (n : Nat) : List V := ((List.range n).filter kb).map g
theorem flt_succ (kb : Nat → Bool) (g : Nat → V) (n : Nat) : fltL kb g (n + 1) = fltL kb g n ++ (if kb n then [g n] else []) := by
  unfold fltL
  rw [List.range_succ, List.filter_append, List.map_append]
  cases e : kb n <;> simp [e]
theorem flt_len (kb : Nat → Bool) (g : Nat → V) (n : Nat) : (fltL kb g n).length ≤ n := by
  unfold fltL
  rw [List.length_map]
  exact Nat.le_trans (List.length_filter_le ..) (by rw [List.length_range]; exact Nat.le_refl _)
theorem lc_flt {J : It} {D : Addr} {n : Nat} {H0 : Hp} {i : Nat} {tt : TT} {te : TE} {vs : List Nat} {σ : L2.St} {Qd : Hp → Prop} (xv : Nat → V) (kb : Nat → Bool) (g : Nat → V) (hn : n ≤ 1000000) (nD : H0 D = none)
    (hgo : ∀ k H1, k < n → Same H0 H1 → J.go k H1) (hst : ∀ H1, Same H0 H1 → J.stop n H1) (hy : ∀ k H1 x H2, k < n → Same H0 H1 → J.yld k H1 x H2 → Same H1 H2 ∧ x = xv k)
    (hw : ∀ k, wipe ((wipe σ vs).set i (some (xv k))) vs = wipe σ vs)
    (hb : ∀ k H1 (Q : Bool → Hp → Prop), k < n → Same H0 H1 → (∀ H2, Same H1 H2 → Q (kb k) H2) → tt ((wipe σ vs).set i (some (xv k))) H1 Q)
    (ht : ∀ k H1 (Q : VK), k < n → kb k = true → Same H0 H1 → (∀ H2, Same H1 H2 → Q (g k) H2) → te ((wipe σ vs).set i (some (xv k))) H1 Q)
    (hd : ∀ H1, Same H0 H1 → H1 D = some (.lst (fltL kb g n)) → Qd H1) : lcW J (gName i) tt te vs σ D Qd H0 := by
  refine lc_gen (n := n) (fun k H1 => Same H0 H1 ∧ H1 D = some (.lst (fltL kb g k))) ⟨same_new nD, upd_same⟩ (fun k H1 hk p => hgo k H1 hk p.1) (fun H1 p => hst H1 p.1) ?_ (fun H1 p => hd H1 p.1 p.2)
  rintro k H1 x H2 hk ⟨s, e⟩ y
  obtain ⟨s2, rfl⟩ := hy k H1 x H2 hk s y
  refine ⟨hw k, ?_⟩
  refine hb k _ _ hk (s.trans s2) (fun H3 s3 => ?_)
  cases eb : kb k
  · rw [if_neg (by decide)]
    refine ⟨s.trans (s2.trans s3), ?_⟩
    rw [flt_succ, eb]
    simpa using s3 _ _ (s2 _ _ e)
  · rw [if_pos rfl]
    refine ht k _ _ hk eb (s.trans (s2.trans s3)) (fun H4 s4 => ⟨_, s4 _ _ (s3 _ _ (s2 _ _ e)), ?_, Z.Same.mut (s.trans (s2.trans (s3.trans s4))) nD, ?_⟩)
    · exact Nat.lt_of_le_of_lt (flt_len kb g k) (Nat.lt_of_lt_of_le hk (Nat.le_trans hn (by decide)))
    · rw [upd_same, flt_succ, eb]
      rfl
end Z
set_option Elab.async false
set_option linter.all false
set_option maxRecDepth 100000
set_option maxHeartbeats 4000000
namespace Z
open PySem PySem.Spec PyProof.Rows L2
/-! ### o.f as one of several targets -/
theorem asg_attr {M : Model} {A : Around} {E : Value → Shared → Prop} {s : Shared} {o : Expr} {attr : Str} {pos : Pos} {env : Env} {v : Value} {Q : Unit → Shared → Prop}
    (h : wpAny M A (eval o env) (fun ov s2 => wpAny M A (setAttr ov attr v) (fun _ => Q ()) E s2) E s) : wpAny M A (assign (.Attribute o attr pos) env v) Q E s := fun Γ p hΓ => by
  simp only [assign_Attribute, Sem.wp_bind', Sem.wp_holding, Sem.wp_cmd_standAt, Sem.wp_release, Sem.wp_pure']
  exact Sem.wp_mono M Γ _ (fun ov _ s2 h2 => h2 Γ _ hΓ) (fun _ _ _ z => z) _ _ (h Γ _ hΓ)
def gFld (K : PySem.W.Frag) (ta : TE) (f : Str) : TG := fun v σ H Q => ta σ H fun x H1 => ∃ a C dx fs, x = .ref a ∧ H1 a = some (.ins C dx fs) ∧ Cls K C ∧ NoAttr K C f ∧ fs.length < 1000 ∧ Q σ (upd H1 a (.ins C dx (putF f v fs)))
theorem pg_fld {X : Cx} {o : Expr} {f : Str} {pos : Pos} {ta : TE} (ha : PE X o ta) : PG X (.Attribute o f pos) (gFld X.K ta f) := by
  constructor
  intro pins s σ H v u Q I r h
  refine asg_attr (thn (ha.run pins s σ H _ I h) fun ov s1 ⟨x, H1, I1, rx, a, C, dx, fs, ex, ea, c, n, l, q⟩ => ?_)
  subst ex
  obtain rfl : ov = Value.ref a := rx
  exact setattr_ok I1 ea c n l r fun s2 I2 => ⟨σ, _, I2, q⟩
/-! ### a if c else b as a test -/
def tIfT (tc ta tb : TT) : TT := fun σ H Q => tc σ H fun k H1 => if k = true then ta σ H1 Q else tb σ H1 Q
theorem pt_ifExp {X : Cx} {c a b : Expr} {pos : Pos} {tc ta tb : TT} (hc : PT X c tc) (ha : PT X a ta) (hb : PT X b tb) : PT X (.IfExp c a b pos) (tIfT tc ta tb) := by
  constructor
  intro pins s σ H Q I h
  refine PyProof.Rows.isTrue_IfExp (thn (hc.run pins s σ H _ I h) fun d s1 ⟨H1, I1, q1⟩ => ?_)
  cases d with
  | true => exact ha.run pins s1 σ H1 Q I1 q1
  | false => exact hb.run pins s1 σ H1 Q I1 q1
end Z
set_option Elab.async false
set_option linter.all false
set_option maxRecDepth 100000
set_option maxHeartbeats 4000000
namespace Z
open PySem PySem.Spec PyProof PyProof.Rows L2 F
/-! ### len(x), x an instance of a class with __len__ -/
structure LenO (P : Program) (w : World) (K : PySem.W.Frag) (mg : Str → Option Value) (base : Heap) (k : Nat) (C : Addr) (sp : Sp) : Prop where
  ex : ∃ (f : Addr) (fd : FuncData) (ps : List Str), FnOk P w K mg base CX0 k f fd ps sp ∧ PySem.W.findIn K (.ref C) "__len__" = some (some (.ref f)) ∧ PySem.W.isFn K (.ref f) = true ∧ Binds K fd ps []
def rLenO (C : Addr) (sp : Sp) : List V → Hp → VK → Prop := fun xs H Q => ∃ a dx fs, xs = [.ref a] ∧ H a = some (.ins C dx fs) ∧ sp [.ref a] H (fun v H' => ∃ n : Int, v = .int n ∧ 0 ≤ n ∧ n < 2 ^ 63 ∧ Q (.int n) H') E0
theorem call_lenO {X : Cx} {k j : Nat} {C : Addr} {sp : Sp} (c : LenO X.prog X.w X.K X.mg X.base k C sp) (hr : Room j X.A) (hk : k + 1 ≤ j) : CallR X (.builtin "len") (rLenO C sp) := by
  intro pins s σ H xs us Q I r h
  obtain ⟨f, fd, ps, F, hs, hf, hb⟩ := c.ex
  obtain ⟨a, dx, fs, rfl, ha, q⟩ := h
  obtain ⟨u, rfl, ru⟩ := vals1 r
  obtain rfl : u = Value.ref a := ru
  obtain ⟨mA, J, _⟩ := ins_get I.hok ha
  obtain ⟨od, J, _⟩ := J.look
  refine Calls.call_function_entry kind_len plain_len entry_len (args_len1 _) ?_
  unfold Builtin.«len»
  refine wpAny_bind (m := oneArg "len" _) (wpAny_pure ?_)
  have e0 : Env0 X.prog X.w X.K X.mg X.base X.A.in1 X.stack s H := by
    have e := I.env0
    exact ⟨e.frames, e.mod, e.bs, e.bsz, e.funs, e.frf, e.hok, e.bare⟩
  refine wpAny_bind (m := callSpecial? (.ref a) (PySem.Str.ofString "__len__")) (PySem.W.special_fn (name := "__len__") (args := []) I.kIn J hs (beq_iff_eq.mp hf) ?_)
  have hl := F.len _ _ _ _ q
  refine wpAny_call (codeAny_mono (F.run X.A.in1 X.stack s H ⟨[.ref a], []⟩ [.ref a] [.ref a] _ E0 (hr.mono hk).in1 e0 (by
    have := hb s [.ref a] I.kIn (by simpa using hl)
    simpa using this) (.cons rfl .nil) q) fun r s' hq => ?_)
  cases r with
  | error e => exact pass0 pins σ H s e s' I hq
  | ok fl =>
    cases fl with
    | next => exact False.elim hq
    | brk => exact False.elim hq
    | cont => exact False.elim hq
    | ret u =>
      obtain ⟨v, H1, I1, rv, n, rfl, h0, h1, q1⟩ := I.after hq
      obtain ⟨t, rfl⟩ := rv
      refine wpAny_bind (wpAny_holding (wpAny_pure ?_))
      refine wpAny_bind (wpAny_letGo ?_)
      show wpAny _ _ (if n < 0 then _ else _) _ _ _
      rw [if_neg (by omega)]
      show wpAny _ _ (if n ≥ 2 ^ 63 then _ else _) _ _ _
      rw [if_neg (by omega)]
      exact wpAny_bind (wpAny_mkInt (wpAny_pure ⟨_, rfl, .int n, H1, I1.tok _, ⟨_, rfl⟩, q1⟩))
end Z
set_option Elab.async false
set_option linter.all false
set_option maxRecDepth 100000
set_option maxHeartbeats 4000000
namespace L2N
open PySem PySem.Spec PyProof.Rows L2
/-! ### several clauses `except c as n` -/
/-- a clause: its class, the slot of its name, its suite's reading -/
abbrev Cl := Value × Nat × (Addr → Value → Option Addr → TS)
def wManyA (K : PySem.W.Frag) (Wout : WX) (D : Ends) : List Cl → WX
  | [] => Wout
  | h :: r => wAs K h.1 h.2.1 h.2.2 (wManyA K Wout D r) D
inductive HdsA (X : Cx) : List ExceptHandler → List Cl → Prop
  | nil : HdsA X [] []
  | cons {x n : Str} {c : Value} {i : Nat} {ts : Addr → Value → Option Addr → TS} {b₀ : Stmt} {suite : List Stmt} {np pos' : Pos} {hds : List ExceptHandler} {l : List Cl} (hi : X.N[i]? = some n) (hln : X.env.kindOf n = some .local) (hc : Names X x c)
      (hsu : ∀ (a : Addr) (oe : Obj) (cls : Value) (d : Option Addr) (pn : List (Addr × Obj)), Zn cls d oe → (∃ vs, oe.data = .fields vs) → PSs (X.suite a ((a, oe) :: pn)) (b₀ :: suite) (ts a cls d)) (r : HdsA X hds l) :
      HdsA X (.ExceptHandler (some (.Name x np)) (some n) (b₀ :: suite) pos' :: hds) ((c, i, ts) :: l)
section
variable {X : Cx} {body : List Stmt} {h₀ : ExceptHandler} {hds : List ExceptHandler} {l : List Cl} {pos : Pos} {tb : WX → TS} {Wout : WX}
theorem ps_try_manyA (hs : X.stack = X.env :: X.outer) (hf : X.env.frame = some X.env.locals) (hN : X.N.Nodup) (tk : Takes X Wout)
    (hb : ∀ (W : WX) (pn : List (Addr × Obj)) (xe : Value → Shared → Prop), Takes (X.tr pn xe) W → PassesOwn (model X.prog X.w) X.A X.env xe → PSs (X.tr pn xe) body (tb W))
    (hh : HdsA X (h₀ :: hds) l) : PS X (.Try body (h₀ :: hds) [] [] pos) (fun D σ H => tb (wManyA X.K Wout D l) D σ H) := by
  refine ⟨fun pins s σ H D I h => ?_⟩
  have ok := I.ok
  have hfr : X.A.frames = some (X.env :: X.outer) := by rw [ok.frames, hs]
  have calm : ∀ (f : Flow) (s1 : Shared) , SP (X.tr (X.pn ++ pins) (fun e s₁ => wpAny (model X.prog X.w) X.A (noteFrame e X.env) (fun _ s₂ => wpAny (model X.prog X.w) X.A (setFlight e none) (fun _ s₃ =>
      wpAny (model X.prog X.w) X.A (handleBy e X.env (h₀ :: hds)) (SP X pins D) X.xe s₃) X.xe s₂) X.xe s₁)) [] D f s1 → SP X pins D f s1 := fun f s1 hsp => by
    cases f with
    | next =>
      obtain ⟨σ', H', J', q⟩ := hsp
      exact ⟨σ', H', J'.ofTry ok, q⟩
    | brk =>
      obtain ⟨σ', H', J', q⟩ := hsp
      exact ⟨σ', H', J'.ofTry ok, q⟩
    | cont =>
      obtain ⟨σ', H', J', q⟩ := hsp
      exact ⟨σ', H', J'.ofTry ok, q⟩
    | ret u =>
      obtain ⟨v, σ', H', J', r, q⟩ := hsp
      exact ⟨v, σ', H', J'.ofTry ok, r, q⟩
  refine wpAny_Try_except ?_
  refine wpAny_mono ((hb (wManyA X.K Wout D l) (X.pn ++ pins) (fun e s₁ => wpAny (model X.prog X.w) X.A (noteFrame e X.env) (fun _ s₂ => wpAny (model X.prog X.w) X.A (setFlight e none) (fun _ s₃ =>
    wpAny (model X.prog X.w) X.A (handleBy e X.env (h₀ :: hds)) (SP X pins D) X.xe s₃) X.xe s₂) X.xe s₁) (fun u s' xx => ?_) PassesOwn.looking).run [] s σ H D (I.toTry _) h) (fun f s1 hsp => ?_) (fun e s1 he => he)
  · obtain ⟨a, B, sI, pins', σ', H', cls, d, rfl, J', nb, up, sky, na, os, ag, w⟩ := xx
    have J : Inv X pins σ' H' sI := J'.ofTry ok
    have sky' : Sky B (X.env :: X.outer) a (Zn cls d) X.env.locals s'.heap := by rw [← hs]; exact sky
    show wpAny (model X.prog X.w) X.A (noteFrame (.ref a) X.env) _ _ _
    refine Sky.land Zn.steady hfr hf sky' fun h3 fl3 up3 => ?_
    have J3 : Inv X pins σ' H' { s' with heap := h3 } := J.landed nb fl3.1 (up.trans up3) os ag
    obtain ⟨oe3, vs3, he3, hz3, hd3⟩ := fl3.there
    have nfr : a ∉ frs (X.env :: X.outer) := fun hm => by
      obtain ⟨_, o', e', hnf⟩ := fl3.2.2.1.mem hm
      rw [he3] at e'
      cases e'
      exact hnf _ hd3
    have nL : a ≠ X.env.locals := fun z => nfr (List.mem_filterMap.mpr ⟨X.env, List.mem_cons_self, by rw [hf, z]⟩)
    have nF : a ∉ X.fs := fun hm => by
      obtain ⟨e, he, q⟩ := List.mem_filterMap.mp hm
      exact nfr (List.mem_filterMap.mpr ⟨e, List.mem_cons_of_mem _ he, q⟩)
    have S3 := J3.suite he3 hd3 na nL nF
    have go : ∀ {hds' : List ExceptHandler} {l' : List Cl}, HdsA X hds' l' → wManyA X.K Wout D l' cls d σ' H' →
        wpAny (model X.prog X.w) X.A (handleBy (.ref a) X.env hds') (SP X pins D) X.xe { s' with heap := h3 } := by
      intro hds' l' hk
      induction hk with
      | nil =>
        intro w
        refine wpAny_handleBy_nil ?_
        obtain ⟨k1, k2, k3, oe, vs, T, oT, ts', he, hz, hd, h1, hr⟩ := id fl3
        unfold PySem.passOn
        refine wpAny_bind (wpAny_field he hd h1 ?_)
        rw [if_neg (show ¬ ((Value.ref T == Value.none) = true) from by simp)]
        have fin : wpAny (model X.prog X.w) X.A (setFlight (.ref a) X.env.frame) (fun _ s4 => wpAny (model X.prog X.w) X.A (throw (.ref a) : Sem Flow) (SP X pins D) X.xe s4) X.xe { s' with heap := h3 } := by
          rw [hf]
          refine HandSPX.setFlight_upZ fl3 fun h4 hh4 up4 => wpAny_throw (tk _ _ ?_)
          exact ⟨a, B, sI, pins, σ', H', cls, d, rfl, J, nb, (up.trans up3).trans up4, .inr (.inr (by rw [hs]; exact hh4)), na, os, ag, w⟩
        first
          | exact wpAny_bind (wpAny_pure (wpAny_bind fin))
          | exact wpAny_bind fin
      | @cons x n c i ts b₀ suite np pos' hds2 l2 hi hln hc hsu r ih =>
        intro w
        obtain ⟨b, hb1, hyes, hno⟩ := w
        have hloc : Loc X.env.scope n := .inl hln
        refine wpAny_handleBy_cons (codeAny_handlers_test ?_) (by intro q; cases q)
        have LT : PySem.W.Looks (model X.prog X.w) h3 (typeOf (.ref a)) cls := fun A Q E s k q => wpAny_typeOf_ref (k _ _ he3) (by rw [hz3.1]; exact q)
        have LM := PySem.W.exm_one (M := model X.prog X.w) (J3.kIn) LT hb1
        have test : ∀ {Q : Value → Shared → Prop} {E : Value → Shared → Prop}, Q c { s' with heap := h3 } → wpAny (model X.prog X.w) (X.A.mark (some (.ref a))) (eval (.Name x np) X.env) Q E { s' with heap := h3 } := fun {Q E} q => by
          obtain ⟨hg, hdbg, hm | ⟨hm, hv, hnn⟩⟩ := hc
          · exact ld_glob (X := X.suite a ((a, oe3) :: (X.pn ++ pins))) S3 hg hm q hdbg
          · exact ld_blt (X := X.suite a ((a, oe3) :: (X.pn ++ pins))) S3 hg hm hv q hnn hdbg
        refine test (LM.here ?_)
        cases b with
        | true =>
          refine codeAny_handlers_suite_as ?_
          refine HandSPX.lands_againZ fl3 fun h4 fl4 up4 => ?_
          have J4 : Inv X pins σ' H' { s' with heap := h4 } := J.landed nb fl4.1 ((up.trans up3).trans up4) os ag
          obtain ⟨oe4, vs4, he4, hz4, hd4⟩ := fl4.there
          have S4 := J4.suite he4 hd4 na nL nF
          refine store_ok (X := X.suite a ((a, oe4) :: (X.pn ++ pins))) (v := .ref a) S4 hN hi hloc rfl (fun s5 S5 => ?_) (.inr hln)
          refine wpAny_mono ((hsu a oe4 cls d (X.pn ++ pins) hz4 ⟨_, hd4⟩).run [] s5 _ H' _ S5 (hyes rfl a na)) (fun f s6 hsp => ?_) (fun _ _ z => False.elim z)
          have end_ : ∀ {σ6 : L2.St} {H6 : Hp} {Q : Shared → Prop}, Inv (X.suite a ((a, oe4) :: (X.pn ++ pins))) [] σ6 H6 s6 → (∀ s7, Inv X pins (σ6.set i none) H6 s7 → Q s7) →
              wpAny (model X.prog X.w) X.A (do bindName X.env n .none; unbindBehindTheSuite X.env n pos') (fun _ s7 => Q s7) X.xe s6 := fun {σ6 H6 Q} S6 hq => gone_ok (S6.unsuite ok) hN hi hln hq
          cases f with
          | next =>
            obtain ⟨σ6, H6, S6, q6⟩ := hsp
            exact end_ S6 fun s7 J7 => ⟨_, _, J7, q6⟩
          | brk =>
            obtain ⟨σ6, H6, S6, q6⟩ := hsp
            exact end_ S6 fun s7 J7 => ⟨_, _, J7, q6⟩
          | cont =>
            obtain ⟨σ6, H6, S6, q6⟩ := hsp
            exact end_ S6 fun s7 J7 => ⟨_, _, J7, q6⟩
          | ret u =>
            obtain ⟨v6, σ6, H6, S6, r6, q6⟩ := hsp
            exact end_ S6 fun s7 J7 => ⟨_, _, _, J7, r6, q6⟩
        | false =>
          show wpAny _ X.A (handleBy (.ref a) X.env hds2) _ _ _
          exact ih (hno rfl)
    exact go hh w
  · cases f with
    | next => exact wpAny_execs_nil (calm .next s1 hsp)
    | brk => exact calm .brk s1 hsp
    | cont => exact calm .cont s1 hsp
    | ret u => exact calm (.ret u) s1 hsp
end
end L2N
set_option linter.all false
namespace Ru
/-! ### rulings: the mathematics (no program) -/
/-- none: open; some (true, r): upheld in round r; some (false, r): refused in round r -/
abbrev St := Nat → Option (Bool × Nat)
def refu (S : St) (q : Nat) : Bool := match S q with
  | some (false, _) => true
  | _ => false
def uphe (S : St) (q : Nat) : Bool := match S q with
  | some (true, _) => true
  | _ => false
def one (C : Nat → List Nat) (k : Nat) (S : St) : St := fun p => if (S p).isNone && (C p).all (refu S) then some (true, k) else S p
def two (C : Nat → List Nat) (k : Nat) (S : St) : St := fun p => if (S p).isNone && (C p).any (uphe S) then some (false, k) else S p
def rnd (C : Nat → List Nat) : Nat → St
  | 0 => fun _ => none
  | k + 1 => two C (k + 1) (one C (k + 1) (rnd C k))
theorem refu_iff {S : St} {q : Nat} : refu S q = true ↔ ∃ r, S q = some (false, r) := by
  unfold refu
  split
  · rename_i r e
    exact ⟨fun _ => ⟨r, e⟩, fun _ => rfl⟩
  · rename_i h
    exact ⟨fun z => (by cases z), fun ⟨r, e⟩ => absurd e (h r)⟩
theorem uphe_iff {S : St} {q : Nat} : uphe S q = true ↔ ∃ r, S q = some (true, r) := by
  unfold uphe
  split
  · rename_i r e
    exact ⟨fun _ => ⟨r, e⟩, fun _ => rfl⟩
  · rename_i h
    exact ⟨fun z => (by cases z), fun ⟨r, e⟩ => absurd e (h r)⟩
theorem one_keep {C : Nat → List Nat} {k : Nat} {S : St} {p : Nat} {x : Bool × Nat} (h : S p = some x) : one C k S p = some x := by
  unfold one
  rw [h]
  rfl
theorem two_keep {C : Nat → List Nat} {k : Nat} {S : St} {p : Nat} {x : Bool × Nat} (h : S p = some x) : two C k S p = some x := by
  unfold two
  rw [h]
  rfl
theorem one_cases {C : Nat → List Nat} {k : Nat} {S : St} {p : Nat} : (one C k S p = S p ∧ (S p = none → ¬ (C p).all (refu S) = true)) ∨ (S p = none ∧ (C p).all (refu S) = true ∧ one C k S p = some (true, k)) := by
  unfold one
  cases e : S p with
  | some x => exact .inl ⟨rfl, fun z => by cases z⟩
  | none =>
    cases h : (C p).all (refu S) with
    | true => exact .inr ⟨rfl, rfl, rfl⟩
    | false => exact .inl ⟨rfl, fun _ z => by cases z⟩
theorem two_cases {C : Nat → List Nat} {k : Nat} {S : St} {p : Nat} : (two C k S p = S p ∧ (S p = none → ¬ (C p).any (uphe S) = true)) ∨ (S p = none ∧ (C p).any (uphe S) = true ∧ two C k S p = some (false, k)) := by
  unfold two
  cases e : S p with
  | some x => exact .inl ⟨rfl, fun z => by cases z⟩
  | none =>
    cases h : (C p).any (uphe S) with
    | true => exact .inr ⟨rfl, rfl, rfl⟩
    | false => exact .inl ⟨rfl, fun _ z => by cases z⟩
/-- what holds behind k rounds -/
structure Iv (C : Nat → List Nat) (k : Nat) (S : St) : Prop where
  up : ∀ p r, S p = some (true, r) → 1 ≤ r ∧ r ≤ k ∧ (∀ q ∈ C p, ∃ t, t < r ∧ S q = some (false, t)) ∧ (r = 1 ∨ ∃ q ∈ C p, S q = some (false, r - 1))
  re : ∀ p r, S p = some (false, r) → 1 ≤ r ∧ r ≤ k ∧ (∃ q ∈ C p, S q = some (true, r)) ∧ ∀ q ∈ C p, ∀ t, S q = some (true, t) → r ≤ t
  op : ∀ p, S p = none → 1 ≤ k → (∀ q ∈ C p, ∀ t, S q ≠ some (true, t)) ∧ ¬ ∀ q ∈ C p, ∃ t, t < k ∧ S q = some (false, t)
theorem iv_zero (C : Nat → List Nat) : Iv C 0 (rnd C 0) :=
  ⟨fun p r h => (by cases h), fun p r h => (by cases h), fun p _ h => by omega⟩
theorem iv_step {C : Nat → List Nat} {k : Nat} {S : St} (I : Iv C k S) : Iv C (k + 1) (two C (k + 1) (one C (k + 1) S)) := by
  have keep : ∀ {p x}, S p = some x → two C (k + 1) (one C (k + 1) S) p = some x := fun h => two_keep (one_keep h)
  -- what is upheld behind both passes
  have upw : ∀ q t, two C (k + 1) (one C (k + 1) S) q = some (true, t) → one C (k + 1) S q = some (true, t) := fun q t h => by
    rcases two_cases (C := C) (k := k + 1) (S := one C (k + 1) S) (p := q) with ⟨e, _⟩ | ⟨_, _, e⟩
    · rw [← e, h]
    · rw [e] at h
      cases h
  have upo : ∀ q t, one C (k + 1) S q = some (true, t) → S q = some (true, t) ∨ (S q = none ∧ t = k + 1 ∧ (C q).all (refu S) = true) := fun q t h => by
    rcases one_cases (C := C) (k := k + 1) (S := S) (p := q) with ⟨e, _⟩ | ⟨e1, e2, e3⟩
    · exact .inl (by rw [← e, h])
    · rw [e3] at h
      cases h
      exact .inr ⟨e1, rfl, e2⟩
  -- what is refused
  have rew : ∀ q t, two C (k + 1) (one C (k + 1) S) q = some (false, t) → S q = some (false, t) ∨ (S q = none ∧ t = k + 1 ∧ (C q).any (uphe (one C (k + 1) S)) = true) := fun q t h => by
    rcases two_cases (C := C) (k := k + 1) (S := one C (k + 1) S) (p := q) with ⟨e, _⟩ | ⟨e1, e2, e3⟩
    · rw [h] at e
      rcases one_cases (C := C) (k := k + 1) (S := S) (p := q) with ⟨f, _⟩ | ⟨_, _, f⟩
      · exact .inl (by rw [← f, ← e])
      · rw [f] at e
        cases e
    · rw [e3] at h
      cases h
      refine .inr ⟨?_, rfl, e2⟩
      rcases one_cases (C := C) (k := k + 1) (S := S) (p := q) with ⟨f, _⟩ | ⟨f, _, _⟩
      · rw [← f, e1]
      · exact f
  refine ⟨fun p r h => ?_, fun p r h => ?_, fun p h _ => ?_⟩
  · rcases upo p r (upw p r h) with e | ⟨e1, rfl, e2⟩
    · obtain ⟨a1, a2, a3, a4⟩ := I.up p r e
      refine ⟨a1, by omega, fun q hq => ?_, ?_⟩
      · obtain ⟨t, h1, h2⟩ := a3 q hq
        exact ⟨t, h1, keep h2⟩
      · rcases a4 with a | ⟨q, hq, e⟩
        · exact .inl a
        · exact .inr ⟨q, hq, keep e⟩
    · have all := List.all_eq_true.mp e2
      refine ⟨by omega, by omega, fun q hq => ?_, ?_⟩
      · obtain ⟨t, ht⟩ := refu_iff.mp (all q hq)
        have := (I.re q t ht).2.1
        exact ⟨t, by omega, keep ht⟩
      · by_cases c : k = 0
        · exact .inl (by omega)
        · refine .inr ?_
          have nx := (I.op p e1 (by omega)).2
          apply Classical.byContradiction
          intro z
          refine nx fun q hq => ?_
          obtain ⟨t, ht⟩ := refu_iff.mp (all q hq)
          have := (I.re q t ht).2.1
          refine ⟨t, ?_, ht⟩
          apply Classical.byContradiction
          intro w
          obtain rfl : t = k := by omega
          exact z ⟨q, hq, by rw [show t + 1 - 1 = t by omega]; exact keep ht⟩
  · rcases rew p r h with e | ⟨e1, rfl, e2⟩
    · obtain ⟨a1, a2, ⟨q, hq, a3⟩, a4⟩ := I.re p r e
      refine ⟨a1, by omega, ⟨q, hq, keep a3⟩, fun q hq t ht => ?_⟩
      rcases upo q t (upw q t ht) with f | ⟨_, rfl, _⟩
      · exact a4 q hq t f
      · omega
    · obtain ⟨q, hq, hu⟩ := List.any_eq_true.mp e2
      obtain ⟨t, ht⟩ := uphe_iff.mp hu
      have only : ∀ q ∈ C p, ∀ t, one C (k + 1) S q = some (true, t) → t = k + 1 := fun q hq t ht => by
        rcases upo q t ht with f | ⟨_, e, _⟩
        · by_cases c : k = 0
          · have := (I.up q t f)
            omega
          · exact absurd f ((I.op p e1 (by omega)).1 q hq t)
        · exact e
      refine ⟨by omega, by omega, ⟨q, hq, ?_⟩, fun q hq t ht => ?_⟩
      · have e3 := only q hq t ht
        rw [e3] at ht
        exact two_keep ht
      · rw [only q hq t (upw q t ht)]
        omega
  · -- open
    rcases two_cases (C := C) (k := k + 1) (S := one C (k + 1) S) (p := p) with ⟨e, n2⟩ | ⟨_, _, e⟩
    · rw [h] at e
      rcases one_cases (C := C) (k := k + 1) (S := S) (p := p) with ⟨f, n1⟩ | ⟨_, _, f⟩
      · have e0 : S p = none := by rw [← f, ← e]
        refine ⟨fun q hq t ht => n2 e.symm (List.any_eq_true.mpr ⟨q, hq, uphe_iff.mpr ⟨t, upw q t ht⟩⟩), fun z => n1 e0 (List.all_eq_true.mpr fun q hq => ?_)⟩
        obtain ⟨t, h1, h2⟩ := z q hq
        rcases rew q t h2 with g | ⟨_, g, _⟩
        · exact refu_iff.mpr ⟨t, g⟩
        · omega
      · rw [f] at e
        cases e
    · rw [e] at h
      cases h
theorem iv_rnd (C : Nat → List Nat) : ∀ k, Iv C k (rnd C k)
  | 0 => iv_zero C
  | k + 1 => iv_step (iv_rnd C k)
/-- what the law asks -/
structure Fin (C : Nat → List Nat) (n : Nat) (S : St) : Prop where
  up : ∀ p r, S p = some (true, r) → 1 ≤ r ∧ (∀ q ∈ C p, ∃ t, t < r ∧ S q = some (false, t)) ∧ (r = 1 ∨ ∃ q ∈ C p, S q = some (false, r - 1))
  re : ∀ p r, S p = some (false, r) → 1 ≤ r ∧ (∃ q ∈ C p, S q = some (true, r)) ∧ ∀ q ∈ C p, ∀ t, S q = some (true, t) → r ≤ t
  op : ∀ p, p < n → S p = none → (∀ q ∈ C p, ∀ t, S q ≠ some (true, t)) ∧ ¬ ∀ q ∈ C p, ∃ t, S q = some (false, t)
/-- round k settles no paper below n -/
def Quiet (C : Nat → List Nat) (n k : Nat) : Prop := ∀ p, p < n → ∀ b, rnd C k p ≠ some (b, k)
theorem fin_quiet {C : Nat → List Nat} {n k : Nat} (hC : ∀ p, p < n → ∀ q ∈ C p, q < n) (k1 : 1 ≤ k) (h : Quiet C n k) : Fin C n (rnd C k) := by
  have I := iv_rnd C k
  refine ⟨fun p r e => ?_, fun p r e => ?_, fun p hp e => ?_⟩
  · obtain ⟨a, _, b⟩ := I.up p r e
    exact ⟨a, b⟩
  · obtain ⟨a, _, b⟩ := I.re p r e
    exact ⟨a, b⟩
  · obtain ⟨a, b⟩ := I.op p e k1
    refine ⟨a, fun z => b fun q hq => ?_⟩
    obtain ⟨t, ht⟩ := z q hq
    have h1 := (I.re q t ht).2.1
    have h2 : t ≠ k := fun w => h q (hC p hp q hq) false (by rw [ht, w])
    exact ⟨t, by omega, ht⟩
theorem fin_full {C : Nat → List Nat} {n k : Nat} (h : ∀ p, p < n → rnd C k p ≠ none) : Fin C n (rnd C k) := by
  have I := iv_rnd C k
  refine ⟨fun p r e => ?_, fun p r e => ?_, fun p hp e => absurd e (h p hp)⟩
  · obtain ⟨a, _, b⟩ := I.up p r e
    exact ⟨a, b⟩
  · obtain ⟨a, _, b⟩ := I.re p r e
    exact ⟨a, b⟩
def many (n : Nat) (S : St) : Nat := ((List.range n).filter fun p => (S p).isSome).length
theorem many_le {n : Nat} {S T : St} (h : ∀ p x, S p = some x → T p = some x) : many n S ≤ many n T := by
  unfold many
  induction n with
  | zero => exact Nat.le_refl _
  | succ n ih =>
    rw [List.range_succ, List.filter_append, List.filter_append, List.length_append, List.length_append]
    cases e : S n with
    | none =>
      simp [e]
      omega
    | some x =>
      have := h n x e
      simp [e, this]
      exact ih
theorem many_lt {n : Nat} {S T : St} (h : ∀ p x, S p = some x → T p = some x) {p : Nat} (hp : p < n) (h1 : S p = none) (h2 : T p ≠ none) : many n S < many n T := by
  induction n with
  | zero => omega
  | succ n ih =>
    have e1 : ∀ U : St, many (n + 1) U = many n U + (if (U n).isSome then 1 else 0) := fun U => by
      unfold many
      rw [List.range_succ, List.filter_append, List.length_append]
      cases e : U n <;> simp [e]
    rw [e1, e1]
    by_cases c : p = n
    · subst c
      have := many_le (n := p) h
      rw [h1]
      cases e : T p with
      | none => exact absurd e h2
      | some x =>
        simp
        omega
    · have := ih (by omega)
      cases e : S n with
      | none =>
        simp
        split <;> omega
      | some x =>
        rw [h n x e]
        simp
        omega
theorem many_top {n : Nat} {S : St} (h : n ≤ many n S) : ∀ p, p < n → S p ≠ none := by
  induction n with
  | zero => intro p hp; omega
  | succ n ih =>
    have e1 : many (n + 1) S = many n S + (if (S n).isSome then 1 else 0) := by
      unfold many
      rw [List.range_succ, List.filter_append, List.length_append]
      cases e : S n <;> simp [e]
    have e2 : many n S ≤ n := by
      unfold many
      exact Nat.le_trans (List.length_filter_le ..) (by rw [List.length_range]; exact Nat.le_refl _)
    rw [e1] at h
    cases e : S n with
    | none =>
      rw [e] at h
      simp at h
      omega
    | some x =>
      rw [e] at h
      simp at h
      intro p hp
      by_cases c : p = n
      · subst c
        rw [e]
        exact fun z => by cases z
      · exact ih h p (by omega)
theorem rnd_keep {C : Nat → List Nat} {k p : Nat} {x : Bool × Nat} (h : rnd C k p = some x) : rnd C (k + 1) p = some x := two_keep (one_keep h)
/-- a round that settles a paper settles a new one -/
theorem rnd_new {C : Nat → List Nat} {k p : Nat} {b : Bool} (h : rnd C (k + 1) p = some (b, k + 1)) : rnd C k p = none := by
  cases e : rnd C k p with
  | none => rfl
  | some x =>
    have e2 := rnd_keep e
    rw [h] at e2
    cases e2
    have I := iv_rnd C k
    cases b with
    | true =>
      have := (I.up p _ e).2.1
      omega
    | false =>
      have := (I.re p _ e).2.1
      omega
theorem fin_loop {C : Nat → List Nat} {n : Nat} (h : ∀ k, 1 ≤ k → k ≤ n → ¬ Quiet C n k) : Fin C n (rnd C n) := by
  have key : ∀ k, k ≤ n → k ≤ many n (rnd C k) := fun k => by
    induction k with
    | zero => intro _; exact Nat.zero_le _
    | succ k ih =>
      intro hk
      have h1 := ih (by omega)
      have h2 : ∃ p, p < n ∧ ∃ b, rnd C (k + 1) p = some (b, k + 1) := by
        apply Classical.byContradiction
        intro z
        exact h (k + 1) (by omega) hk fun p hp b e => z ⟨p, hp, b, e⟩
      obtain ⟨p, hp, b, e⟩ := h2
      have := many_lt (n := n) (S := rnd C k) (T := rnd C (k + 1)) (fun q x hx => rnd_keep hx) hp (rnd_new e) (by rw [e]; exact fun z => by cases z)
      omega
  exact fin_full (many_top (key n (Nat.le_refl _)))
/-- where the rounds end -/
def IsStop (C : Nat → List Nat) (n m : Nat) : Prop := m ≤ n ∧ (∀ k, 1 ≤ k → k < m → ¬ Quiet C n k) ∧ (m = n ∨ (1 ≤ m ∧ Quiet C n m))
theorem IsStop.uniq {C : Nat → List Nat} {n m k : Nat} (a : IsStop C n m) (b : IsStop C n k) : m = k := by
  obtain ⟨a1, a2, a3⟩ := a
  obtain ⟨b1, b2, b3⟩ := b
  rcases Nat.lt_trichotomy m k with c | c | c
  · rcases a3 with e | ⟨e1, e2⟩
    · omega
    · exact absurd e2 (b2 m e1 c)
  · exact c
  · rcases b3 with e | ⟨e1, e2⟩
    · omega
    · exact absurd e2 (a2 k e1 c)
theorem IsStop.fin {C : Nat → List Nat} {n m : Nat} (hC : ∀ p, p < n → ∀ q ∈ C p, q < n) (a : IsStop C n m) : Fin C n (rnd C m) := by
  obtain ⟨a1, a2, a3⟩ := a
  by_cases c : 1 ≤ m ∧ Quiet C n m
  · exact fin_quiet hC c.1 c.2
  · have e : m = n := a3.elim id fun z => absurd z c
    subst e
    refine fin_loop fun k k1 k2 => ?_
    by_cases d : k = m
    · subst d
      exact fun z => c ⟨k1, z⟩
    · exact a2 k k1 (by omega)
/-- one pass, b: upheld or refused -/
def cond (b : Bool) (C : Nat → List Nat) (S : St) (p : Nat) : Bool := if b then (C p).all (refu S) else (C p).any (uphe S)
def pss (b : Bool) (C : Nat → List Nat) (k : Nat) (S : St) : St := fun p => if (S p).isNone && cond b C S p then some (b, k) else S p
theorem pss_one (C : Nat → List Nat) (k : Nat) (S : St) : pss true C k S = one C k S := rfl
theorem pss_two (C : Nat → List Nat) (k : Nat) (S : St) : pss false C k S = two C k S := rfl
/-- the pass up to paper j -/
def mix (b : Bool) (C : Nat → List Nat) (k : Nat) (S : St) (j : Nat) : St := fun p => if p < j then pss b C k S p else S p
theorem mix_zero (b : Bool) (C : Nat → List Nat) (k : Nat) (S : St) : mix b C k S 0 = S := funext fun p => by
  unfold mix
  rw [if_neg (by omega)]
theorem mix_see (b : Bool) (C : Nat → List Nat) (k : Nat) (S : St) (j q : Nat) : (if b then refu (mix b C k S j) q else uphe (mix b C k S j) q) = if b then refu S q else uphe S q := by
  unfold refu uphe mix pss
  by_cases c : q < j
  · rw [if_pos c]
    cases e : S q with
    | none =>
      cases b <;> cases cond _ C S q <;> rfl
    | some x => rfl
  · rw [if_neg c]
theorem mix_cond (b : Bool) (C : Nat → List Nat) (k : Nat) (S : St) (j p : Nat) : cond b C (mix b C k S j) p = cond b C S p := by
  unfold cond
  have h := mix_see b C k S j
  cases b
  · simp only [Bool.false_eq_true, if_false] at h ⊢
    congr 1
    exact funext h
  · simp only [if_true] at h ⊢
    congr 1
    exact funext h
theorem mix_next (b : Bool) (C : Nat → List Nat) (k : Nat) (S : St) (j : Nat) : mix b C k S (j + 1) = fun p => if p = j then (if (S j).isNone && cond b C S j then some (b, k) else S j) else mix b C k S j p := funext fun p => by
  unfold mix pss
  by_cases c : p = j
  · subst c
    rw [if_pos (by omega), if_pos rfl]
  · rw [if_neg c]
    by_cases d : p < j
    · rw [if_pos d, if_pos (by omega)]
    · rw [if_neg d, if_neg (by omega)]
end Ru
set_option pp.maxSteps 700
set_option Elab.async false
set_option linter.all false
set_option maxRecDepth 100000
set_option maxHeartbeats 4000000
namespace Z
open PySem PySem.Spec PyProof.Rows L2
open C8 (pss_cut tCut)
local macro_rules | `(tactic| walk_at "num") => `(tactic| first | rfl | omega | decide | exact Nat.le_of_lt (small1000 (by simp)) | exact ⟨by omega, by omega⟩ | exact ⟨by omega, by omega, by omega⟩ | exact ⟨by decide, by decide, by decide⟩ | exact Or.inl ⟨by omega, by omega⟩ | exact Or.inr ⟨by omega, by omega⟩)
local macro_rules | `(tactic| walk_at "go") => `(tactic| repeat (first | refine ⟨_, rfl, ?_⟩ | refine ⟨_, _, rfl, rfl, ?_⟩ | refine ⟨_, _, rfl, ?_⟩ | (refine ⟨_, _, rfl, rfl, ?_, ?_⟩; focus walk_at "num") | refine Or.inl ⟨_, rfl, ?_⟩ | refine ⟨_, _, _, _, rfl, rfl, (by assumption), (by rfl), ?_⟩ | refine ⟨_, _, _, _, _, rfl, (by assumption), (by assumption), (by assumption), (by rfl), ?_⟩ | refine ⟨rfl, ?_⟩ | (refine And.intro ?_ ?_; focus walk_at "num")))
abbrev s_check_paper : Stmt := topS 6
abbrev N_check_paper : List Str := ["number", "many"]
abbrev P_check_paper : List Str := ["number", "many"]
theorem sc_check_paper : FnScope N_check_paper P_check_paper (defScope s_check_paper) := ⟨rfl, rfl, rfl, by decide +kernel, rfl, by decide +kernel, by decide +kernel⟩
abbrev s_counting_answers : Stmt := topS 7
abbrev N_counting_answers : List Str := ["ranks", "answers", "lap", "found", "paper", "answered", "papers"]
abbrev P_counting_answers : List Str := ["ranks", "answers"]
theorem sc_counting_answers : FnScope N_counting_answers P_counting_answers (defScope s_counting_answers) := ⟨rfl, rfl, rfl, by decide +kernel, rfl, by decide +kernel, by decide +kernel⟩
theorem relv_ref {a : Addr} : L2.RelV (.ref a) (.ref a) := rfl
theorem cr_sortedI_K {X : Cx} {K : PySem.W.Frag} (h : X.K = K) : CallR X (.builtin "sorted") (rSortedI K) := by
  subst h
  exact cr_sortedI
/-! ### pairs of ints: the sequence of kind b, each pair of kind c -/
structure Prs (b c : Bool) (K : PySem.W.Frag) (H : Hp) (a : Addr) (ps : List Addr) (rs : List (Int × Int)) : Prop where
  sq : SqK b K H a (ps.map V.ref)
  len : ps.length = rs.length
  at_ : ∀ (i : Nat) (p : Addr) (r : Int × Int), ps[i]? = some p → rs[i]? = some r → SqK c K H p [.int r.1, .int r.2]
theorem Prs.mono {b c : Bool} {K : PySem.W.Frag} {H H' : Hp} {a : Addr} {ps : List Addr} {rs : List (Int × Int)} (s : Same H H') (m : Prs b c K H a ps rs) : Prs b c K H' a ps rs :=
  ⟨Z.Same.sqK s m.sq, m.len, fun i p r h1 h2 => Z.Same.sqK s (m.at_ i p r h1 h2)⟩
theorem none_of {H J : Hp} {p : Addr} (s : Same H J) (n : J p = none) : H p = none := by
  cases e : H p with
  | none => rfl
  | some o =>
    have := s p o e
    rw [n] at this
    cases this
/-- a dict whose keys are ns, all True -/
def kd (ns : List Int) : List (Key × V) := ns.map fun n => ((Sum.inl n : Key), V.bl true)
theorem kd_put (ns : List Int) (q : Int) : putK (kd ns) (Sum.inl q) (.bl true) = kd (if q ∈ ns then ns else ns ++ [q]) := by
  have any : ((kd ns).any fun kv => decide (kv.1 = (Sum.inl q : Key))) = decide (q ∈ ns) := by
    unfold kd
    rw [List.any_map, Bool.eq_iff_iff, List.any_eq_true, decide_eq_true_iff]
    constructor
    · rintro ⟨x, hx, e⟩
      have e := of_decide_eq_true e
      cases e
      exact hx
    · exact fun h => ⟨q, h, decide_eq_true rfl⟩
  unfold putK
  rw [any]
  by_cases c : q ∈ ns
  · rw [if_pos (decide_eq_true c), if_pos c]
    unfold kd
    rw [List.map_map]
    apply List.map_congr_left
    intro x _
    show (if (Sum.inl x : Key) = Sum.inl q then ((Sum.inl x : Key), V.bl true) else (Sum.inl x, V.bl true)) = _
    split <;> rfl
  · rw [if_neg (fun z => c (of_decide_eq_true z)), if_neg c]
    unfold kd
    rw [List.map_append]
    rfl
theorem kd_keys (ns : List Int) : ((kd ns).map fun kv => kV kv.1) = ns.map V.int := by
  unfold kd
  rw [List.map_map]
  rfl
/-- the counting answers to paper p, ascending -/
def CntOk (rs : List Int) (prs : List (Int × Int)) (p : Nat) (c : List Int) : Prop := c.Pairwise (· < ·) ∧ ∀ q : Int, q ∈ c ↔ (q, (p : Int)) ∈ prs ∧ rs.getD p 0 ≤ rs.getD q.toNat 0
theorem nodup_ix {α : Type} {xs : List α} (h : xs.Nodup) {i j : Nat} {a : α} (h1 : xs[i]? = some a) (h2 : xs[j]? = some a) : i = j := by
  obtain ⟨l1, e1⟩ := List.getElem?_eq_some_iff.mp h1
  obtain ⟨l2, e2⟩ := List.getElem?_eq_some_iff.mp h2
  have p := List.pairwise_iff_getElem.mp h
  rcases Nat.lt_trichotomy i j with c | c | c
  · exact absurd (e1.trans e2.symm) (p i j l1 l2 c)
  · exact c
  · exact absurd (e2.trans e1.symm) (p j i l2 l1 c)
theorem at_ref {ds : List Addr} {i : Nat} {d : Addr} (h : ds[i]? = some d) {j : Int} (e : j = (i : Int)) : atI (ds.map V.ref) j = some (.ref d) := by
  rw [e]
  exact at_map h
theorem asc_of {ns ms : List Int} (p : ms.Perm ns) (s : ms.Pairwise (· ≤ ·)) (nd : ns.Nodup) : ms.Pairwise (· < ·) := by
  have nd2 : ms.Nodup := p.nodup_iff.mpr nd
  exact (s.and nd2).imp fun h => by omega
section
variable {P : Program} {w : World} {K : PySem.W.Frag} {mg : Str → Option Value} {base : Heap} {f C CB : Addr} {fd : FuncData}
def spChkP (CB : Addr) : Sp := fun vs H Q E => ∃ x n : Int, vs = [.int x, .int n] ∧ (0 ≤ x ∧ x < n → Q .non H) ∧ (¬ (0 ≤ x ∧ x < n) → ∀ d, H d = none → E (.ref CB) (some d) (upd H d (.xd [("number", .int x)])))
theorem ok_check_paper (F : FnP K "check_paper" s_check_paper f fd) (x_BadPaper : Exn P w K mg base "BadPaper" CB "number") : FnOk P w K mg base (L2N.CX P w) 3 f fd P_check_paper (spChkP CB) := by
  refine F.ok sc_check_paper (fun vs H Q E h => ?_) (fun cdv A outer s H vs Q E hr h => ?_)
  · obtain ⟨x, n, rfl, _⟩ := h
    rfl
  · obtain ⟨x, n, rfl, q, qe⟩ := h
    have tk := takes_fn (P := P) (w := w) (K := K) (mg := mg) (base := base) (N := N_check_paper) (qual := "check_paper") (scope := defScope s_check_paper) (f := f) (cd := cdv) (A := A) (outer := outer) (s := s) (H := H) (E := E)
    refine ⟨_, (pss_one (ps_if (pt_not (pt_chain op_le op_lt pe_int (pv 0) (pv 1))) (pss_one (ps_exn rfl tk x_BadPaper hr (by decide) (by rfl) (pa_cons (pv 0) pa_nil))) pss_nil)), ?_⟩
    walk_at "go"
    refine ite2 (fun e => ?_) (fun e => ?_)
    · have e := of_decide_eq_true e
      walk_at "go"
      refine ite2 (fun e2 => ?_) (fun e2 => ?_)
      · have e2 : ¬ x < n := by simpa using e2
        walk_at "go"
        exact mkx_of (qe fun z => e2 z.2)
      · have e2 : x < n := by simpa using e2
        exact q ⟨e, e2⟩
    · have e : ¬ 0 ≤ x := fun z => e (decide_eq_true z)
      walk_at "go"
      exact mkx_of (qe fun z => e z.1)
/-! ### counting_answers -/
def spCntA (K : PySem.W.Frag) : Sp := fun vs H Q _ => ∃ (r a : Addr) (rs : List Int) (ps : List Addr) (prs : List (Int × Int)), vs = [.ref r, .ref a] ∧ SqT K H r (rs.map V.int) ∧ Prs false false K H a ps prs ∧ rs.length ≤ 1000 ∧ prs.length ≤ 1000 ∧ (∀ x ∈ prs, 0 ≤ x.1 ∧ x.1 < rs.length ∧ 0 ≤ x.2 ∧ x.2 < rs.length) ∧
  ∀ (L : Addr) H' (cs : List Addr) (cl : List (List Int)), Same H H' → (H L = none ∧ ∀ c ∈ cs, H c = none) → H' L = some (.lst (cs.map V.ref)) → cs.length = rs.length → cl.length = rs.length → (∀ (i : Nat) c l, cs[i]? = some c → cl[i]? = some l → H' c = some (.lst (l.map V.int))) → (∀ (p : Nat) l, cl[p]? = some l → CntOk rs prs p l) → Q (.ref L) H'
theorem ok_counting_answers (F : FnP K "counting_answers" s_counting_answers f fd) (m_list : mg "list" = none) (m_sorted : mg "sorted" = none) : FnOk P w K mg base CX0 1 f fd P_counting_answers (spCntA K) := by
  refine F.ok sc_counting_answers (fun vs H Q E h => ?_) (fun cdv A outer s H vs Q E hr h => ?_)
  · obtain ⟨r, a, rs, ps, prs, rfl, _⟩ := h
    rfl
  · obtain ⟨r, a, rs, ps, prs, rfl, hR, hP, lr, lp, rg, q⟩ := h
    refine ⟨_, PSs.nox (pss_cons (ps_setLc (i := 3) (own := [("lap", 2)]) (g := (gName 2)) (tt := tYes) (by rfl) sc_counting_answers.nd rfl rfl (sw_true rfl rfl rfl (by decide +kernel)) (pi_tup (pv 0)) (blkOk_by (own := [("lap", 2)]) (N := N_counting_answers) (sc := defScope s_counting_answers) (by decide +kernel)) (fun _ _ _ _ _ => (pg_name (i := 2) sc_counting_answers.nd rfl (by first | exact .inl rfl | exact .inr rfl))) (fun _ _ _ _ _ => pts_nil) (fun _ _ _ _ _ => pe_dnewK))
      (pss_cons (ps_for PassesOwn.never rfl (pi_tup (pv 1)) (pg_tup rfl (pgs_cons (pg_name (i := 4) sc_counting_answers.nd rfl (by first | exact .inl rfl | exact .inr rfl)) (pgs_cons (pg_name (i := 5) sc_counting_answers.nd rfl (by first | exact .inl rfl | exact .inr rfl)) pgs_nil)))
        (pss_one (ps_if (pt_cmpR op_ge (pe_ix ix_tup (pv 0) (pv 4) (fun _ _ => rfl)) (pe_ix ix_tup (pv 0) (pv 5) (fun _ _ => rfl)) (nomark _)) (pss_one (ps_dput (hu_of hr) (pe_ix ix_list (pv 3) (pv 5) (fun _ _ => rfl)) (pv 4) pe_bl rfl)) pss_nil)))
      (pss_one (ps_ret (pe_lc (own := [("papers", 6)]) (g := (gName 6)) (tt := tYes) (by rfl) sc_counting_answers.nd (pi_list (pv 3)) (blkOk_by (own := [("papers", 6)]) (N := N_counting_answers) (sc := defScope s_counting_answers) (by decide +kernel)) (fun _ _ _ _ _ => (pg_name (i := 6) sc_counting_answers.nd rfl (by first | exact .inl rfl | exact .inr rfl))) (fun _ _ _ _ _ => pts_nil) (fun _ _ _ _ _ => (pe_callB (cr_sortedI_K (K := K) rfl) (by rfl) m_sorted (by decide +kernel) (pa_cons (pe_callTy (call_list_dK rfl) (by rfl) m_list (by decide +kernel) (pa_cons (pv 6) pa_nil)) pa_nil)))))))), ?_⟩
    walk_at "go"
    refine ⟨⟨_, hR⟩, fun D nD => ?_⟩
    refine lc_gen (n := rs.length) (fun i H1 => Same H H1 ∧ ∃ ds : List Addr, H1 D = some (.lst (ds.map V.ref)) ∧ ds.length = i ∧ ds.Nodup ∧ ∀ d ∈ ds, d ≠ D ∧ H1 d = some (.dK (kd [])) ∧ H d = none) ⟨same_new nD, [], upd_same, rfl, List.nodup_nil, fun d h => by simp at h⟩ ?_ ?_ ?_ ?_
    · rintro i H1 hi ⟨s1, _⟩
      exact ⟨_, .int (rs.getD i 0), Z.Same.sqT s1 hR, by rw [List.getElem?_map, List.getD_eq_getElem?_getD, List.getElem?_eq_getElem hi]; rfl⟩
    · rintro H1 ⟨s1, _⟩
      exact ⟨_, Z.Same.sqT s1 hR, by rw [List.length_map]; exact Nat.le_refl _⟩
    · rintro i H1 x H2 hi ⟨s1, ds, eD, ld, nd, al⟩ ⟨rfl, _⟩
      walk_at "go"
      intro p np
      have Dp : D ≠ p := ne_of_none eD np
      have nHp : H p = none := by
        cases e : H p with
        | none => rfl
        | some o =>
          have := s1 p o e
          rw [np] at this
          cases this
      refine ⟨_, by rw [upd_ne Dp]; exact eD, ?_, Z.Same.mut (s1.trans (same_new np)) nD, ds ++ [p], ?_, ?_, ?_, ?_⟩
      · rw [List.length_map, ld]
        exact Nat.lt_of_lt_of_le (show i < 1000 by omega) (by decide)
      · rw [upd_same, List.map_append]
        rfl
      · rw [List.length_append, ld]
        rfl
      · refine List.nodup_append.mpr ⟨nd, by simp, fun x hx y hy e => ?_⟩
        rw [List.mem_singleton.mp hy] at e
        subst e
        rw [(al x hx).2.1] at np
        cases np
      · intro d hd
        rcases List.mem_append.mp hd with h | h
        · obtain ⟨a1, a2, a3⟩ := al d h
          have dp : d ≠ p := ne_of_none a2 np
          exact ⟨a1, by rw [upd_ne a1, upd_ne dp]; exact a2, a3⟩
        · rw [List.mem_singleton.mp h]
          exact ⟨Dp.symm, by rw [upd_ne Dp.symm, upd_same]; rfl, nHp⟩
    rintro H1 ⟨s1, ds, eD, ld, nd, al⟩
    have hP1 := hP.mono s1
    have lps := hP.len
    walk_at "go"
    refine ⟨⟨_, hP1.sq⟩, ?_⟩
    refine for_gen (n := prs.length) (fun k σ H2 => Same H H2 ∧ H2 D = some (.lst (ds.map V.ref)) ∧ (∃ ns : Nat → List Int, ∀ (i : Nat) d, ds[i]? = some d → H2 d = some (.dK (kd (ns i))) ∧ (ns i).Nodup ∧ (∀ x : Int, x ∈ ns i ↔ (x, (i : Int)) ∈ prs.take k ∧ rs.getD i 0 ≤ rs.getD x.toNat 0) ∧ (ns i).length ≤ k) ∧ ∃ v4 v5 : Option V, σ = [some (.ref r), some (.ref a), none, some (.ref D), v4, v5, none]) ⟨s1, eD, ⟨fun _ => [], fun i d hd => ⟨(al d (List.mem_of_getElem? hd)).2.1, List.nodup_nil, fun x => by simp, Nat.le_refl _⟩⟩, none, none, rfl⟩ ?_ ?_ ?_ ?_
    · rintro k σ H2 hk ⟨s2, _⟩
      exact ⟨_, .ref (ps[k]'(by omega)), (hP.mono s2).sq, by rw [List.getElem?_map, List.getElem?_eq_getElem (show k < ps.length by omega)]; rfl⟩
    · rintro σ H2 ⟨s2, _⟩
      exact ⟨_, (hP.mono s2).sq, by rw [List.length_map]; omega⟩
    · rintro k σ H2 x H3 hk ⟨s2, eD2, ⟨ns, hns⟩, v4, v5, rfl⟩ ⟨rfl, hy⟩
      have hP2 := hP.mono s2
      have ep : ps[k]? = some (ps[k]'(by omega)) := List.getElem?_eq_getElem (show k < ps.length by omega)
      have er : prs[k]? = some prs[k] := List.getElem?_eq_getElem hk
      have hx := hy _ hP2.sq
      rw [List.getElem?_map, ep] at hx
      obtain rfl := Option.some.inj hx
      have hT := hP2.at_ k _ _ ep er
      obtain ⟨r1, r2, r3, r4⟩ := rg _ (List.mem_of_getElem? er)
      generalize ek : prs[k] = pr at hT r1 r2 r3 r4
      obtain ⟨x1, x2⟩ := pr
      refine ⟨_, _, rfl, hT, rfl, _, _, rfl, _, _, rfl, rfl, ?_⟩
      have hR2 := Z.Same.sqT s2 hR
      walk_at "go"
      refine ⟨r, _, _, _, rfl, rfl, hR2, at_nat r1 r2, ?_⟩
      walk_at "go"
      refine ⟨r, _, _, _, rfl, rfl, hR2, at_nat r3 r4, ?_⟩
      walk_at "go"
      obtain ⟨i2, rfl⟩ := Int.eq_ofNat_of_zero_le r3
      have tk1 : ∀ y : Int × Int, y ∈ prs.take (k + 1) ↔ y ∈ prs.take k ∨ y = (x1, (i2 : Int)) := fun y => by
        rw [List.take_add_one, er, ek]
        simp
      refine ite2 (fun e => ?_) (fun e => ?_)
      · have e := of_decide_eq_true e
        have hi2 : i2 < ds.length := by omega
        have ed : ds[i2]? = some ds[i2] := List.getElem?_eq_getElem hi2
        generalize hd : ds[i2] = d at ed
        obtain ⟨h1, h2, h3, h4⟩ := hns i2 d ed
        obtain ⟨a1, _, a3⟩ := al d (List.mem_of_getElem? ed)
        walk_at "go"
        refine ⟨D, _, _, _, rfl, rfl, SqL.of eD2, at_ref ed rfl, ?_⟩
        walk_at "go"
        refine ⟨d, _, rfl, DPut.k (k := Sum.inl x1) h1 (by unfold kd; rw [List.length_map]; exact Nat.lt_of_lt_of_le (show (ns i2).length < 2000 by omega) (by decide)), ?_⟩
        rw [kd_put]
        refine ⟨Z.Same.mut s2 a3, by rw [upd_ne a1.symm]; exact eD2, ⟨fun j => if j = i2 then (if x1 ∈ ns i2 then ns i2 else ns i2 ++ [x1]) else ns j, fun j d' hd' => ?_⟩, _, _, rfl⟩
        by_cases c : j = i2
        · subst c
          rw [ed] at hd'
          cases hd'
          dsimp only
          rw [if_pos rfl]
          refine ⟨upd_same, ?_, fun x => ?_, ?_⟩
          · split
            · exact h2
            · rename_i c
              exact List.nodup_append.mpr ⟨h2, by simp, fun a ha b hb e => c (by rw [List.mem_singleton.mp hb] at e; exact e ▸ ha)⟩
          · rw [tk1]
            have m1 : x ∈ (if x1 ∈ ns j then ns j else ns j ++ [x1]) ↔ x ∈ ns j ∨ x = x1 := by
              split
              · rename_i c
                exact ⟨.inl, fun z => z.elim id fun z => z ▸ c⟩
              · simp
            rw [m1, h3]
            constructor
            · rintro (⟨y1, y2⟩ | rfl)
              · exact ⟨.inl y1, y2⟩
              · exact ⟨.inr rfl, by simpa using e⟩
            · rintro ⟨y1 | y1, y2⟩
              · exact .inl ⟨y1, y2⟩
              · exact .inr (congrArg Prod.fst y1)
          · split
            · omega
            · rw [List.length_append]
              show (ns j).length + 1 ≤ k + 1
              omega
        · dsimp only
          rw [if_neg c]
          obtain ⟨g1, g2, g3, g4⟩ := hns j d' hd'
          have ne : d' ≠ d := fun z => c (by
            subst z
            exact nodup_ix nd hd' ed)
          refine ⟨by rw [upd_ne ne]; exact g1, g2, fun x => ?_, by omega⟩
          rw [g3, tk1]
          constructor
          · rintro ⟨y1, y2⟩
            exact ⟨.inl y1, y2⟩
          · rintro ⟨y1 | y1, y2⟩
            · exact ⟨y1, y2⟩
            · have := congrArg Prod.snd y1
              exact absurd (Int.ofNat.inj this) c
      · refine ⟨s2, eD2, ⟨ns, fun j d' hd' => ?_⟩, _, _, rfl⟩
        obtain ⟨g1, g2, g3, g4⟩ := hns j d' hd'
        refine ⟨g1, g2, fun x => ?_, by omega⟩
        rw [g3, tk1]
        constructor
        · rintro ⟨y1, y2⟩
          exact ⟨.inl y1, y2⟩
        · rintro ⟨y1 | y1, y2⟩
          · exact ⟨y1, y2⟩
          · have z1 := congrArg Prod.fst y1
            have z2 := Int.ofNat.inj (congrArg Prod.snd y1)
            simp only at z1
            subst z1 z2
            exact absurd (decide_eq_true (by simpa using y2)) e
    · rintro σ H2 ⟨s2, eD2, ⟨ns, hns⟩, v4, v5, rfl⟩
      rw [List.take_length] at hns
      walk_at "go"
      refine ⟨⟨_, SqL.of eD2⟩, fun L nL => ?_⟩
      have DL : D ≠ L := ne_of_none eD2 nL
      refine lc_gen (n := ds.length) (fun i H3 => Same H2 H3 ∧ ∃ (cs : List Addr) (cl : List (List Int)), H3 L = some (.lst (cs.map V.ref)) ∧ cs.length = i ∧ cl.length = i ∧ (∀ (j : Nat) c l, cs[j]? = some c → cl[j]? = some l → c ≠ L ∧ H3 c = some (.lst (l.map V.int))) ∧ (∀ c ∈ cs, H2 c = none) ∧ ∀ (j : Nat) l, cl[j]? = some l → CntOk rs prs j l) ⟨same_new nL, [], [], upd_same, rfl, rfl, fun j c l h => by simp at h, fun c h => absurd h (by simp), fun j l h => by simp at h⟩ ?_ ?_ ?_ ?_
      · rintro i H3 hi ⟨s3, _⟩
        exact ⟨_, .ref ds[i], SqL.of (s3 _ _ eD2), by rw [List.getElem?_map, List.getElem?_eq_getElem hi]; rfl⟩
      · rintro H3 ⟨s3, _⟩
        exact ⟨_, SqL.of (s3 _ _ eD2), by rw [List.length_map]; exact Nat.le_refl _⟩
      · rintro i H3 x H4 hi ⟨s3, cs, cl, eL, lcs, lcl, hcs, frc, ok⟩ ⟨rfl, hy⟩
        have hx := hy _ (SqL.of (s3 _ _ eD2))
        rw [List.getElem?_map, List.getElem?_eq_getElem hi] at hx
        obtain rfl := Option.some.inj hx
        obtain ⟨h1, h2, h3, h4⟩ := hns i ds[i] (List.getElem?_eq_getElem hi)
        walk_at "go"
        refine ⟨ds[i], _, rfl, s3 _ _ h1, fun A nA => ?_⟩
        rw [kd_keys]
        walk_at "go"
        refine ⟨A, ns i, rfl, SqL.of upd_same, fun ms B pm so nB => ?_⟩
        have sA := same_new (o := .lst ((ns i).map V.int)) nA
        have sB := same_new (o := .lst (ms.map V.int)) nB
        have sAB := sA.trans sB
        have LB : L ≠ B := ne_of_none (sA _ _ eL) nB
        refine ⟨_, sAB _ _ eL, ?_, Z.Same.mut (s3.trans sAB) nL, cs ++ [B], cl ++ [ms], ?_, ?_, ?_, ?_, ?_, ?_⟩
        · rw [List.length_map, lcs]
          exact Nat.lt_of_lt_of_le (show i < 2000 by omega) (by decide)
        · rw [upd_same, List.map_append]
          rfl
        · rw [List.length_append, lcs]
          rfl
        · rw [List.length_append, lcl]
          rfl
        · intro j c l hc hl
          by_cases cj : j < i
          · rw [List.getElem?_append_left (by omega)] at hc
            rw [List.getElem?_append_left (by omega)] at hl
            obtain ⟨k1, k2⟩ := hcs j c l hc hl
            exact ⟨k1, by rw [upd_ne k1]; exact sAB _ _ k2⟩
          · have hj := (List.getElem?_eq_some_iff.mp hc).1
            rw [List.length_append] at hj
            have hj2 : j < cs.length + 1 := hj
            obtain rfl : j = i := by omega
            rw [List.getElem?_append_right (by omega), lcs, Nat.sub_self] at hc
            rw [List.getElem?_append_right (by omega), lcl, Nat.sub_self] at hl
            cases hc
            cases hl
            exact ⟨LB.symm, by rw [upd_ne LB.symm]; exact upd_same⟩
        · intro c hc
          rcases List.mem_append.mp hc with h | h
          · exact frc c h
          · rw [List.mem_singleton.mp h]
            exact none_of (s3.trans sA) nB
        · intro j l hl
          by_cases cj : j < i
          · rw [List.getElem?_append_left (by omega)] at hl
            exact ok j l hl
          · have hj := (List.getElem?_eq_some_iff.mp hl).1
            rw [List.length_append] at hj
            have hj2 : j < cl.length + 1 := hj
            obtain rfl : j = i := by omega
            rw [List.getElem?_append_right (by omega), lcl, Nat.sub_self] at hl
            cases hl
            exact ⟨asc_of pm so h2, fun x => by rw [pm.mem_iff]; exact h3 x⟩
      · rintro H3 ⟨s3, cs, cl, eL, lcs, lcl, hcs, frc, ok⟩
        exact q L H3 cs cl (s2.trans s3) ⟨none_of s2 nL, fun c hc => none_of s2 (frc c hc)⟩ eL (by omega) (by omega) (fun i c l hc hl => (hcs i c l hc hl).2) ok
end
end Z
set_option pp.maxSteps 700
set_option Elab.async false
set_option linter.all false
set_option maxRecDepth 100000
set_option maxHeartbeats 4000000
namespace Z
open Ru
open PySem PySem.Spec PyProof.Rows L2
open C8 (pss_cut tCut)
local macro_rules | `(tactic| walk_at "num") => `(tactic| first | rfl | omega | decide | exact Nat.le_of_lt (small1000 (by simp)) | exact ⟨by omega, by omega⟩ | exact ⟨by omega, by omega, by omega⟩ | exact ⟨by decide, by decide, by decide⟩ | exact Or.inl ⟨by omega, by omega⟩ | exact Or.inr ⟨by omega, by omega⟩)
local macro_rules | `(tactic| walk_at "go") => `(tactic| repeat (first | refine ⟨_, rfl, ?_⟩ | refine ⟨_, _, rfl, rfl, ?_⟩ | refine ⟨_, _, rfl, ?_⟩ | (refine ⟨_, _, rfl, rfl, ?_, ?_⟩; focus walk_at "num") | refine Or.inl ⟨_, rfl, ?_⟩ | refine ⟨_, _, _, _, rfl, rfl, (by assumption), (by rfl), ?_⟩ | refine ⟨_, _, _, _, _, rfl, (by assumption), (by assumption), (by assumption), (by rfl), ?_⟩ | refine ⟨rfl, ?_⟩ | (refine And.intro ?_ ?_; focus walk_at "num")))
abbrev s_ruled : Stmt := topS 8
abbrev N_ruled : List Str := ["counting", "rounds", "words", "number", "word", "other", "paper", "papers", "one", "named"]
abbrev P_ruled : List Str := ["counting"]
theorem sc_ruled : FnScope N_ruled P_ruled (defScope s_ruled) := ⟨rfl, rfl, rfl, by decide +kernel, rfl, by decide +kernel, by decide +kernel⟩
def rV : Option (Bool × Nat) → V
  | none => .non
  | some (_, r) => .int (r : Int)
def wV : Option (Bool × Nat) → V
  | none => .str "open"
  | some (true, _) => .str "upheld"
  | some (false, _) => .str "refused"
def vls (g : Nat → V) (n : Nat) : List V := (List.range n).map g
theorem vls_len (g : Nat → V) (n : Nat) : (vls g n).length = n := by
  unfold vls
  rw [List.length_map, List.length_range]
theorem vls_at {g : Nat → V} {n i : Nat} (h : i < n) : (vls g n)[i]? = some (g i) := by
  unfold vls
  rw [List.getElem?_map, List.getElem?_range h]
  rfl
theorem vls_set {g : Nat → V} {n i : Nat} {x : V} : (vls g n).set i x = vls (fun p => if p = i then x else g p) n := by
  apply List.ext_getElem?
  intro j
  rw [List.getElem?_set]
  by_cases c : i = j
  · subst c
    rw [if_pos rfl]
    by_cases d : i < n
    · rw [if_pos (by rw [vls_len]; exact d), vls_at d, if_pos rfl]
    · rw [if_neg (by rw [vls_len]; exact d), List.getElem?_eq_none (by rw [vls_len]; omega)]
  · rw [if_neg c]
    by_cases d : j < n
    · rw [vls_at d, vls_at d, if_neg (Ne.symm c)]
    · rw [List.getElem?_eq_none (by rw [vls_len]; omega), List.getElem?_eq_none (by rw [vls_len]; omega)]
theorem vls_rep (x : V) (n : Nat) : (List.replicate n [x]).flatten = vls (fun _ => x) n := by
  induction n with
  | zero => rfl
  | succ n ih =>
    unfold vls at *
    rw [List.replicate_succ', List.flatten_append, ih, List.range_succ, List.map_append]
    rfl
/-- the counting lists as the mathematics has them -/
def Cn (cl : List (List Int)) (p : Nat) : List Nat := (cl.getD p []).map Int.toNat
theorem lc_lstV {K : PySem.W.Frag} {a D : Addr} {xs : List Int} {H0 : Hp} {i : Nat} {te : TE} {vs : List Nat} {σ : L2.St} {Qd : Hp → Prop} (hS : SqL K H0 a (xs.map V.int)) (g : Int → V) (hn : xs.length ≤ 1000000) (nD : H0 D = none) (hw : ∀ x : Int, wipe ((wipe σ vs).set i (some (.int x))) vs = wipe σ vs)
    (ht : ∀ x H1 (Q : VK), x ∈ xs → Same H0 H1 → (∀ H2, Same H1 H2 → Q (g x) H2) → te ((wipe σ vs).set i (some (.int x))) H1 Q)
    (hd : ∀ H1, Same H0 H1 → H1 D = some (.lst (xs.map g)) → Qd H1) : lcW (Itl K a) (gName i) tYes te vs σ D Qd H0 := by
  have ex : ∀ k, k < xs.length → (xs.map V.int)[k]? = some (.int (xs.getD k 0)) := fun k hk => by
    rw [List.getElem?_map, List.getD_eq_getElem?_getD, List.getElem?_eq_getElem hk]
    rfl
  refine lc_flt (n := xs.length) (fun k => .int (xs.getD k 0)) (fun _ => true) (fun k => g (xs.getD k 0)) hn nD (fun k H1 hk s => ⟨_, _, s.seq hS, ex k hk⟩) (fun H1 s => ⟨_, s.seq hS, by rw [List.length_map]; exact Nat.le_refl _⟩) (fun k H1 x H2 hk s y => ?_) (fun k => hw _) (fun k H1 Q hk s q => q _ (Same.refl _)) (fun k H1 Q hk _ s q => ht _ H1 Q ?_ s q) (fun H1 s e => hd H1 s ?_)
  · exact ⟨by rw [y.1]; exact Same.refl _, Option.some.inj ((y.2 _ (s.seq hS)).symm.trans (ex k hk))⟩
  · rw [List.getD_eq_getElem?_getD, List.getElem?_eq_getElem hk]
    exact List.getElem_mem hk
  · rw [e]
    unfold fltL
    rw [List.filter_eq_self.mpr (fun _ _ => rfl)]
    congr 2
    apply List.ext_getElem
    · rw [List.length_map, List.length_map, List.length_range]
    · intro k h1 h2
      rw [List.length_map] at h2
      rw [List.getElem_map, List.getElem_map, List.getElem_range, List.getD_eq_getElem?_getD, List.getElem?_eq_getElem h2]
      rfl
def wd (b : Bool) : Str := if b then "upheld" else "refused"
theorem wV_some (c : Bool) (r : Nat) : wV (some (c, r)) = V.str (wd c) := by cases c <;> rfl
theorem wd_eq : ∀ b c : Bool, decide (V.str (wd c) = V.str (wd b)) = (c == b) := by decide
theorem wd_open : ∀ c : Bool, decide (V.str (wd c) = V.str "open") = false := by decide
theorem open_wd : ∀ c : Bool, decide (V.str "open" = V.str (wd c)) = false := by decide
theorem wV_ref (S : Ru.St) (b : Bool) (q : Nat) : decide (wV (S q) = V.str (wd (!b))) = (if b then refu S q else uphe S q) := by
  unfold refu uphe
  cases e : S q with
  | none =>
    rw [show wV none = V.str "open" from rfl, open_wd]
    cases b <;> rfl
  | some x =>
    obtain ⟨c, r⟩ := x
    rw [wV_some, wd_eq]
    cases b <;> cases c <;> rfl
theorem wV_open (S : Ru.St) (q : Nat) : decide (wV (S q) = V.str "open") = (S q).isNone := by
  cases e : S q with
  | none =>
    show decide (V.str "open" = V.str "open") = true
    exact decide_eq_true rfl
  | some x =>
    obtain ⟨c, r⟩ := x
    rw [wV_some, wd_open]
    rfl
theorem in_rounds (S : Ru.St) (n k : Nat) : inV (.int (k : Int)) (vls (fun p => rV (S p)) n) = true ↔ ∃ p, p < n ∧ ∃ b, S p = some (b, k) := by
  unfold inV vls
  rw [List.any_map, List.any_eq_true]
  constructor
  · rintro ⟨p, hp, e⟩
    refine ⟨p, List.mem_range.mp hp, ?_⟩
    cases es : S p with
    | none =>
      have e : eqV (rV (S p)) (.int (k : Int)) = true := e
      rw [es] at e
      cases e
    | some x =>
      obtain ⟨b, r⟩ := x
      have e : eqV (rV (S p)) (.int (k : Int)) = true := e
      rw [es] at e
      have e : ((r : Int) == (k : Int)) = true := e
      rw [beq_iff_eq] at e
      exact ⟨b, by rw [show r = k by omega]⟩
  · rintro ⟨p, hp, b, e⟩
    refine ⟨p, List.mem_range.mpr hp, ?_⟩
    show eqV (rV (S p)) (.int (k : Int)) = true
    rw [e]
    show ((k : Int) == (k : Int)) = true
    rw [beq_iff_eq]
theorem flat_rounds (S : Ru.St) (n : Nat) : (vls (fun p => rV (S p)) n).all flatV = true := by
  unfold vls
  rw [List.all_map]
  refine List.all_eq_true.mpr fun p _ => ?_
  show flatV (rV (S p)) = true
  cases S p with
  | none => rfl
  | some x => rfl
theorem vls_congr {g h : Nat → V} {n : Nat} (e : ∀ p, p < n → g p = h p) : vls g n = vls h n := by
  unfold vls
  exact List.map_congr_left fun p hp => e p (List.mem_range.mp hp)
theorem at_vls {g : Nat → V} {n : Nat} {x : Int} (h0 : 0 ≤ x) (h1 : x < n) : atI (vls g n) x = some (g x.toNat) := by
  have := vls_at (g := g) (n := n) (i := x.toNat) (by omega)
  refine at_of (j := x.toNat) (by omega) this
theorem ixN_k {n j : Nat} (hj : j < n) : ixN n (j : Int) = some j := by
  unfold ixN
  rw [if_pos (by omega), if_pos (by omega)]
  rfl
theorem wd_up : ∀ b : Bool, decide (V.str (wd b) = V.str "upheld") = b := by decide
theorem wV_scal (z : Option (Bool × Nat)) (u : Str) : scal (wV z) (.str u) = true := by
  cases z with
  | none => rfl
  | some x =>
    obtain ⟨c, r⟩ := x
    cases c <;> rfl
def sj (C : Nat → List Nat) (k : Nat) (S : Ru.St) : Nat → Ru.St
  | 0 => S
  | 1 => pss true C k S
  | _ + 2 => pss false C k (pss true C k S)
theorem sj_next (C : Nat → List Nat) (k : Nat) (S : Ru.St) {j : Nat} (h : j < 2) : sj C k S (j + 1) = pss (decide (j = 0)) C k (sj C k S j) := by
  rcases (show j = 0 ∨ j = 1 by omega) with rfl | rfl <;> rfl
structure Frm (H J : Hp) (T0 T1 T2 : Addr) : Prop where
  sm : Same H J
  t0 : J T0 = some (.tup [.ref T1, .ref T2])
  t1 : J T1 = some (.tup [.str (wd true), .str (wd (!true))])
  t2 : J T2 = some (.tup [.str (wd false), .str (wd (!false))])
theorem Frm.mono {H J J' : Hp} {T0 T1 T2 : Addr} (f : Frm H J T0 T1 T2) (s : Same J J') : Frm H J' T0 T1 T2 := ⟨f.sm.trans s, s _ _ f.t0, s _ _ f.t1, s _ _ f.t2⟩
theorem Frm.put {H J : Hp} {T0 T1 T2 R : Addr} {o : HO} (f : Frm H J T0 T1 T2) (n : H R = none) (r0 : R ≠ T0) (r1 : R ≠ T1) (r2 : R ≠ T2) : Frm H (upd J R o) T0 T1 T2 :=
  ⟨Z.Same.mut f.sm n, by rw [upd_ne r0.symm]; exact f.t0, by rw [upd_ne r1.symm]; exact f.t1, by rw [upd_ne r2.symm]; exact f.t2⟩
section
variable {P : Program} {w : World} {K : PySem.W.Frag} {mg : Str → Option Value} {base : Heap} {f C CB : Addr} {fd : FuncData}
/-! ### ruled -/
def spRuled (K : PySem.W.Frag) : Sp := fun vs H Q _ => ∃ (a : Addr) (cs : List Addr) (cl : List (List Int)), vs = [.ref a] ∧ SqL K H a (cs.map V.ref) ∧ cs.length = cl.length ∧ cl.length ≤ 1000 ∧ (∀ (i : Nat) c l, cs[i]? = some c → cl[i]? = some l → SqL K H c (l.map V.int) ∧ l.length ≤ 1000 ∧ ∀ x ∈ l, 0 ≤ x ∧ x < cl.length) ∧
  ∀ (t tr tw : Addr) H' (m : Nat), Same H H' → IsStop (Cn cl) cl.length m → H' t = some (.tup [.ref tr, .ref tw]) → H' tr = some (.tup (vls (fun p => rV (rnd (Cn cl) m p)) cl.length)) → H' tw = some (.tup (vls (fun p => wV (rnd (Cn cl) m p)) cl.length)) → Q (.ref t) H'
theorem ok_ruled (F : FnP K "ruled" s_ruled f fd) (m_len : mg "len" = none) (m_range : mg "range" = none) (m_enumerate : mg "enumerate" = none) (m_all : mg "all" = none) (m_any : mg "any" = none) (m_tuple : mg "tuple" = none) : FnOk P w K mg base CX0 1 f fd P_ruled (spRuled K) := by
  refine F.ok sc_ruled (fun vs H Q E h => ?_) (fun cdv A outer s H vs Q E hr h => ?_)
  · obtain ⟨a, cs, cl, rfl, _⟩ := h
    rfl
  · obtain ⟨a, cs, cl, rfl, hA, lc, ln, hc, q⟩ := h
    refine ⟨_, PSs.nox (pss_cons (ps_set (i := 1) sc_ruled.nd rfl (by first | exact .inl rfl | exact .inr rfl) (pe_op op_rep (pe_lst (pa_cons pe_non pa_nil)) (pe_callB call_len_seq (by rfl) m_len PySem.boot_len (pa_cons (pv 0) pa_nil))))
      (pss_cons (ps_set (i := 2) sc_ruled.nd rfl (by first | exact .inl rfl | exact .inr rfl) (pe_op op_rep (pe_lst (pa_cons pe_str pa_nil)) (pe_callB call_len_seq (by rfl) m_len PySem.boot_len (pa_cons (pv 0) pa_nil))))
      (pss_cut (ps_for PassesOwn.never rfl (pi_range2 (by rfl) m_range (pa_cons pe_int (pa_cons (pe_op op_add (pe_callB call_len_seq (by rfl) m_len PySem.boot_len (pa_cons (pv 0) pa_nil)) pe_int) pa_nil))) (pg_name (i := 3) sc_ruled.nd rfl (by first | exact .inl rfl | exact .inr rfl))
        (pss_cut (ps_for PassesOwn.never rfl (pi_tup (pe_tup (pa_cons (pe_tup (pa_cons pe_str (pa_cons pe_str pa_nil))) (pa_cons (pe_tup (pa_cons pe_str (pa_cons pe_str pa_nil))) pa_nil)))) (pg_tup rfl (pgs_cons (pg_name (i := 4) sc_ruled.nd rfl (by first | exact .inl rfl | exact .inr rfl)) (pgs_cons (pg_name (i := 5) sc_ruled.nd rfl (by first | exact .inl rfl | exact .inr rfl)) pgs_nil)))
        (pss_one (ps_for PassesOwn.never rfl (pi_enumM (by rfl) m_enumerate (pa_cons (pv 0) pa_nil)) (pg_tup rfl (pgs_cons (pg_name (i := 6) sc_ruled.nd rfl (by first | exact .inl rfl | exact .inr rfl)) (pgs_cons (pg_name (i := 7) sc_ruled.nd rfl (by first | exact .inl rfl | exact .inr rfl)) pgs_nil)))
        (pss_cons (ps_setLc (i := 9) (own := [("one", 8)]) (g := (gName 8)) (tt := tYes) (by rfl) sc_ruled.nd rfl rfl (sw_true rfl rfl rfl (by decide +kernel)) (pi_list (pv 7)) (blkOk_by (own := [("one", 8)]) (N := N_ruled) (sc := defScope s_ruled) (by decide +kernel)) (fun _ _ _ _ _ => (pg_name (i := 8) sc_ruled.nd rfl (by first | exact .inl rfl | exact .inr rfl))) (fun _ _ _ _ _ => pts_nil) (fun _ _ _ _ _ => (pe_cmpR op_eq (pe_ix (ix_list_K (K := K) rfl) (pv 2) (pv 8) (fun _ _ => rfl)) (pv 5) (nomark _))))
      (pss_one (ps_if (PW.pt (pw_and (pt_cmpR op_eq (pe_ix ix_list (pv 2) (pv 6) (fun _ _ => rfl)) pe_str (nomark _)) (pw_and1 (pt_ifExp (pt_cmpR op_eq (pv 4) pe_str (nomark _)) (pt_val (pe_callB (cr_all rfl) (by rfl) m_all (by decide +kernel) (pa_cons (pv 9) pa_nil))) (pt_val (pe_callB (cr_any rfl) (by rfl) m_any (by decide +kernel) (pa_cons (pv 9) pa_nil))))))) (pss_cons (ps_asg (pv 4) (pg_sub (pv 2) (pv 6) set_list))
      (pss_one (ps_asg (pv 3) (pg_sub (pv 1) (pv 6) set_list)))) pss_nil))))))
      (pss_one (ps_if (pt_cmpR op_notIn_seq (pv 3) (pv 1) (by rfl)) (pss_one ps_break) pss_nil))))
      (pss_one (ps_ret (pe_tup (pa_cons (pe_callTy call_tuple_of (by rfl) m_tuple (by decide +kernel) (pa_cons (pv 1) pa_nil)) (pa_cons (pe_callTy call_tuple_of (by rfl) m_tuple (by decide +kernel) (pa_cons (pv 2) pa_nil)) pa_nil)))))))), ?_⟩
    generalize hn : cl.length = n at *
    walk_at "go"
    intro X nX
    generalize eH_ : upd H X _ = H1
    have s1 : Same H H1 := by rw [← eH_]; exact same_new nX
    have eX : H1 X = some (.lst [.non]) := by rw [← eH_]; exact upd_same
    clear eH_
    have hA1 := s1.seq hA
    walk_at "go"
    refine ⟨a, _, rfl, .inl (hA1), ?_⟩
    rw [List.length_map]
    walk_at "go"
    have sz : ∀ x : V, ([x] : List V).length * ((cs.length : Nat) : Int).toNat ≤ sizeLine := fun x => by
      show 1 * ((cs.length : Nat) : Int).toNat ≤ sizeLine
      rw [Int.toNat_natCast, Nat.one_mul]
      exact Nat.le_trans (show cs.length ≤ 1000 by omega) (by decide)
    refine ⟨X, _, _, rfl, rfl, eX, by omega, by omega, sz _, ?_⟩
    rw [Int.toNat_natCast, lc, vls_rep]
    intro R nR
    generalize eH_ : upd H1 R _ = H2
    have s2 : Same H1 H2 := by rw [← eH_]; exact same_new nR
    have eR : H2 R = some (.lst (vls (fun _ => .non) n)) := by rw [← eH_]; exact upd_same
    clear eH_
    walk_at "go"
    intro Y nY
    generalize eH_ : upd H2 Y _ = H3
    have s3 : Same H2 H3 := by rw [← eH_]; exact same_new nY
    have eY : H3 Y = some (.lst [.str "open"]) := by rw [← eH_]; exact upd_same
    clear eH_
    walk_at "go"
    refine ⟨a, _, rfl, .inl ((s1.trans (s2.trans s3)).seq hA), ?_⟩
    rw [List.length_map]
    walk_at "go"
    refine ⟨Y, _, _, rfl, rfl, eY, by omega, by omega, sz _, ?_⟩
    rw [Int.toNat_natCast, lc, vls_rep]
    intro W nW
    generalize eH_ : upd H3 W _ = H4
    have s4 : Same H3 H4 := by rw [← eH_]; exact same_new nW
    have eW : H4 W = some (.lst (vls (fun _ => .str "open") n)) := by rw [← eH_]; exact upd_same
    clear eH_
    have s14 := s1.trans (s2.trans (s3.trans s4))
    have eR4 := s4 _ _ (s3 _ _ eR)
    have nHR : H R = none := by
      cases e : H R with
      | none => rfl
      | some o =>
        have := s1 R o e
        rw [nR] at this
        cases this
    have nHW : H W = none := by
      cases e : H W with
      | none => rfl
      | some o =>
        have := (s1.trans (s2.trans s3)) W o e
        rw [nW] at this
        cases this
    have RW : R ≠ W := ne_of_none (s3 _ _ eR) nW
    generalize hC : Cn cl = C at q
    dsimp only [List.set]
    walk_at "go"
    refine ⟨fun σ' H' => Same H H' ∧ ∃ m, IsStop C n m ∧ H' R = some (.lst (vls (fun p => rV (rnd C m p)) n)) ∧ H' W = some (.lst (vls (fun p => wV (rnd C m p)) n)) ∧ ∃ v3 v4 v5 v6 v7 v8 v9 : Option V, σ' = [some (.ref a), some (.ref R), some (.ref W), v3, v4, v5, v6, v7, v8, v9], ?_, ?_⟩
    rotate_left
    · rintro σ' H5 ⟨s5, m, st, eR5, eW5, v3, v4, v5, v6, v7, v8, v9, rfl⟩
      walk_at "go"
      refine ⟨R, _, rfl, .inl ⟨SqL.of eR5, ?_⟩⟩
      intro T1 nT1
      generalize eH_ : upd H5 T1 _ = H6
      have s6 : Same H5 H6 := by rw [← eH_]; exact same_new nT1
      have eT1 : H6 T1 = some (.tup (vls (fun p => rV (rnd C m p)) n)) := by rw [← eH_]; exact upd_same
      clear eH_
      walk_at "go"
      refine ⟨W, _, rfl, .inl ⟨SqL.of (s6 _ _ eW5), ?_⟩⟩
      intro T2 nT2
      generalize eH_ : upd H6 T2 _ = H7
      have s7 : Same H6 H7 := by rw [← eH_]; exact same_new nT2
      have eT2 : H7 T2 = some (.tup (vls (fun p => wV (rnd C m p)) n)) := by rw [← eH_]; exact upd_same
      clear eH_
      walk_at "go"
      intro T nT
      have s8 := same_new (o := .tup [.ref T1, .ref T2]) nT
      exact q T T1 T2 _ m (s5.trans (s6.trans (s7.trans s8))) st upd_same (s8 _ _ (s7 _ _ eT1)) (s8 _ _ eT2)
    walk_at "go"
    refine ⟨a, _, rfl, .inl (s14.seq hA), ?_⟩
    rw [List.length_map]
    walk_at "go"
    refine for_gen (n := n) (fun i σ H5 => Same H H5 ∧ H5 R = some (.lst (vls (fun p => rV (rnd C i p)) n)) ∧ H5 W = some (.lst (vls (fun p => wV (rnd C i p)) n)) ∧ (∀ k, 1 ≤ k → k ≤ i → ¬ Quiet C n k) ∧ ∃ v3 v4 v5 v6 v7 v8 v9 : Option V, σ = [some (.ref a), some (.ref R), some (.ref W), v3, v4, v5, v6, v7, v8, v9]) ⟨s14, eR4, eW, fun k h1 h2 => by omega, _, _, _, _, _, _, _, rfl⟩ ?_ ?_ ?_ ?_
    · intro i σ H5 hi _
      show i < ((cs.length : Int) + 1 - 1).toNat
      omega
    · intro σ H5 _
      show ((cs.length : Int) + 1 - 1).toNat ≤ n
      omega
    rotate_left
    · rintro σ H5 ⟨s5, eR5, eW5, nq, v3, v4, v5, v6, v7, v8, v9, rfl⟩
      exact ⟨s5, n, ⟨Nat.le_refl _, fun k h1 h2 => nq k h1 (by omega), .inl rfl⟩, eR5, eW5, _, _, _, _, _, _, _, rfl⟩
    rintro i σ H5 x H6 hi ⟨s5, eR5, eW5, nq, v3, v4, v5, v6, v7, v8, v9, rfl⟩ ⟨rfl, rfl⟩
    walk_at "go"
    refine ⟨fun σ' H' => Same H H' ∧ H' R = some (.lst (vls (fun p => rV (rnd C (i + 1) p)) n)) ∧ H' W = some (.lst (vls (fun p => wV (rnd C (i + 1) p)) n)) ∧ ∃ v4 v5 v6 v7 v8 v9 : Option V, σ' = [some (.ref a), some (.ref R), some (.ref W), some (.int (1 + (i : Int))), v4, v5, v6, v7, v8, v9], ?_, ?_⟩
    rotate_left
    · rintro σ' H7 ⟨s7, eR7, eW7, v4, v5, v6, v7, v8, v9, rfl⟩
      walk_at "go"
      refine ⟨R, _, rfl, .inl (SqL.of eR7), rfl, flat_rounds _ _, ?_⟩
      have iq := in_rounds (rnd C (i + 1)) n (i + 1)
      rw [show ((i + 1 : Nat) : Int) = 1 + (i : Int) by omega] at iq
      refine ⟨!inV (.int (1 + (i : Int))) (vls (fun p => rV (rnd C (i + 1) p)) n), rfl, ?_⟩
      cases hin : inV (.int (1 + (i : Int))) (vls (fun p => rV (rnd C (i + 1) p)) n) with
      | false =>
        refine ite2 (fun _ => ?_) (fun e => absurd rfl e)
        exact ⟨s7, i + 1, ⟨by omega, fun k h1 h2 => nq k h1 (by omega), .inr ⟨by omega, fun p hp b e => by
          have := iq.mpr ⟨p, hp, b, e⟩
          rw [hin] at this
          cases this⟩⟩, eR7, eW7, _, _, _, _, _, _, _, rfl⟩
      | true =>
        refine ite2 (fun e => by cases e) (fun _ => ?_)
        refine ⟨s7, eR7, eW7, fun k h1 h2 => ?_, _, _, _, _, _, _, _, rfl⟩
        by_cases c : k = i + 1
        · obtain ⟨p, hp, b, e⟩ := iq.mp hin
          rw [c]
          exact fun z => z p hp b e
        · exact nq k h1 (by omega)
    · walk_at "go"
      intro T1 nT1
      generalize eH_ : upd H6 T1 _ = H7
      have s7 : Same H6 H7 := by rw [← eH_]; exact same_new nT1
      have eT1 : H7 T1 = some (.tup [.str (wd true), .str (wd (!true))]) := by rw [← eH_]; exact upd_same
      clear eH_
      walk_at "go"
      intro T2 nT2
      generalize eH_ : upd H7 T2 _ = H8
      have s8 : Same H7 H8 := by rw [← eH_]; exact same_new nT2
      have eT2 : H8 T2 = some (.tup [.str (wd false), .str (wd (!false))]) := by rw [← eH_]; exact upd_same
      clear eH_
      walk_at "go"
      intro T0 nT0
      generalize eH_ : upd H8 T0 _ = H9
      have s9 : Same H8 H9 := by rw [← eH_]; exact same_new nT0
      have eT0 : H9 T0 = some (.tup [.ref T1, .ref T2]) := by rw [← eH_]; exact upd_same
      clear eH_
      have r1 : R ≠ T1 := ne_of_none eR5 nT1
      have w1 : W ≠ T1 := ne_of_none eW5 nT1
      have r2 : R ≠ T2 := ne_of_none (s7 _ _ eR5) nT2
      have w2 : W ≠ T2 := ne_of_none (s7 _ _ eW5) nT2
      have r0 : R ≠ T0 := ne_of_none (s8 _ _ (s7 _ _ eR5)) nT0
      have w0 : W ≠ T0 := ne_of_none (s8 _ _ (s7 _ _ eW5)) nT0
      have f9 : Frm H H9 T0 T1 T2 := ⟨s5.trans (s7.trans (s8.trans s9)), eT0, s9 _ _ (s8 _ _ eT1), s9 _ _ eT2⟩
      replace eR5 := s9 _ _ (s8 _ _ (s7 _ _ eR5))
      replace eW5 := s9 _ _ (s8 _ _ (s7 _ _ eW5))
      clear s7 s8 s9 nT0 nT1 nT2 eT0 eT1 eT2
      walk_at "go"
      refine ⟨⟨_, SqT.of f9.t0⟩, ?_⟩
      refine for_gen (n := 2) (fun j σ J => Frm H J T0 T1 T2 ∧ J R = some (.lst (vls (fun p => rV (sj C (i + 1) (rnd C i) j p)) n)) ∧ J W = some (.lst (vls (fun p => wV (sj C (i + 1) (rnd C i) j p)) n)) ∧ ∃ v4 v5 v6 v7 v8 v9 : Option V, σ = [some (.ref a), some (.ref R), some (.ref W), some (.int (1 + (i : Int))), v4, v5, v6, v7, v8, v9]) ⟨f9, eR5, eW5, _, _, _, _, _, _, rfl⟩ ?_ ?_ ?_ ?_
      · rintro j σ J hj ⟨fr, _⟩
        exact ⟨_, .ref (if j = 0 then T1 else T2), SqT.of fr.t0, by
          rcases (show j = 0 ∨ j = 1 by omega) with rfl | rfl <;> rfl⟩
      · rintro σ J ⟨fr, _⟩
        exact ⟨_, SqT.of fr.t0, Nat.le_refl _⟩
      · rintro j σ J x J' hj ⟨fr, eR6, eW6, v4, v5, v6, v7, v8, v9, rfl⟩ ⟨rfl, hy⟩
        have hx := hy _ (SqT.of fr.t0)
        have ex : x = .ref (if j = 0 then T1 else T2) := by
          rcases (show j = 0 ∨ j = 1 by omega) with rfl | rfl
          · exact (Option.some.inj hx).symm
          · exact (Option.some.inj hx).symm
        subst ex
        have hT : J' (if j = 0 then T1 else T2) = some (.tup [.str (wd (decide (j = 0))), .str (wd (!(decide (j = 0))))]) := by
          rcases (show j = 0 ∨ j = 1 by omega) with rfl | rfl
          · exact fr.t1
          · exact fr.t2
        have sn := sj_next C (i + 1) (rnd C i) hj
        generalize sj C (i + 1) (rnd C i) j = S at eR6 eW6 sn
        generalize (decide (j = 0)) = b at hT sn
        refine ⟨_, _, rfl, SqT.of hT, rfl, _, _, rfl, _, _, rfl, rfl, ?_⟩
        walk_at "go"
        refine ⟨true, a, _, rfl, fr.sm.seq hA, ?_⟩
        refine for_enum (b := true) (H0 := H) hA (fun k σ J => Frm H J T0 T1 T2 ∧ J R = some (.lst (vls (fun p => rV (mix b C (i + 1) S k p)) n)) ∧ J W = some (.lst (vls (fun p => wV (mix b C (i + 1) S k p)) n)) ∧ ∃ v6 v7 v8 v9 : Option V, σ = [some (.ref a), some (.ref R), some (.ref W), some (.int (1 + (i : Int))), some (.str (wd b)), some (.str (wd (!b))), v6, v7, v8, v9]) ⟨fr, by rw [mix_zero]; exact eR6, by rw [mix_zero]; exact eW6, _, _, _, _, rfl⟩ (fun k σ J p => p.1.sm) ?_ ?_
        · rintro k v σ J1 J2 ev ⟨fr, eR7, eW7, v6, v7, v8, v9, rfl⟩ s12
          obtain ⟨c, ec, rfl⟩ := of_map ev
          have hk : k < cs.length := (List.getElem?_eq_some_iff.mp ec).1
          have el : cl[k]? = some (cl[k]'(by omega)) := List.getElem?_eq_getElem (show k < cl.length by omega)
          generalize cl[k]'(by omega) = l at el
          obtain ⟨hl1, hl2, hl3⟩ := hc k c l ec el
          replace fr := fr.mono s12
          replace eR7 := s12 _ _ eR7
          replace eW7 := s12 _ _ eW7
          have hL := fr.sm.seq hl1
          have eC : C k = l.map Int.toNat := by
            rw [← hC]
            unfold Cn
            rw [List.getD_eq_getElem?_getD, el]
            rfl
          walk_at "go"
          refine ⟨⟨_, hL⟩, fun B nB => ?_⟩
          refine lc_lstV hL (fun x => .bl (if b then refu S x.toNat else uphe S x.toNat)) (by omega) nB (fun _ => rfl) ?_ ?_
          · intro x J3 Q1 hx s3 q1
            obtain ⟨x0, x1⟩ := hl3 x hx
            walk_at "go"
            refine ⟨W, _, _, _, rfl, rfl, SqL.of (s3 _ _ eW7), at_vls x0 (by omega), ?_⟩
            walk_at "go"
            have z := q1 _ (Same.refl _)
            rw [← mix_see b C (i + 1) S k, ← wV_ref] at z
            exact ⟨wV_scal _ _, z⟩
          intro J3 s3 eB
          replace fr := fr.mono s3
          replace eR7 := s3 _ _ eR7
          replace eW7 := s3 _ _ eW7
          clear s3 s12
          have mk : mix b C (i + 1) S k k = S k := by
            unfold mix
            rw [if_neg (by omega)]
          have nx := mix_next b C (i + 1) S k
          have keep : (S k).isNone = false ∨ Ru.cond b C S k = false → mix b C (i + 1) S (k + 1) = mix b C (i + 1) S k := fun h => by
            rw [nx]
            funext p
            by_cases c : p = k
            · subst c
              rw [if_pos rfl, mk, if_neg (by rcases h with h | h <;> simp [h])]
            · rw [if_neg c]
          have eb : (l.map fun x => V.bl (if b then refu S x.toNat else uphe S x.toNat)) = (l.map fun x => (if b then refu S x.toNat else uphe S x.toNat)).map V.bl := by
            rw [List.map_map]
            rfl
          rw [eb] at eB
          have ec2 : Ru.cond b C S k = if b then (l.map fun x => (if b then refu S x.toNat else uphe S x.toNat)).all id else (l.map fun x => (if b then refu S x.toNat else uphe S x.toNat)).any id := by
            unfold Ru.cond
            rw [eC]
            cases b <;> simp [List.all_map, List.any_map, Function.comp_def]
          dsimp only [List.set]
          walk_at "go"
          refine ⟨W, _, _, _, rfl, rfl, SqL.of eW7, at_vls (by omega) (by omega), ?_⟩
          walk_at "go"
          refine ⟨wV_scal _ _, _, rfl, ?_⟩
          have ew : decide (wV (mix b C (i + 1) S k (k : Int).toNat) = V.str "open") = (S k).isNone := by
            rw [Int.toNat_natCast, wV_open, mk]
          refine ite2 (fun e1 => ?_) (fun e1 => ?_)
          · walk_at "go"
            have e1' : (S k).isNone = true := by
              rw [← ew]
              exact e1
            have fin : ∀ J : Hp, J = upd (upd J3 W (.lst ((vls (fun p => wV (mix b C (i + 1) S k p)) n).set k (.str (wd b))))) R (.lst ((vls (fun p => rV (mix b C (i + 1) S k p)) n).set k (.int (1 + (i : Int))))) → Ru.cond b C S k = true → Frm H J T0 T1 T2 ∧ J R = some (.lst (vls (fun p => rV (mix b C (i + 1) S (k + 1) p)) n)) ∧ J W = some (.lst (vls (fun p => wV (mix b C (i + 1) S (k + 1) p)) n)) := by
              intro J eJ hcd
              have fw : Frm H J T0 T1 T2 := by
                rw [eJ]
                exact (fr.put nHW w0 w1 w2).put nHR r0 r1 r2
              have nx' : mix b C (i + 1) S (k + 1) = fun p => if p = k then some (b, i + 1) else mix b C (i + 1) S k p := by
                rw [nx, e1', hcd]
                rfl
              refine ⟨fw, ?_, ?_⟩
              · rw [eJ, upd_same, vls_set, nx']
                refine congrArg (fun z => some (HO.lst z)) (vls_congr fun p _ => ?_)
                dsimp only
                by_cases c : p = k
                · rw [if_pos c, if_pos c]
                  show V.int (1 + (i : Int)) = V.int ((i + 1 : Nat) : Int)
                  congr 1
                  omega
                · rw [if_neg c, if_neg c]
              · rw [eJ, upd_ne RW.symm, upd_same, vls_set, nx']
                refine congrArg (fun z => some (HO.lst z)) (vls_congr fun p _ => ?_)
                dsimp only
                by_cases c : p = k
                · rw [if_pos c, if_pos c, wV_some]
                · rw [if_neg c, if_neg c]
            have non : Ru.cond b C S k = false → mix b C (i + 1) S (k + 1) = mix b C (i + 1) S k := fun h => keep (.inr h)
            refine ite2 (fun eb1 => ?_) (fun eb1 => ?_)
            all_goals
              walk_at "go"
              refine ⟨B, _, rfl, SqL.of eB, _, rfl, ?_⟩
              refine ite2 (fun e3 => ?_) (fun e3 => ?_)
              · walk_at "go"
                refine ⟨W, _, k, k, rfl, rfl, eW7, ixN_k (by rw [vls_len]; omega), ?_⟩
                walk_at "go"
                refine ⟨R, _, k, k, rfl, rfl, by rw [upd_ne RW]; exact eR7, ixN_k (by rw [vls_len]; omega), ?_⟩
                have hcd : Ru.cond b C S k = true := by
                  first
                    | (rw [ec2, if_pos (show b = true from (wd_up b).symm.trans eb1)]; exact e3)
                    | (rw [ec2, if_neg (show ¬ b = true from fun hb => eb1 ((wd_up b).trans hb))]; exact e3)
                obtain ⟨z1, z2, z3⟩ := fin _ rfl hcd
                exact ⟨z1, z2, z3, _, _, _, _, rfl⟩
              · have hcd : Ru.cond b C S k = false := by
                  first
                    | (rw [ec2, if_pos (show b = true from (wd_up b).symm.trans eb1)]; exact (Bool.not_eq_true _).mp e3)
                    | (rw [ec2, if_neg (show ¬ b = true from fun hb => eb1 ((wd_up b).trans hb))]; exact (Bool.not_eq_true _).mp e3)
                exact ⟨fr, by rw [non hcd]; exact eR7, by rw [non hcd]; exact eW7, _, _, _, _, rfl⟩
          · refine ite2 (fun e2 => absurd e2 (by simp)) (fun _ => ?_)
            replace e1 : (S k).isNone = false := by
              rw [← ew]
              exact (Bool.not_eq_true _).mp e1
            exact ⟨fr, by rw [keep (.inl e1)]; exact eR7, by rw [keep (.inl e1)]; exact eW7, _, _, _, _, rfl⟩
        · rintro σ J ⟨fr, eR7, eW7, v6, v7, v8, v9, rfl⟩
          rw [List.length_map, lc] at eR7 eW7
          have em : ∀ p, p < n → mix b C (i + 1) S n p = pss b C (i + 1) S p := fun p hp => by
            unfold mix
            rw [if_pos hp]
          refine ⟨fr, ?_, ?_, _, _, _, _, _, _, rfl⟩
          · rw [eR7, sn]
            exact congrArg (fun z => some (HO.lst z)) (vls_congr fun p hp => by rw [em p hp])
          · rw [eW7, sn]
            exact congrArg (fun z => some (HO.lst z)) (vls_congr fun p hp => by rw [em p hp])
      · rintro σ J ⟨fr, eR6, eW6, v4, v5, v6, v7, v8, v9, rfl⟩
        exact ⟨fr.sm, eR6, eW6, _, _, _, _, _, _, rfl⟩
end
end Z
set_option pp.maxSteps 700
set_option Elab.async false
set_option linter.all false
set_option maxRecDepth 100000
set_option maxHeartbeats 4000000
namespace Z
open Ru
open PySem PySem.Spec PyProof.Rows L2
open C8 (pss_cut tCut)
local macro_rules | `(tactic| walk_at "num") => `(tactic| first | rfl | omega | decide | exact Nat.le_of_lt (small1000 (by simp)) | exact ⟨by omega, by omega⟩ | exact ⟨by omega, by omega, by omega⟩ | exact ⟨by decide, by decide, by decide⟩ | exact Or.inl ⟨by omega, by omega⟩ | exact Or.inr ⟨by omega, by omega⟩)
local macro_rules | `(tactic| walk_at "go") => `(tactic| repeat (first | refine ⟨_, rfl, ?_⟩ | refine ⟨_, _, rfl, rfl, ?_⟩ | refine ⟨_, _, rfl, ?_⟩ | (refine ⟨_, _, rfl, rfl, ?_, ?_⟩; focus walk_at "num") | refine Or.inl ⟨_, rfl, ?_⟩ | refine ⟨_, _, _, _, rfl, rfl, (by assumption), (by rfl), ?_⟩ | refine ⟨_, _, _, _, _, rfl, (by assumption), (by assumption), (by assumption), (by rfl), ?_⟩ | refine ⟨rfl, ?_⟩ | (refine And.intro ?_ ?_; focus walk_at "num")))
abbrev s_Case___init__ : Stmt := inClass (topS 9) 0
abbrev N_Case___init__ : List Str := ["self", "ranks", "answers", "paper", "answered", "pair"]
abbrev P_Case___init__ : List Str := ["self", "ranks", "answers"]
theorem sc_Case___init__ : FnScope N_Case___init__ P_Case___init__ (defScope s_Case___init__) := ⟨rfl, rfl, rfl, by decide +kernel, rfl, by decide +kernel, by decide +kernel⟩
abbrev s_Case_ruling : Stmt := inClass (topS 9) 1
abbrev N_Case_ruling : List Str := ["self"]
abbrev P_Case_ruling : List Str := ["self"]
theorem sc_Case_ruling : FnScope N_Case_ruling P_Case_ruling (defScope s_Case_ruling) := ⟨rfl, rfl, rfl, by decide +kernel, rfl, by decide +kernel, by decide +kernel⟩
abbrev s_Case_settled : Stmt := inClass (topS 9) 2
abbrev N_Case_settled : List Str := ["self"]
abbrev P_Case_settled : List Str := ["self"]
theorem sc_Case_settled : FnScope N_Case_settled P_Case_settled (defScope s_Case_settled) := ⟨rfl, rfl, rfl, by decide +kernel, rfl, by decide +kernel, by decide +kernel⟩
abbrev FnM (K : PySem.W.Frag) (x q : Str) (st : Stmt) (f : Addr) (fd : FuncData) : Prop := FunD K x q (defArgs st) (defBody st) (defScope st) [] [] f fd
def bO (b : Bool) (xs : List V) : HO := match b with
  | true => .lst xs
  | false => .tup xs
theorem bO_sq {b : Bool} {K : PySem.W.Frag} {H : Hp} {a : Addr} {xs : List V} (h : H a = some (bO b xs)) : SqK b K H a xs := by
  cases b
  · exact .inl (.inl h)
  · exact .inl (.inl h)
/-- a list or tuple of pairs (lists or tuples) -/
structure PrB (b c : Bool) (H : Hp) (a : Addr) (ps : List Addr) (rs : List (Int × Int)) : Prop where
  sq : H a = some (bO b (ps.map V.ref))
  len : ps.length = rs.length
  at_ : ∀ (i : Nat) (p : Addr) (r : Int × Int), ps[i]? = some p → rs[i]? = some r → H p = some (bO c [.int r.1, .int r.2])
theorem PrB.mono {b c : Bool} {H H' : Hp} {a : Addr} {ps : List Addr} {rs : List (Int × Int)} (s : Same H H') (m : PrB b c H a ps rs) : PrB b c H' a ps rs :=
  ⟨s _ _ m.sq, m.len, fun i p r h1 h2 => s _ _ (m.at_ i p r h1 h2)⟩
theorem bO_ne {b : Bool} {xs : List V} {C dx : Addr} {fs : List (Str × V)} : bO b xs ≠ .ins C dx fs := by
  cases b <;> exact nofun
theorem sb_bO {b : Bool} {H H' : Hp} {n C dx a : Addr} {fs : List (Str × V)} {xs : List V} (s : SB n H H') (hn : H n = some (.ins C dx fs)) (h : H a = some (bO b xs)) : H' a = some (bO b xs) :=
  s _ _ (fun z => by rw [z, hn] at h; exact bO_ne (Option.some.inj h).symm) h
theorem PrB.sb {b c : Bool} {H H' : Hp} {n C dx a : Addr} {fs : List (Str × V)} {ps : List Addr} {rs : List (Int × Int)} (s : SB n H H') (hn : H n = some (.ins C dx fs)) (m : PrB b c H a ps rs) : PrB b c H' a ps rs :=
  ⟨sb_bO s hn m.sq, m.len, fun i p r h1 h2 => sb_bO s hn (m.at_ i p r h1 h2)⟩
/-- the first number that is not that of a paper -/
def isP (n : Nat) (x : Int) : Bool := decide (0 ≤ x ∧ x < n)
def badN (n : Nat) : List (Int × Int) → Option Int
  | [] => none
  | r :: t => if isP n r.1 then (if isP n r.2 then badN n t else some r.2) else some r.1
theorem badN_none {n : Nat} : ∀ {prs : List (Int × Int)}, badN n prs = none → ∀ x ∈ prs, 0 ≤ x.1 ∧ x.1 < n ∧ 0 ≤ x.2 ∧ x.2 < n := by
  intro prs
  induction prs with
  | nil => exact fun _ x hx => absurd hx (by simp)
  | cons r t ih =>
    intro h x hx
    unfold badN at h
    by_cases h1 : isP n r.1 = true
    · rw [if_pos h1] at h
      by_cases h2 : isP n r.2 = true
      · rw [if_pos h2] at h
        rcases List.mem_cons.mp hx with rfl | hx
        · have a1 := of_decide_eq_true h1
          have a2 := of_decide_eq_true h2
          exact ⟨a1.1, a1.2, a2.1, a2.2⟩
        · exact ih h x hx
      · rw [if_neg h2] at h
        cases h
    · rw [if_neg h1] at h
      cases h
theorem asc_len {n : Int} : ∀ (l : List Int) (lo : Int), l.Pairwise (· < ·) → (∀ x ∈ l, lo ≤ x ∧ x < n) → lo ≤ n → (l.length : Int) ≤ n - lo := by
  intro l
  induction l with
  | nil => intro lo _ _ h; simp; omega
  | cons x r ih =>
    intro lo p hx h
    have hx0 := hx x List.mem_cons_self
    have p2 := List.pairwise_cons.mp p
    have z := ih (x + 1) p2.2 (fun y hy => ⟨by have := p2.1 y hy; omega, (hx y (List.mem_cons_of_mem _ hy)).2⟩) (by omega)
    rw [List.length_cons]
    omega
structure CaseAt (C : Addr) (K : PySem.W.Frag) (H : Hp) (n : Addr) (rs : List Int) (prs : List (Int × Int)) (dx tr ta : Addr) (ps : List Addr) (L : Addr) (cs : List Addr) (cl : List (List Int)) (tR tW : Addr) (m : Nat) : Prop where
  ob : H n = some (.ins C dx [("ranks", .ref tr), ("answers", .ref ta), ("kept_counting", .ref L), ("kept_rounds", .ref tR), ("kept_words", .ref tW)])
  rk : H tr = some (.tup (rs.map V.int))
  an : PrB false false H ta ps prs
  cn : H L = some (.lst (cs.map V.ref))
  lc : cs.length = rs.length
  ll : cl.length = rs.length
  ca : ∀ (i : Nat) c l, cs[i]? = some c → cl[i]? = some l → H c = some (.lst (l.map V.int))
  ok : ∀ (p : Nat) l, cl[p]? = some l → CntOk rs prs p l
  st : IsStop (Cn cl) rs.length m
  rn : H tR = some (.tup (vls (fun p => rV (rnd (Cn cl) m p)) rs.length))
  wn : H tW = some (.tup (vls (fun p => wV (rnd (Cn cl) m p)) rs.length))
def CaseA (C : Addr) (K : PySem.W.Frag) (H : Hp) (n : Addr) (rs : List Int) (prs : List (Int × Int)) : Prop := ∃ dx tr ta ps L cs cl tR tW m, CaseAt C K H n rs prs dx tr ta ps L cs cl tR tW m
/-- a case whose lists were made since the heap H0 -/
def CaseF (C : Addr) (K : PySem.W.Frag) (H0 H : Hp) (n : Addr) (rs : List Int) (prs : List (Int × Int)) : Prop := ∃ dx tr ta ps L cs cl tR tW m, CaseAt C K H n rs prs dx tr ta ps L cs cl tR tW m ∧ H0 L = none ∧ ∀ c ∈ cs, H0 c = none
section
variable {P : Program} {w : World} {K : PySem.W.Frag} {mg : Str → Option Value} {base : Heap} {f C CB : Addr} {fd : FuncData}
def spCase (C CB : Addr) (K : PySem.W.Frag) : Sp := fun vs H Q E => ∃ (br b c : Bool) (n dx r a : Addr) (rs : List Int) (ps : List Addr) (prs : List (Int × Int)), vs = [.ref n, .ref r, .ref a] ∧ H n = some (.ins C dx []) ∧ H r = some (bO br (rs.map V.int)) ∧ PrB b c H a ps prs ∧ rs.length ≤ 1000 ∧ prs.length ≤ 1000 ∧
  (badN rs.length prs = none → ∀ H', SB n H H' → CaseF C K H H' n rs prs → Q .non H') ∧ ∀ x, badN rs.length prs = some x → ∀ d, H d = none → E (.ref CB) (some d) (upd H d (.xd [("number", .int x)]))
theorem ok_init (F : FnM K "__init__" "Case.__init__" s_Case___init__ f fd) (cls : Cls K C) (n_ranks : NoAttr K C "ranks") (n_answers : NoAttr K C "answers") (n_kept_counting : NoAttr K C "kept_counting") (n_kept_rounds : NoAttr K C "kept_rounds") (n_kept_words : NoAttr K C "kept_words") (m_len : mg "len" = none) (m_tuple : mg "tuple" = none) (c_check_paper : CalX P w K mg base 3 "check_paper" (spChkP CB)) (c_counting_answers : Cal P w K mg base 1 "counting_answers" (spCntA K)) (c_ruled : Cal P w K mg base 1 "ruled" (spRuled K)) : FnOk P w K mg base (L2N.CX P w) 4 f fd P_Case___init__ (spCase C CB K) := by
  refine F.ok sc_Case___init__ (fun vs H Q E h => ?_) (fun cdv A outer s H vs Q E hr h => ?_)
  · obtain ⟨br, b, c, n, dx, r, a, rs, ps, prs, rfl, _⟩ := h
    rfl
  · obtain ⟨br, b, c, n, dx, r, a, rs, ps, prs, rfl, hn, hR, hP, lr, lp, q, qe⟩ := h
    have tk := takes_fn (P := P) (w := w) (K := K) (mg := mg) (base := base) (N := N_Case___init__) (qual := "Case.__init__") (scope := defScope s_Case___init__) (f := f) (cd := cdv) (A := A) (outer := outer) (s := s) (H := H) (E := E)
    refine ⟨_, (pss_cut (ps_for (passes_of rfl) rfl (pi_sq (pv 2)) (pg_or (pg_unl rfl (pgs_cons (pg_name (i := 3) sc_Case___init__.nd rfl (by first | exact .inl rfl | exact .inr rfl)) (pgs_cons (pg_name (i := 4) sc_Case___init__.nd rfl (by first | exact .inl rfl | exact .inr rfl)) pgs_nil))) (pg_tup rfl (pgs_cons (pg_name (i := 3) sc_Case___init__.nd rfl (by first | exact .inl rfl | exact .inr rfl)) (pgs_cons (pg_name (i := 4) sc_Case___init__.nd rfl (by first | exact .inl rfl | exact .inr rfl)) pgs_nil))))
        (pss_cons (ps_expr (pe_clE c_check_paper (fun σ => L2N.passAt tk σ) hr (by decide) (by rfl) (pa_cons (pv 3) (pa_cons (pe_callB call_len_seq (by rfl) m_len PySem.boot_len (pa_cons (pv 1) pa_nil)) pa_nil))))
      (pss_one (ps_expr (pe_clE c_check_paper (fun σ => L2N.passAt tk σ) hr (by decide) (by rfl) (pa_cons (pv 4) (pa_cons (pe_callB call_len_seq (by rfl) m_len PySem.boot_len (pa_cons (pv 1) pa_nil)) pa_nil)))))))
      (pss_cons (ps_fld (pv 0) (pe_callTy call_tuple_of (by rfl) m_tuple (by decide +kernel) (pa_cons (pv 1) pa_nil)) rfl)
      (pss_cons (ps_fld (pv 0) (pe_callTy call_tuple_of (by rfl) m_tuple (by decide +kernel) (pa_cons (pe_lc (own := [("pair", 5)]) (g := (gName 5)) (tt := tYes) (by rfl) sc_Case___init__.nd (pi_sq (pv 2)) (blkOk_by (own := [("pair", 5)]) (N := N_Case___init__) (sc := defScope s_Case___init__) (by decide +kernel)) (fun _ _ _ _ _ => (pg_name (i := 5) sc_Case___init__.nd rfl (by first | exact .inl rfl | exact .inr rfl))) (fun _ _ _ _ _ => pts_nil) (fun _ _ _ _ _ => (pe_callTy (call_tuple_of_K (K := K) rfl) (by rfl) m_tuple (by decide +kernel) (pa_cons (pv 5) pa_nil)))) pa_nil)) rfl)
      (pss_cons (ps_fld (pv 0) (pe_cl c_counting_answers hr (by decide) (by rfl) (pa_cons (pe_fld (pv 0) rfl) (pa_cons (pe_fld (pv 0) rfl) pa_nil))) rfl)
      (pss_one (ps_asg (pe_cl c_ruled hr (by decide) (by rfl) (pa_cons (pe_fld (pv 0) rfl) pa_nil)) (pg_tup rfl (pgs_cons (pg_fld (pv 0)) (pgs_cons (pg_fld (pv 0)) pgs_nil))))))))), ?_⟩
    have hSr : SqK br K H r (rs.map V.int) := bO_sq hR
    have hSa : SqK b K H a (ps.map V.ref) := bO_sq hP.sq
    have lps := hP.len
    refine ⟨fun σ' H' => H' = H ∧ badN rs.length prs = none ∧ ∃ v3 v4 v5 : Option V, σ' = [some (.ref n), some (.ref r), some (.ref a), v3, v4, v5], ?_, ?_⟩
    · refine rd_sq (b := b) (a := a) rfl hSa ?_
      refine for_gen (n := ps.length) (fun k σ J => J = H ∧ badN rs.length prs = badN rs.length (prs.drop k) ∧ ∃ v3 v4 v5 : Option V, σ = [some (.ref n), some (.ref r), some (.ref a), v3, v4, v5]) ⟨rfl, rfl, _, _, _, rfl⟩ ?_ ?_ ?_ ?_
      · rintro k σ J hk ⟨rfl, _⟩
        exact itq_go hSa (by rw [List.getElem?_map, List.getElem?_eq_getElem hk]; rfl)
      · rintro σ J ⟨rfl, _⟩
        exact itq_stop hSa (by rw [List.length_map]; exact Nat.le_refl _)
      · rintro k σ J x J' hk ⟨rfl, hbd, v3, v4, v5, rfl⟩ hy
        obtain ⟨rfl, ex⟩ := itq_yld hSa hy
        obtain ⟨p, ep, rfl⟩ := of_map ex
        have er : prs[k]? = some (prs[k]'(by omega)) := List.getElem?_eq_getElem (show k < prs.length by omega)
        have ed : prs.drop k = prs[k]'(by omega) :: prs.drop (k + 1) := List.drop_eq_getElem_cons (by omega)
        generalize prs[k]'(by omega) = z at er ed
        have hp := hP.at_ k p z ep er
        obtain ⟨x1, x2⟩ := z
        rw [ed] at hbd
        dsimp only at hp
        have len1 : ∀ x : Int, (0 ≤ x ∧ x < ((rs.map V.int).length : Nat)) ↔ isP rs.length x = true := fun x => by
          unfold isP
          rw [List.length_map, decide_eq_true_iff]
        have hor : SqL K J' r (rs.map V.int) ∨ SqT K J' r (rs.map V.int) := by
          cases br
          · exact .inr hSr
          · exact .inl hSr
        cases c
        all_goals
          first
            | refine .inl ⟨p, _, rfl, SqL.of hp, rfl, ?_⟩
            | refine .inr ⟨p, _, rfl, SqT.of hp, rfl, ?_⟩
          refine ⟨_, _, rfl, _, _, rfl, rfl, ?_⟩
          walk_at "go"
          refine ⟨r, _, rfl, hor, ?_⟩
          walk_at "go"
          refine ⟨fun o1 => ?_, fun o1 => ?_⟩
          rotate_left
          · have n1 : ¬ isP rs.length x1 = true := fun z => o1 ((len1 x1).mpr z)
            refine qe x1 ?_
            rw [hbd, badN, if_neg n1]
          have p1 := (len1 x1).mp o1
          walk_at "go"
          refine ⟨r, _, rfl, hor, ?_⟩
          walk_at "go"
          refine ⟨fun o2 => ?_, fun o2 => ?_⟩
          rotate_left
          · have n2 : ¬ isP rs.length x2 = true := fun z => o2 ((len1 x2).mpr z)
            refine qe x2 ?_
            rw [hbd, badN, if_pos p1, if_neg n2]
          have p2 := (len1 x2).mp o2
          refine ⟨rfl, ?_, _, _, _, rfl⟩
          rw [hbd, badN, if_pos p1, if_pos p2]
      · rintro σ J ⟨rfl, hbd, v3, v4, v5, rfl⟩
        rw [lps, List.drop_length] at hbd
        exact ⟨rfl, hbd, _, _, _, rfl⟩
    · rintro σ' H' ⟨rfl, hb, v3, v4, v5, rfl⟩
      replace q := q hb
      clear qe
      walk_at "go"
      cases br
      case true =>
        refine ⟨r, _, rfl, .inl ⟨hSr, fun tr ntr => ?_⟩⟩
        have s1 := same_new (o := .tup (rs.map V.int)) ntr
        have eTr : (upd H' tr (.tup (rs.map V.int))) tr = some (.tup (rs.map V.int)) := upd_same
        generalize upd H' tr (.tup (rs.map V.int)) = H1 at s1 eTr
        walk_at "go"
        refine ⟨n, C, dx, _, rfl, s1 _ _ hn, cls, n_ranks, by decide, ?_⟩
        have ntn : tr ≠ n := fun z => by
          rw [z, s1 _ _ hn] at eTr
          cases eTr
        have sb2 : SB n H' (upd H1 n (.ins C dx (putF "ranks" (.ref tr) []))) := (Z.Same.sb s1).trans (SB.upd (Z.Same.sb (Same.refl _)))
        have eN2 : (upd H1 n (.ins C dx (putF "ranks" (.ref tr) []))) n = some (.ins C dx [("ranks", .ref tr)]) := upd_same
        have eT2 : (upd H1 n (.ins C dx (putF "ranks" (.ref tr) []))) tr = some (.tup (rs.map V.int)) := by rw [upd_ne ntn]; exact eTr
        generalize upd H1 n (.ins C dx (putF "ranks" (.ref tr) [])) = H2 at sb2 eN2 eT2
        have hP2 := hP.sb sb2 hn
        clear s1 eTr
        walk_at "go"
        refine rd_sq (b := b) (a := a) rfl (bO_sq hP2.sq) ?_
        intro D nD
        refine lc_gen (n := ps.length) (fun i J => Same H2 J ∧ ∃ qs : List Addr, J D = some (.lst (qs.map V.ref)) ∧ qs.length = i ∧ ∀ (k : Nat) u z, qs[k]? = some u → prs[k]? = some z → u ≠ D ∧ J u = some (.tup [.int z.1, .int z.2])) ⟨same_new nD, [], upd_same, rfl, fun k u z h => by simp at h⟩ ?_ ?_ ?_ ?_
        · rintro k J hk ⟨s3, _⟩
          exact itq_go (bO_sq (hP2.mono s3).sq) (by rw [List.getElem?_map, List.getElem?_eq_getElem hk]; rfl)
        · rintro J ⟨s3, _⟩
          exact itq_stop (bO_sq (hP2.mono s3).sq) (by rw [List.length_map]; exact Nat.le_refl _)
        · rintro k J x J' hk ⟨s3, qs, eD, lq, al⟩ hy
          have hP3 := hP2.mono s3
          obtain ⟨rfl, ex⟩ := itq_yld (bO_sq hP3.sq) hy
          obtain ⟨p, ep, rfl⟩ := of_map ex
          have er : prs[k]? = some (prs[k]'(by omega)) := List.getElem?_eq_getElem (show k < prs.length by omega)
          generalize prs[k]'(by omega) = z at er
          have hp := hP3.at_ k p z ep er
          have pD : p ≠ D := fun e => by
            have := hP2.at_ k p z ep er
            rw [e, nD] at this
            cases this
          have step : ∀ (J2 : Hp) (u : Addr), Same J' J2 → J2 u = some (.tup [.int z.1, .int z.2]) → u ≠ D → Same H2 (upd J2 D (.lst (qs.map V.ref ++ [V.ref u]))) ∧ ∃ qs2 : List Addr, (upd J2 D (.lst (qs.map V.ref ++ [V.ref u]))) D = some (.lst (qs2.map V.ref)) ∧ qs2.length = k + 1 ∧ ∀ (i : Nat) v z, qs2[i]? = some v → prs[i]? = some z → v ≠ D ∧ (upd J2 D (.lst (qs.map V.ref ++ [V.ref u]))) v = some (.tup [.int z.1, .int z.2]) := by
            intro J2 u sJ eu uD
            refine ⟨Z.Same.mut (s3.trans sJ) nD, qs ++ [u], by rw [upd_same, List.map_append]; rfl, by rw [List.length_append, lq]; rfl, fun i v z2 hv hz => ?_⟩
            by_cases hi : i < qs.length
            · rw [List.getElem?_append_left hi] at hv
              obtain ⟨a1, a2⟩ := al i v z2 hv hz
              exact ⟨a1, by rw [upd_ne a1]; exact sJ _ _ a2⟩
            · rw [List.getElem?_append_right (by omega)] at hv
              have h0 := (List.getElem?_eq_some_iff.mp hv).1
              have hk2 : i = k := by
                rw [List.length_singleton] at h0
                omega
              rw [hk2, lq, Nat.sub_self] at hv
              rw [hk2, er] at hz
              cases hv
              cases hz
              exact ⟨uD, by rw [upd_ne uD]; exact eu⟩
          have len : (qs.map V.ref).length < sizeLine := by
            rw [List.length_map, lq]
            exact Nat.lt_of_lt_of_le (show k < 1000 by omega) (by decide)
          cases c with
          | true =>
            walk_at "go"
            refine ⟨p, _, rfl, .inl ⟨SqL.of hp, fun u nu => ?_⟩⟩
            have uD : u ≠ D := fun e => by
              rw [e, eD] at nu
              cases nu
            have z := step _ u (same_new nu) upd_same uD
            exact ⟨_, by rw [upd_ne uD.symm]; exact eD, len, z⟩
          | false =>
            walk_at "go"
            refine ⟨p, _, rfl, .inr ⟨SqT.of hp, ?_⟩⟩
            have z := step _ p (Same.refl _) hp pD
            exact ⟨_, eD, len, z⟩
        · rintro J ⟨s3, qs, eD, lq, al⟩
          walk_at "go"
          refine ⟨D, _, rfl, .inl ⟨SqL.of eD, fun ta nta => ?_⟩⟩
          have s4 := same_new (o := .tup (qs.map V.ref)) nta
          have eTa : (upd J ta (.tup (qs.map V.ref))) ta = some (.tup (qs.map V.ref)) := upd_same
          generalize upd J ta (.tup (qs.map V.ref)) = J4 at s4 eTa
          replace al : ∀ (k : Nat) u z, qs[k]? = some u → prs[k]? = some z → J4 u = some (.tup [.int z.1, .int z.2]) := fun k u z h1 h2 => s4 _ _ (al k u z h1 h2).2
          have eN4 := s4 _ _ (s3 _ _ eN2)
          have eT4 := s4 _ _ (s3 _ _ eT2)
          have sb4 := sb2.trans (Z.Same.sb (s3.trans s4))
          clear s3 s4 eD nD nta
          walk_at "go"
          refine ⟨n, C, dx, _, rfl, eN4, cls, n_answers, by simp, ?_⟩
          have an4 : PrB false false J4 ta qs prs := ⟨eTa, lq.trans lps, al⟩
          have up : ∀ {G : Hp} {o : HO}, SB n G (upd G n o) := fun {G o} => SB.upd (Z.Same.sb (Same.refl G))
          have sb5 := sb4.trans (up (G := J4) (o := .ins C dx (putF "answers" (.ref ta) [("ranks", .ref tr)])))
          have eN5 : (upd J4 n (.ins C dx (putF "answers" (.ref ta) [("ranks", .ref tr)]))) n = some (.ins C dx [("ranks", .ref tr), ("answers", .ref ta)]) := upd_same
          have eT5 : (upd J4 n (.ins C dx (putF "answers" (.ref ta) [("ranks", .ref tr)]))) tr = some (.tup (rs.map V.int)) := by rw [upd_ne ntn]; exact eT4
          have an5 := an4.sb (up (G := J4) (o := .ins C dx (putF "answers" (.ref ta) [("ranks", .ref tr)]))) eN4
          generalize upd J4 n (.ins C dx (putF "answers" (.ref ta) [("ranks", .ref tr)])) = J5 at sb5 eN5 eT5 an5
          walk_at "go"
          have fr : ∀ b, J5 b = none → H' b = none := fun b e => by
            cases e2 : H' b with
            | none => rfl
            | some o =>
              by_cases c : b = n
              · rw [c, eN5] at e
                cases e
              · rw [sb5 b o c e2] at e
                cases e
          refine ⟨tr, ta, rs, qs, prs, rfl, SqT.of eT5, ⟨bO_sq an5.sq, an5.len, fun i p r h1 h2 => bO_sq (an5.at_ i p r h1 h2)⟩, lr, lp, badN_none hb, fun L J6 cs cl s6 fr6 eL lc ll hca hok => ?_⟩
          have eN6 := s6 _ _ eN5
          have sb6 := sb5.trans (Z.Same.sb s6)
          have eT6 := s6 _ _ eT5
          have an6 := an5.mono s6
          clear s6
          walk_at "go"
          refine ⟨n, C, dx, _, rfl, eN6, cls, n_kept_counting, by simp, ?_⟩
          have nn : ∀ {G : Hp} {u : Addr} {xs : List V} {fs : List (Str × V)}, G n = some (.ins C dx fs) → G u = some (.lst xs) → u ≠ n := fun h1 h2 e => by
            rw [e, h1] at h2
            cases h2
          have nL := nn eN6 eL
          have sb7 := sb6.trans (up (G := J6) (o := (.ins C dx (putF "kept_counting" (.ref L) [("ranks", .ref tr), ("answers", .ref ta)]))))
          have eN7 : (upd J6 n (.ins C dx (putF "kept_counting" (.ref L) [("ranks", .ref tr), ("answers", .ref ta)]))) n = some (.ins C dx [("ranks", .ref tr), ("answers", .ref ta), ("kept_counting", .ref L)]) := upd_same
          have eT7 : (upd J6 n (.ins C dx (putF "kept_counting" (.ref L) [("ranks", .ref tr), ("answers", .ref ta)]))) tr = some (.tup (rs.map V.int)) := by rw [upd_ne ntn]; exact eT6
          have an7 := an6.sb (up (G := J6) (o := (.ins C dx (putF "kept_counting" (.ref L) [("ranks", .ref tr), ("answers", .ref ta)])))) eN6
          have eL7 : (upd J6 n (.ins C dx (putF "kept_counting" (.ref L) [("ranks", .ref tr), ("answers", .ref ta)]))) L = some (.lst (cs.map V.ref)) := by rw [upd_ne nL]; exact eL
          have hca7 : ∀ (i : Nat) d l, cs[i]? = some d → cl[i]? = some l → (upd J6 n (.ins C dx (putF "kept_counting" (.ref L) [("ranks", .ref tr), ("answers", .ref ta)]))) d = some (.lst (l.map V.int)) := fun i d l h1 h2 => by
            rw [upd_ne (nn eN6 (hca i d l h1 h2))]
            exact hca i d l h1 h2
          generalize upd J6 n (.ins C dx (putF "kept_counting" (.ref L) [("ranks", .ref tr), ("answers", .ref ta)])) = J7 at sb7 eN7 eT7 an7 eL7 hca7
          walk_at "go"
          refine ⟨L, cs, cl, rfl, SqL.of eL7, lc.trans ll.symm, by omega, fun i d l h1 h2 => ?_, fun t tR tW J8 m s8 st et eR eW => ?_⟩
          · have hk := hok i l h2
            have mem : ∀ x ∈ l, 0 ≤ x ∧ x < (rs.length : Nat) := fun x hx => by
              have := badN_none hb _ ((hk.2 x).mp hx).1
              exact ⟨this.1, this.2.1⟩
            refine ⟨SqL.of (hca7 i d l h1 h2), ?_, fun x hx => by rw [ll]; exact mem x hx⟩
            have := asc_len l 0 hk.1 mem (by omega)
            omega
          have eN8 := s8 _ _ eN7
          rw [ll] at st eR eW
          refine ⟨t, _, rfl, SqT.of et, rfl, _, _, rfl, ?_⟩
          refine ⟨_, rfl, n, C, dx, _, rfl, eN8, cls, n_kept_rounds, by simp, ?_⟩
          refine ⟨_, _, rfl, _, rfl, n, C, dx, _, rfl, upd_same, cls, n_kept_words, (show (4 : Nat) < 1000 by omega), rfl, ?_⟩
          have nt : ∀ {u : Addr} {xs : List V}, J8 u = some (.tup xs) → u ≠ n := fun h2 e => by
            rw [e, eN8] at h2
            cases h2
          have nl : ∀ {u : Addr} {xs : List V}, J8 u = some (.lst xs) → u ≠ n := fun h2 e => by
            rw [e, eN8] at h2
            cases h2
          refine q _ (((sb7.trans (Z.Same.sb s8)).trans up).trans up) ⟨dx, tr, ta, qs, L, cs, cl, tR, tW, m, ?_, fr _ fr6.1, fun c h => fr _ (fr6.2 c h)⟩
          refine ⟨upd_same, ?_, ((an7.mono s8).sb up eN8).sb up upd_same, ?_, lc, ll, fun i d l h1 h2 => ?_, hok, st, ?_, ?_⟩
          · rw [upd_ne ntn, upd_ne ntn]
            exact s8 _ _ eT7
          · have h := s8 _ _ eL7
            rw [upd_ne (nl h), upd_ne (nl h)]
            exact h
          · have h := s8 _ _ (hca7 i d l h1 h2)
            rw [upd_ne (nl h), upd_ne (nl h)]
            exact h
          · rw [upd_ne (nt eR), upd_ne (nt eR)]
            exact eR
          · rw [upd_ne (nt eW), upd_ne (nt eW)]
            exact eW
      case false =>
        obtain ⟨tr, rfl⟩ : ∃ tr, tr = r := ⟨r, rfl⟩
        refine ⟨tr, _, rfl, .inr ⟨hSr, ?_⟩⟩
        have s1 := Same.refl H'
        have eTr : H' tr = some (.tup (rs.map V.int)) := hR
        walk_at "go"
        refine ⟨n, C, dx, _, rfl, s1 _ _ hn, cls, n_ranks, by decide, ?_⟩
        have ntn : tr ≠ n := fun z => by
          rw [z, s1 _ _ hn] at eTr
          cases eTr
        have sb2 : SB n H' (upd H' n (.ins C dx (putF "ranks" (.ref tr) []))) := (Z.Same.sb s1).trans (SB.upd (Z.Same.sb (Same.refl _)))
        have eN2 : (upd H' n (.ins C dx (putF "ranks" (.ref tr) []))) n = some (.ins C dx [("ranks", .ref tr)]) := upd_same
        have eT2 : (upd H' n (.ins C dx (putF "ranks" (.ref tr) []))) tr = some (.tup (rs.map V.int)) := by rw [upd_ne ntn]; exact eTr
        generalize upd H' n (.ins C dx (putF "ranks" (.ref tr) [])) = H2 at sb2 eN2 eT2
        have hP2 := hP.sb sb2 hn
        clear s1 eTr
        walk_at "go"
        refine rd_sq (b := b) (a := a) rfl (bO_sq hP2.sq) ?_
        intro D nD
        refine lc_gen (n := ps.length) (fun i J => Same H2 J ∧ ∃ qs : List Addr, J D = some (.lst (qs.map V.ref)) ∧ qs.length = i ∧ ∀ (k : Nat) u z, qs[k]? = some u → prs[k]? = some z → u ≠ D ∧ J u = some (.tup [.int z.1, .int z.2])) ⟨same_new nD, [], upd_same, rfl, fun k u z h => by simp at h⟩ ?_ ?_ ?_ ?_
        · rintro k J hk ⟨s3, _⟩
          exact itq_go (bO_sq (hP2.mono s3).sq) (by rw [List.getElem?_map, List.getElem?_eq_getElem hk]; rfl)
        · rintro J ⟨s3, _⟩
          exact itq_stop (bO_sq (hP2.mono s3).sq) (by rw [List.length_map]; exact Nat.le_refl _)
        · rintro k J x J' hk ⟨s3, qs, eD, lq, al⟩ hy
          have hP3 := hP2.mono s3
          obtain ⟨rfl, ex⟩ := itq_yld (bO_sq hP3.sq) hy
          obtain ⟨p, ep, rfl⟩ := of_map ex
          have er : prs[k]? = some (prs[k]'(by omega)) := List.getElem?_eq_getElem (show k < prs.length by omega)
          generalize prs[k]'(by omega) = z at er
          have hp := hP3.at_ k p z ep er
          have pD : p ≠ D := fun e => by
            have := hP2.at_ k p z ep er
            rw [e, nD] at this
            cases this
          have step : ∀ (J2 : Hp) (u : Addr), Same J' J2 → J2 u = some (.tup [.int z.1, .int z.2]) → u ≠ D → Same H2 (upd J2 D (.lst (qs.map V.ref ++ [V.ref u]))) ∧ ∃ qs2 : List Addr, (upd J2 D (.lst (qs.map V.ref ++ [V.ref u]))) D = some (.lst (qs2.map V.ref)) ∧ qs2.length = k + 1 ∧ ∀ (i : Nat) v z, qs2[i]? = some v → prs[i]? = some z → v ≠ D ∧ (upd J2 D (.lst (qs.map V.ref ++ [V.ref u]))) v = some (.tup [.int z.1, .int z.2]) := by
            intro J2 u sJ eu uD
            refine ⟨Z.Same.mut (s3.trans sJ) nD, qs ++ [u], by rw [upd_same, List.map_append]; rfl, by rw [List.length_append, lq]; rfl, fun i v z2 hv hz => ?_⟩
            by_cases hi : i < qs.length
            · rw [List.getElem?_append_left hi] at hv
              obtain ⟨a1, a2⟩ := al i v z2 hv hz
              exact ⟨a1, by rw [upd_ne a1]; exact sJ _ _ a2⟩
            · rw [List.getElem?_append_right (by omega)] at hv
              have h0 := (List.getElem?_eq_some_iff.mp hv).1
              have hk2 : i = k := by
                rw [List.length_singleton] at h0
                omega
              rw [hk2, lq, Nat.sub_self] at hv
              rw [hk2, er] at hz
              cases hv
              cases hz
              exact ⟨uD, by rw [upd_ne uD]; exact eu⟩
          have len : (qs.map V.ref).length < sizeLine := by
            rw [List.length_map, lq]
            exact Nat.lt_of_lt_of_le (show k < 1000 by omega) (by decide)
          cases c with
          | true =>
            walk_at "go"
            refine ⟨p, _, rfl, .inl ⟨SqL.of hp, fun u nu => ?_⟩⟩
            have uD : u ≠ D := fun e => by
              rw [e, eD] at nu
              cases nu
            have z := step _ u (same_new nu) upd_same uD
            exact ⟨_, by rw [upd_ne uD.symm]; exact eD, len, z⟩
          | false =>
            walk_at "go"
            refine ⟨p, _, rfl, .inr ⟨SqT.of hp, ?_⟩⟩
            have z := step _ p (Same.refl _) hp pD
            exact ⟨_, eD, len, z⟩
        · rintro J ⟨s3, qs, eD, lq, al⟩
          walk_at "go"
          refine ⟨D, _, rfl, .inl ⟨SqL.of eD, fun ta nta => ?_⟩⟩
          have s4 := same_new (o := .tup (qs.map V.ref)) nta
          have eTa : (upd J ta (.tup (qs.map V.ref))) ta = some (.tup (qs.map V.ref)) := upd_same
          generalize upd J ta (.tup (qs.map V.ref)) = J4 at s4 eTa
          replace al : ∀ (k : Nat) u z, qs[k]? = some u → prs[k]? = some z → J4 u = some (.tup [.int z.1, .int z.2]) := fun k u z h1 h2 => s4 _ _ (al k u z h1 h2).2
          have eN4 := s4 _ _ (s3 _ _ eN2)
          have eT4 := s4 _ _ (s3 _ _ eT2)
          have sb4 := sb2.trans (Z.Same.sb (s3.trans s4))
          clear s3 s4 eD nD nta
          walk_at "go"
          refine ⟨n, C, dx, _, rfl, eN4, cls, n_answers, by simp, ?_⟩
          have an4 : PrB false false J4 ta qs prs := ⟨eTa, lq.trans lps, al⟩
          have up : ∀ {G : Hp} {o : HO}, SB n G (upd G n o) := fun {G o} => SB.upd (Z.Same.sb (Same.refl G))
          have sb5 := sb4.trans (up (G := J4) (o := .ins C dx (putF "answers" (.ref ta) [("ranks", .ref tr)])))
          have eN5 : (upd J4 n (.ins C dx (putF "answers" (.ref ta) [("ranks", .ref tr)]))) n = some (.ins C dx [("ranks", .ref tr), ("answers", .ref ta)]) := upd_same
          have eT5 : (upd J4 n (.ins C dx (putF "answers" (.ref ta) [("ranks", .ref tr)]))) tr = some (.tup (rs.map V.int)) := by rw [upd_ne ntn]; exact eT4
          have an5 := an4.sb (up (G := J4) (o := .ins C dx (putF "answers" (.ref ta) [("ranks", .ref tr)]))) eN4
          generalize upd J4 n (.ins C dx (putF "answers" (.ref ta) [("ranks", .ref tr)])) = J5 at sb5 eN5 eT5 an5
          walk_at "go"
          have fr : ∀ b, J5 b = none → H' b = none := fun b e => by
            cases e2 : H' b with
            | none => rfl
            | some o =>
              by_cases c : b = n
              · rw [c, eN5] at e
                cases e
              · rw [sb5 b o c e2] at e
                cases e
          refine ⟨tr, ta, rs, qs, prs, rfl, SqT.of eT5, ⟨bO_sq an5.sq, an5.len, fun i p r h1 h2 => bO_sq (an5.at_ i p r h1 h2)⟩, lr, lp, badN_none hb, fun L J6 cs cl s6 fr6 eL lc ll hca hok => ?_⟩
          have eN6 := s6 _ _ eN5
          have sb6 := sb5.trans (Z.Same.sb s6)
          have eT6 := s6 _ _ eT5
          have an6 := an5.mono s6
          clear s6
          walk_at "go"
          refine ⟨n, C, dx, _, rfl, eN6, cls, n_kept_counting, by simp, ?_⟩
          have nn : ∀ {G : Hp} {u : Addr} {xs : List V} {fs : List (Str × V)}, G n = some (.ins C dx fs) → G u = some (.lst xs) → u ≠ n := fun h1 h2 e => by
            rw [e, h1] at h2
            cases h2
          have nL := nn eN6 eL
          have sb7 := sb6.trans (up (G := J6) (o := (.ins C dx (putF "kept_counting" (.ref L) [("ranks", .ref tr), ("answers", .ref ta)]))))
          have eN7 : (upd J6 n (.ins C dx (putF "kept_counting" (.ref L) [("ranks", .ref tr), ("answers", .ref ta)]))) n = some (.ins C dx [("ranks", .ref tr), ("answers", .ref ta), ("kept_counting", .ref L)]) := upd_same
          have eT7 : (upd J6 n (.ins C dx (putF "kept_counting" (.ref L) [("ranks", .ref tr), ("answers", .ref ta)]))) tr = some (.tup (rs.map V.int)) := by rw [upd_ne ntn]; exact eT6
          have an7 := an6.sb (up (G := J6) (o := (.ins C dx (putF "kept_counting" (.ref L) [("ranks", .ref tr), ("answers", .ref ta)])))) eN6
          have eL7 : (upd J6 n (.ins C dx (putF "kept_counting" (.ref L) [("ranks", .ref tr), ("answers", .ref ta)]))) L = some (.lst (cs.map V.ref)) := by rw [upd_ne nL]; exact eL
          have hca7 : ∀ (i : Nat) d l, cs[i]? = some d → cl[i]? = some l → (upd J6 n (.ins C dx (putF "kept_counting" (.ref L) [("ranks", .ref tr), ("answers", .ref ta)]))) d = some (.lst (l.map V.int)) := fun i d l h1 h2 => by
            rw [upd_ne (nn eN6 (hca i d l h1 h2))]
            exact hca i d l h1 h2
          generalize upd J6 n (.ins C dx (putF "kept_counting" (.ref L) [("ranks", .ref tr), ("answers", .ref ta)])) = J7 at sb7 eN7 eT7 an7 eL7 hca7
          walk_at "go"
          refine ⟨L, cs, cl, rfl, SqL.of eL7, lc.trans ll.symm, by omega, fun i d l h1 h2 => ?_, fun t tR tW J8 m s8 st et eR eW => ?_⟩
          · have hk := hok i l h2
            have mem : ∀ x ∈ l, 0 ≤ x ∧ x < (rs.length : Nat) := fun x hx => by
              have := badN_none hb _ ((hk.2 x).mp hx).1
              exact ⟨this.1, this.2.1⟩
            refine ⟨SqL.of (hca7 i d l h1 h2), ?_, fun x hx => by rw [ll]; exact mem x hx⟩
            have := asc_len l 0 hk.1 mem (by omega)
            omega
          have eN8 := s8 _ _ eN7
          rw [ll] at st eR eW
          refine ⟨t, _, rfl, SqT.of et, rfl, _, _, rfl, ?_⟩
          refine ⟨_, rfl, n, C, dx, _, rfl, eN8, cls, n_kept_rounds, by simp, ?_⟩
          refine ⟨_, _, rfl, _, rfl, n, C, dx, _, rfl, upd_same, cls, n_kept_words, (show (4 : Nat) < 1000 by omega), rfl, ?_⟩
          have nt : ∀ {u : Addr} {xs : List V}, J8 u = some (.tup xs) → u ≠ n := fun h2 e => by
            rw [e, eN8] at h2
            cases h2
          have nl : ∀ {u : Addr} {xs : List V}, J8 u = some (.lst xs) → u ≠ n := fun h2 e => by
            rw [e, eN8] at h2
            cases h2
          refine q _ (((sb7.trans (Z.Same.sb s8)).trans up).trans up) ⟨dx, tr, ta, qs, L, cs, cl, tR, tW, m, ?_, fr _ fr6.1, fun c h => fr _ (fr6.2 c h)⟩
          refine ⟨upd_same, ?_, ((an7.mono s8).sb up eN8).sb up upd_same, ?_, lc, ll, fun i d l h1 h2 => ?_, hok, st, ?_, ?_⟩
          · rw [upd_ne ntn, upd_ne ntn]
            exact s8 _ _ eT7
          · have h := s8 _ _ eL7
            rw [upd_ne (nl h), upd_ne (nl h)]
            exact h
          · have h := s8 _ _ (hca7 i d l h1 h2)
            rw [upd_ne (nl h), upd_ne (nl h)]
            exact h
          · rw [upd_ne (nt eR), upd_ne (nt eR)]
            exact eR
          · rw [upd_ne (nt eW), upd_ne (nt eW)]
            exact eW
end
end Z
set_option pp.maxSteps 700
set_option Elab.async false
set_option linter.all false
set_option maxRecDepth 100000
set_option maxHeartbeats 4000000
namespace Z
open Ru
open PySem PySem.Spec PyProof.Rows L2
open C8 (pss_cut tCut)
local macro_rules | `(tactic| walk_at "num") => `(tactic| first | rfl | omega | decide | exact Nat.le_of_lt (small1000 (by simp)) | exact ⟨by omega, by omega⟩ | exact ⟨by omega, by omega, by omega⟩ | exact ⟨by decide, by decide, by decide⟩ | exact Or.inl ⟨by omega, by omega⟩ | exact Or.inr ⟨by omega, by omega⟩)
local macro_rules | `(tactic| walk_at "go") => `(tactic| repeat (first | refine ⟨_, rfl, ?_⟩ | refine ⟨_, _, rfl, rfl, ?_⟩ | refine ⟨_, _, rfl, ?_⟩ | (refine ⟨_, _, rfl, rfl, ?_, ?_⟩; focus walk_at "num") | refine Or.inl ⟨_, rfl, ?_⟩ | refine ⟨_, _, _, _, rfl, rfl, (by assumption), (by rfl), ?_⟩ | refine ⟨_, _, _, _, _, rfl, (by assumption), (by assumption), (by assumption), (by rfl), ?_⟩ | refine ⟨rfl, ?_⟩ | (refine And.intro ?_ ?_; focus walk_at "num")))
section
variable {P : Program} {w : World} {K : PySem.W.Frag} {mg : Str → Option Value} {base : Heap} {f C CB : Addr} {fd : FuncData}
theorem CaseAt.mono {H H' : Hp} {n : Addr} {rs : List Int} {prs : List (Int × Int)} {dx tr ta : Addr} {ps : List Addr} {L : Addr} {cs : List Addr} {cl : List (List Int)} {tR tW : Addr} {m : Nat} (s : Same H H') (h : CaseAt C K H n rs prs dx tr ta ps L cs cl tR tW m) : CaseAt C K H' n rs prs dx tr ta ps L cs cl tR tW m :=
  ⟨s _ _ h.ob, s _ _ h.rk, h.an.mono s, s _ _ h.cn, h.lc, h.ll, fun i c l h1 h2 => s _ _ (h.ca i c l h1 h2), h.ok, h.st, s _ _ h.rn, s _ _ h.wn⟩
/-- a case without its lists of answers: what changes of lists leave as it is -/
structure CaseW (C : Addr) (K : PySem.W.Frag) (H : Hp) (n : Addr) (rs : List Int) (prs : List (Int × Int)) (dx tr ta : Addr) (ps : List Addr) (L : Addr) (cl : List (List Int)) (tR tW : Addr) (m : Nat) : Prop where
  ob : H n = some (.ins C dx [("ranks", .ref tr), ("answers", .ref ta), ("kept_counting", .ref L), ("kept_rounds", .ref tR), ("kept_words", .ref tW)])
  rk : H tr = some (.tup (rs.map V.int))
  an : PrB false false H ta ps prs
  ll : cl.length = rs.length
  ok : ∀ (p : Nat) l, cl[p]? = some l → CntOk rs prs p l
  st : IsStop (Cn cl) rs.length m
  rn : H tR = some (.tup (vls (fun p => rV (rnd (Cn cl) m p)) rs.length))
  wn : H tW = some (.tup (vls (fun p => wV (rnd (Cn cl) m p)) rs.length))
theorem CaseAt.wk {H : Hp} {n : Addr} {rs : List Int} {prs : List (Int × Int)} {dx tr ta : Addr} {ps : List Addr} {L : Addr} {cs : List Addr} {cl : List (List Int)} {tR tW : Addr} {m : Nat} (h : CaseAt C K H n rs prs dx tr ta ps L cs cl tR tW m) : CaseW C K H n rs prs dx tr ta ps L cl tR tW m :=
  ⟨h.ob, h.rk, h.an, h.ll, h.ok, h.st, h.rn, h.wn⟩
/-- only lists change -/
def Tis (H H' : Hp) : Prop := ∀ a o, H a = some o → (∀ xs, o ≠ .lst xs) → H' a = some o
theorem Tis.refl (H : Hp) : Tis H H := fun _ _ e _ => e
theorem Tis.trans {H H1 H2 : Hp} (s : Tis H H1) (t : Tis H1 H2) : Tis H H2 := fun a o e n => t a o (s a o e n) n
theorem Tis.of {H H' : Hp} (s : Same H H') : Tis H H' := fun a o e _ => s a o e
theorem Tis.put {H : Hp} {l : Addr} {xs : List V} {o : HO} (h : H l = some (.lst xs)) : Tis H (upd H l o) := fun a p e n => by
  rw [upd_ne (fun z => by rw [z, h] at e; exact n _ (Option.some.inj e).symm)]
  exact e
theorem CaseW.tis {H H' : Hp} {n : Addr} {rs : List Int} {prs : List (Int × Int)} {dx tr ta : Addr} {ps : List Addr} {L : Addr} {cl : List (List Int)} {tR tW : Addr} {m : Nat} (s : Tis H H') (h : CaseW C K H n rs prs dx tr ta ps L cl tR tW m) : CaseW C K H' n rs prs dx tr ta ps L cl tR tW m :=
  ⟨s _ _ h.ob nofun, s _ _ h.rk nofun, ⟨s _ _ h.an.sq nofun, h.an.len, fun i p r h1 h2 => s _ _ (h.an.at_ i p r h1 h2) nofun⟩, h.ll, h.ok, h.st, s _ _ h.rn nofun, s _ _ h.wn nofun⟩
theorem CaseW.mono {H H' : Hp} {n : Addr} {rs : List Int} {prs : List (Int × Int)} {dx tr ta : Addr} {ps : List Addr} {L : Addr} {cl : List (List Int)} {tR tW : Addr} {m : Nat} (s : Same H H') (h : CaseW C K H n rs prs dx tr ta ps L cl tR tW m) : CaseW C K H' n rs prs dx tr ta ps L cl tR tW m := h.tis (.of s)
def spRuling (C : Addr) (K : PySem.W.Frag) : Sp := fun vs H Q _ => ∃ n rs prs dx tr ta ps L cl tR tW m, vs = [.ref n] ∧ CaseW C K H n rs prs dx tr ta ps L cl tR tW m ∧ Q (.ref tW) H
def spSettled (C : Addr) (K : PySem.W.Frag) : Sp := fun vs H Q _ => ∃ n rs prs dx tr ta ps L cl tR tW m, vs = [.ref n] ∧ CaseW C K H n rs prs dx tr ta ps L cl tR tW m ∧ Q (.ref tR) H
theorem ok_ruling (F : FnM K "ruling" "Case.ruling" s_Case_ruling f fd) (cls : Cls K C) (n_kept_words : NoAttr K C "kept_words") : FnOk P w K mg base CX0 1 f fd P_Case_ruling (spRuling C K) := by
  refine F.ok sc_Case_ruling (fun vs H Q E h => ?_) (fun cdv A outer s H vs Q E hr h => ?_)
  · obtain ⟨n, rs, prs, dx, tr, ta, ps, L, cl, tR, tW, m, rfl, _⟩ := h
    rfl
  · obtain ⟨n, rs, prs, dx, tr, ta, ps, L, cl, tR, tW, m, rfl, hc, q⟩ := h
    have hn := hc.ob
    refine ⟨_, PSs.nox (pss_one (ps_ret (pe_fld (pv 0) rfl))), ?_⟩
    walk_at "go"
    exact q
theorem ok_settled (F : FnM K "settled" "Case.settled" s_Case_settled f fd) (cls : Cls K C) (n_kept_rounds : NoAttr K C "kept_rounds") : FnOk P w K mg base CX0 1 f fd P_Case_settled (spSettled C K) := by
  refine F.ok sc_Case_settled (fun vs H Q E h => ?_) (fun cdv A outer s H vs Q E hr h => ?_)
  · obtain ⟨n, rs, prs, dx, tr, ta, ps, L, cl, tR, tW, m, rfl, _⟩ := h
    rfl
  · obtain ⟨n, rs, prs, dx, tr, ta, ps, L, cl, tR, tW, m, rfl, hc, q⟩ := h
    have hn := hc.ob
    refine ⟨_, PSs.nox (pss_one (ps_ret (pe_fld (pv 0) rfl))), ?_⟩
    walk_at "go"
    exact q
end
end Z
set_option pp.maxSteps 700
set_option Elab.async false
set_option linter.all false
set_option maxRecDepth 100000
set_option maxHeartbeats 4000000
namespace Z
open Ru
open PySem PySem.Spec PyProof.Rows L2
open C8 (pss_cut tCut)
local macro_rules | `(tactic| walk_at "num") => `(tactic| first | rfl | omega | decide | exact Nat.le_of_lt (small1000 (by simp)) | exact ⟨by omega, by omega⟩ | exact ⟨by omega, by omega, by omega⟩ | exact ⟨by decide, by decide, by decide⟩ | exact Or.inl ⟨by omega, by omega⟩ | exact Or.inr ⟨by omega, by omega⟩)
local macro_rules | `(tactic| walk_at "go") => `(tactic| repeat (first | refine ⟨_, rfl, ?_⟩ | refine ⟨_, _, rfl, rfl, ?_⟩ | refine ⟨_, _, rfl, ?_⟩ | (refine ⟨_, _, rfl, rfl, ?_, ?_⟩; focus walk_at "num") | refine Or.inl ⟨_, rfl, ?_⟩ | refine ⟨_, _, _, _, rfl, rfl, (by assumption), (by rfl), ?_⟩ | refine ⟨_, _, _, _, _, rfl, (by assumption), (by assumption), (by assumption), (by rfl), ?_⟩ | refine ⟨rfl, ?_⟩ | (refine And.intro ?_ ?_; focus walk_at "num")))
abbrev s_ranks : Stmt := topS 13
abbrev N_ranks : List Str := ["_law_draws_here", "_law_many", "_law_kind", "_law_ranks_here", "_law_k"]
abbrev P_ranks : List Str := ["_law_draws_here", "_law_many", "_law_kind"]
theorem sc_ranks : FnScope N_ranks P_ranks (defScope s_ranks) := ⟨rfl, rfl, rfl, by decide +kernel, rfl, by decide +kernel, by decide +kernel⟩
section
variable {P : Program} {w : World} {K : PySem.W.Frag} {mg : Str → Option Value} {base : Heap} {f C CB : Addr} {fd : FuncData}
def spRanks (K : PySem.W.Frag) : Sp := fun vs H Q _ => ∃ (d : Addr) (ds : List Int) (n : Nat) (k : Int), vs = [.ref d, .int (n : Int), .int k] ∧ SqL K H d (ds.map V.int) ∧ n ≤ ds.length ∧ n ≤ 100 ∧ (∀ x ∈ ds, 0 ≤ x ∧ x < 1000000) ∧ ∀ (p : Addr) (rs : List Int) H', Same H H' → H' p = some (.lst (rs.map V.int)) → rs.length = n → Q (.ref p) H'
theorem ok_ranks (F : FnP K "_law_ranks" s_ranks f fd) (m_range : mg "range" = none) (m_int : mg "int" = none) : FnOk P w K mg base CX0 1 f fd P_ranks (spRanks K) := by
  refine F.ok sc_ranks (fun vs H Q E h => ?_) (fun cdv A outer s H vs Q E hr h => ?_)
  · obtain ⟨d, ds, n, k, rfl, _⟩ := h
    rfl
  · obtain ⟨d, ds, n, k, rfl, hD, ln, lc, rg, q⟩ := h
    refine ⟨_, PSs.nox (pss_cons (ps_set (i := 3) sc_ranks.nd rfl (by first | exact .inl rfl | exact .inr rfl) (pe_lst pa_nil))
      (pss_cons (ps_for PassesOwn.never rfl (pi_range1 (by rfl) m_range (pa_cons (pv 1) pa_nil)) (pg_name (i := 4) sc_ranks.nd rfl (by first | exact .inl rfl | exact .inr rfl))
        (pss_one (ps_if (pt_cmpR op_eq (pv 2) pe_int (nomark _)) (pss_one (ps_expr (pe_bm PySem.F.plainAttrs_list PySem.F.slot_list_append PySem.F.type_list_append mt_append (pv 3) (pa_cons pe_int pa_nil)))) (pss_one (ps_if (pt_cmpR op_eq (pv 2) pe_int (nomark _)) (pss_one (ps_expr (pe_bm PySem.F.plainAttrs_list PySem.F.slot_list_append PySem.F.type_list_append mt_append (pv 3) (pa_cons (pe_op op_mod (pe_callTy call_int1 (by rfl) m_int (by decide +kernel) (pa_cons (pe_ix ix_list (pv 0) (pv 4) (fun _ _ => rfl)) pa_nil)) pe_int) pa_nil)))) (pss_one (ps_if (pt_cmpR op_eq (pv 2) pe_int (nomark _)) (pss_one (ps_expr (pe_bm PySem.F.plainAttrs_list PySem.F.slot_list_append PySem.F.type_list_append mt_append (pv 3) (pa_cons (pe_op op_sub (pe_op op_mod (pe_callTy call_int1 (by rfl) m_int (by decide +kernel) (pa_cons (pe_ix ix_list (pv 0) (pv 4) (fun _ _ => rfl)) pa_nil)) pe_int) pe_int) pa_nil)))) (pss_one (ps_expr (pe_bm PySem.F.plainAttrs_list PySem.F.slot_list_append PySem.F.type_list_append mt_append (pv 3) (pa_cons (pe_op op_add (pe_op op_mul (pe_op op_sub (pe_op op_mod (pe_callTy call_int1 (by rfl) m_int (by decide +kernel) (pa_cons (pe_ix ix_list (pv 0) (pv 4) (fun _ _ => rfl)) pa_nil)) pe_int) pe_int) (pe_op op_pow pe_int pe_int)) (pe_op op_mod (pe_callTy call_int1 (by rfl) m_int (by decide +kernel) (pa_cons (pe_op op_fdiv (pe_ix ix_list (pv 0) (pv 4) (fun _ _ => rfl)) pe_int) pa_nil)) pe_int)) pa_nil)))))))))))
      (pss_one (ps_ret (pv 3))))), ?_⟩
    walk_at "go"
    intro p np
    have s0 := same_new (o := .lst []) np
    walk_at "go"
    refine for_gen (n := n) (fun i σ H1 => Same H H1 ∧ (∃ rs : List Int, H1 p = some (.lst (rs.map V.int)) ∧ rs.length = i) ∧ ∃ v4 : Option V, σ = [some (.ref d), some (.int (n : Int)), some (.int k), some (.ref p), v4]) ⟨s0, ⟨[], upd_same, rfl⟩, none, rfl⟩ ?_ ?_ ?_ ?_
    · intro i σ H1 hi _
      show i < ((n : Int)).toNat
      omega
    · intro σ H1 _
      show ((n : Int)).toNat ≤ n
      omega
    rotate_left
    · rintro σ H1 ⟨s1, ⟨rs, eP, lr⟩, v4, rfl⟩
      walk_at "go"
      exact q p rs _ s1 eP lr
    rintro i σ H1 x H' hi ⟨s1, ⟨rs, eP, lr⟩, v4, rfl⟩ ⟨rfl, rfl⟩
    have np0 : H p = none := np
    have hD1 := s1.seq hD
    have len : (rs.map V.int).length < sizeLine := by
      rw [List.length_map, lr]
      exact Nat.lt_of_lt_of_le (show i < 1000 by omega) (by decide)
    have step : ∀ x : Int, Same H (upd H' p (.lst (rs.map V.int ++ [V.int x]))) ∧ (∃ ts : List Int, (upd H' p (.lst (rs.map V.int ++ [V.int x]))) p = some (.lst (ts.map V.int)) ∧ ts.length = i + 1) := fun x => ⟨Z.Same.mut s1 np0, rs ++ [x], by rw [upd_same, List.map_append]; rfl, by rw [List.length_append, lr]; rfl⟩
    have ex : atI (ds.map V.int) (0 + (i : Int)) = some (.int (ds[i]'(by omega))) := at_of (j := i) (by omega) (by rw [List.getElem?_map, List.getElem?_eq_getElem (show i < ds.length by omega)]; rfl)
    have hx := rg _ (List.getElem_mem (show i < ds.length by omega))
    generalize ds[i]'(by omega) = x at ex hx
    walk_at "go"
    refine ite2 (fun _ => ?_) (fun _ => ?_)
    · walk_at "go"
      refine ⟨.inl ⟨rfl, _, SqL.of eP⟩, ?_⟩
      walk_at "go"
      refine ⟨_, _, _, rfl, rfl, eP, len, ?_⟩
      obtain ⟨z1, z2⟩ := step 7
      exact ⟨z1, z2, _, rfl⟩
    walk_at "go"
    refine ite2 (fun _ => ?_) (fun _ => ?_)
    · walk_at "go"
      refine ⟨.inl ⟨rfl, _, SqL.of eP⟩, ?_⟩
      walk_at "go"
      refine ⟨d, _, _, _, rfl, rfl, hD1, ex, ?_⟩
      walk_at "go"
      refine ⟨_, _, _, rfl, rfl, eP, len, ?_⟩
      obtain ⟨z1, z2⟩ := step (x % 3)
      exact ⟨z1, z2, _, rfl⟩
    walk_at "go"
    refine ite2 (fun _ => ?_) (fun _ => ?_)
    · walk_at "go"
      refine ⟨.inl ⟨rfl, _, SqL.of eP⟩, ?_⟩
      walk_at "go"
      refine ⟨d, _, _, _, rfl, rfl, hD1, ex, ?_⟩
      walk_at "go"
      refine ⟨_, _, _, rfl, rfl, eP, len, ?_⟩
      obtain ⟨z1, z2⟩ := step (x % 7 - 3)
      exact ⟨z1, z2, _, rfl⟩
    · walk_at "go"
      refine ⟨.inl ⟨rfl, _, SqL.of eP⟩, ?_⟩
      walk_at "go"
      refine ⟨d, _, _, _, rfl, rfl, hD1, ex, ?_⟩
      walk_at "go"
      refine ⟨d, _, _, _, rfl, rfl, hD1, ex, ?_⟩
      walk_at "go"
      walk_at "go"
      refine ⟨_, _, _, rfl, rfl, eP, len, ?_⟩
      obtain ⟨z1, z2⟩ := step ((x % 5 - 2) * 10 ^ Int.toNat 40 + x / 5 % 3)
      exact ⟨z1, z2, _, rfl⟩
end
end Z
set_option pp.maxSteps 700
set_option Elab.async false
set_option linter.all false
set_option maxRecDepth 100000
set_option maxHeartbeats 4000000
namespace Z
open Ru
open PySem PySem.Spec PyProof.Rows L2
open C8 (pss_cut tCut)
local macro_rules | `(tactic| walk_at "num") => `(tactic| first | rfl | omega | decide | exact Nat.le_of_lt (small1000 (by simp)) | exact ⟨by omega, by omega⟩ | exact ⟨by omega, by omega, by omega⟩ | exact ⟨by decide, by decide, by decide⟩ | exact Or.inl ⟨by omega, by omega⟩ | exact Or.inr ⟨by omega, by omega⟩)
local macro_rules | `(tactic| walk_at "go") => `(tactic| repeat (first | refine ⟨_, rfl, ?_⟩ | refine ⟨_, _, rfl, rfl, ?_⟩ | refine ⟨_, _, rfl, ?_⟩ | (refine ⟨_, _, rfl, rfl, ?_, ?_⟩; focus walk_at "num") | refine Or.inl ⟨_, rfl, ?_⟩ | refine ⟨_, _, _, _, rfl, rfl, (by assumption), (by rfl), ?_⟩ | refine ⟨_, _, _, _, _, rfl, (by assumption), (by assumption), (by assumption), (by rfl), ?_⟩ | refine ⟨rfl, ?_⟩ | (refine And.intro ?_ ?_; focus walk_at "num")))
abbrev s_counting : Stmt := topS 15
abbrev N_counting : List Str := ["_law_ranks_here", "_law_pairs_here", "_law_rank", "_law_counting_here", "_law_pair"]
abbrev P_counting : List Str := ["_law_ranks_here", "_law_pairs_here"]
theorem sc_counting : FnScope N_counting P_counting (defScope s_counting) := ⟨rfl, rfl, rfl, by decide +kernel, rfl, by decide +kernel, by decide +kernel⟩
/-- the counting answers to paper p, in some order, each once -/
def CntS (rs : List Int) (prs : List (Int × Int)) (p : Nat) (c : List Int) : Prop := c.Nodup ∧ ∀ q : Int, q ∈ c ↔ (q, (p : Int)) ∈ prs ∧ rs.getD p 0 ≤ rs.getD q.toNat 0
theorem inV_ints (x : Int) (xs : List Int) : inV (.int x) (xs.map V.int) = decide (x ∈ xs) := by
  unfold inV
  rw [List.any_map, Bool.eq_iff_iff, List.any_eq_true, decide_eq_true_iff]
  constructor
  · rintro ⟨y, hy, e⟩
    have e : (y == x) = true ∨ (x == y) = true := by first | exact .inl e | exact .inr e
    rcases e with e | e <;> (rw [beq_iff_eq] at e; subst e; exact hy)
  · intro h
    refine ⟨x, h, ?_⟩
    show (x == x) = true
    rw [beq_iff_eq]
section
variable {P : Program} {w : World} {K : PySem.W.Frag} {mg : Str → Option Value} {base : Heap} {f C CB : Addr} {fd : FuncData}
def spCounting (K : PySem.W.Frag) : Sp := fun vs H Q _ => ∃ (r a : Addr) (rs : List Int) (ps : List Addr) (prs : List (Int × Int)), vs = [.ref r, .ref a] ∧ SqL K H r (rs.map V.int) ∧ PrB true false H a ps prs ∧ rs.length ≤ 1000 ∧ prs.length ≤ 1000 ∧ (∀ x ∈ prs, 0 ≤ x.1 ∧ x.1 < rs.length ∧ 0 ≤ x.2 ∧ x.2 < rs.length) ∧
  ∀ (L : Addr) H' (cs : List Addr) (cl : List (List Int)), Same H H' → H' L = some (.lst (cs.map V.ref)) → cs.length = rs.length → cl.length = rs.length → (∀ (i : Nat) c l, cs[i]? = some c → cl[i]? = some l → H' c = some (.lst (l.map V.int))) → (∀ (p : Nat) l, cl[p]? = some l → CntS rs prs p l) → Q (.ref L) H'
theorem ok_counting (F : FnP K "_law_counting" s_counting f fd) : FnOk P w K mg base CX0 1 f fd P_counting (spCounting K) := by
  refine F.ok sc_counting (fun vs H Q E h => ?_) (fun cdv A outer s H vs Q E hr h => ?_)
  · obtain ⟨r, a, rs, ps, prs, rfl, _⟩ := h
    rfl
  · obtain ⟨r, a, rs, ps, prs, rfl, hR, hP, lr, lp, rg, q⟩ := h
    refine ⟨_, PSs.nox (pss_cons (ps_setLc (i := 3) (own := [("_law_rank", 2)]) (g := (gName 2)) (tt := tYes) (by rfl) sc_counting.nd rfl rfl (sw_true rfl rfl rfl (by decide +kernel)) (pi_list (pv 0)) (blkOk_by (own := [("_law_rank", 2)]) (N := N_counting) (sc := defScope s_counting) (by decide +kernel)) (fun _ _ _ _ _ => (pg_name (i := 2) sc_counting.nd rfl (by first | exact .inl rfl | exact .inr rfl))) (fun _ _ _ _ _ => pts_nil) (fun _ _ _ _ _ => (pe_lst pa_nil)))
      (pss_cons (ps_for PassesOwn.never rfl (pi_list (pv 1)) (pg_name (i := 4) sc_counting.nd rfl (by first | exact .inl rfl | exact .inr rfl))
        (pss_one (ps_if (PW.pt (pw_and (pt_cmpR op_ge (pe_ix ix_list (pv 0) (pe_ix ix_tup (pv 4) pe_int (fun _ _ => rfl)) (fun _ _ => rfl)) (pe_ix ix_list (pv 0) (pe_ix ix_tup (pv 4) pe_int (fun _ _ => rfl)) (fun _ _ => rfl)) (nomark _)) (pw_and1 (pt_cmpR op_notIn_seq (pe_ix ix_tup (pv 4) pe_int (fun _ _ => rfl)) (pe_ix ix_list (pv 3) (pe_ix ix_tup (pv 4) pe_int (fun _ _ => rfl)) (fun _ _ => rfl)) (by rfl))))) (pss_one (ps_expr (pe_bm PySem.F.plainAttrs_list PySem.F.slot_list_append PySem.F.type_list_append mt_append (pe_ix ix_list (pv 3) (pe_ix ix_tup (pv 4) pe_int (fun _ _ => rfl)) (fun _ _ => rfl)) (pa_cons (pe_ix ix_tup (pv 4) pe_int (fun _ _ => rfl)) pa_nil)))) pss_nil)))
      (pss_one (ps_ret (pv 3))))), ?_⟩
    walk_at "go"
    refine ⟨⟨_, hR⟩, fun D nD => ?_⟩
    refine lc_gen (n := rs.length) (fun i H1 => Same H H1 ∧ ∃ ds : List Addr, H1 D = some (.lst (ds.map V.ref)) ∧ ds.length = i ∧ ds.Nodup ∧ ∀ d ∈ ds, d ≠ D ∧ H1 d = some (.lst []) ∧ H d = none) ⟨same_new nD, [], upd_same, rfl, List.nodup_nil, fun d h => by simp at h⟩ ?_ ?_ ?_ ?_
    · rintro i H1 hi ⟨s1, _⟩
      exact ⟨_, .int (rs.getD i 0), s1.seq hR, by rw [List.getElem?_map, List.getD_eq_getElem?_getD, List.getElem?_eq_getElem hi]; rfl⟩
    · rintro H1 ⟨s1, _⟩
      exact ⟨_, s1.seq hR, by rw [List.length_map]; exact Nat.le_refl _⟩
    · rintro i H1 x H2 hi ⟨s1, ds, eD, ld, nd, al⟩ ⟨rfl, _⟩
      walk_at "go"
      intro p np
      have Dp : D ≠ p := ne_of_none eD np
      have nHp : H p = none := by
        cases e : H p with
        | none => rfl
        | some o =>
          have := s1 p o e
          rw [np] at this
          cases this
      refine ⟨_, by rw [upd_ne Dp]; exact eD, ?_, Z.Same.mut (s1.trans (same_new np)) nD, ds ++ [p], ?_, ?_, ?_, ?_⟩
      · rw [List.length_map, ld]
        exact Nat.lt_of_lt_of_le (show i < 1000 by omega) (by decide)
      · rw [upd_same, List.map_append]
        rfl
      · rw [List.length_append, ld]
        rfl
      · refine List.nodup_append.mpr ⟨nd, by simp, fun x hx y hy e => ?_⟩
        rw [List.mem_singleton.mp hy] at e
        subst e
        rw [(al x hx).2.1] at np
        cases np
      · intro d hd
        rcases List.mem_append.mp hd with h | h
        · obtain ⟨a1, a2, a3⟩ := al d h
          have dp : d ≠ p := ne_of_none a2 np
          exact ⟨a1, by rw [upd_ne a1, upd_ne dp]; exact a2, a3⟩
        · rw [List.mem_singleton.mp h]
          exact ⟨Dp.symm, by rw [upd_ne Dp.symm, upd_same], nHp⟩
    rintro H1 ⟨s1, ds, eD, ld, nd, al⟩
    have hP1 := hP.mono s1
    have lps := hP.len
    walk_at "go"
    refine ⟨⟨_, SqL.of hP1.sq⟩, ?_⟩
    refine for_gen (n := prs.length) (fun k σ H2 => Same H H2 ∧ H2 D = some (.lst (ds.map V.ref)) ∧ (∃ ns : Nat → List Int, ∀ (i : Nat) d, ds[i]? = some d → H2 d = some (.lst ((ns i).map V.int)) ∧ (ns i).Nodup ∧ (∀ x : Int, x ∈ ns i ↔ (x, (i : Int)) ∈ prs.take k ∧ rs.getD i 0 ≤ rs.getD x.toNat 0) ∧ (ns i).length ≤ k) ∧ ∃ v4 : Option V, σ = [some (.ref r), some (.ref a), none, some (.ref D), v4]) ⟨s1, eD, ⟨fun _ => [], fun i d hd => ⟨(al d (List.mem_of_getElem? hd)).2.1, List.nodup_nil, fun x => by simp, Nat.le_refl _⟩⟩, none, rfl⟩ ?_ ?_ ?_ ?_
    · rintro k σ H2 hk ⟨s2, _⟩
      exact ⟨_, .ref (ps[k]'(by omega)), SqL.of (hP.mono s2).sq, by rw [List.getElem?_map, List.getElem?_eq_getElem (show k < ps.length by omega)]; rfl⟩
    · rintro σ H2 ⟨s2, _⟩
      exact ⟨_, SqL.of (hP.mono s2).sq, by rw [List.length_map]; omega⟩
    · rintro k σ H2 x H3 hk ⟨s2, eD2, ⟨ns, hns⟩, v4, rfl⟩ ⟨rfl, hy⟩
      have hP2 := hP.mono s2
      have ep : ps[k]? = some (ps[k]'(by omega)) := List.getElem?_eq_getElem (show k < ps.length by omega)
      have er : prs[k]? = some prs[k] := List.getElem?_eq_getElem hk
      have hx := hy _ (SqL.of hP2.sq)
      rw [List.getElem?_map, ep] at hx
      obtain rfl := Option.some.inj hx
      have hT := hP2.at_ k _ _ ep er
      obtain ⟨r1, r2, r3, r4⟩ := rg _ (List.mem_of_getElem? er)
      generalize ek : prs[k] = pr at hT r1 r2 r3 r4
      obtain ⟨x1, x2⟩ := pr
      generalize ps[k]'(by omega) = pa at hT ep
      have hR2 := s2.seq hR
      walk_at "go"
      have p0 : atI [V.int x1, V.int x2] 0 = some (V.int x1) := rfl
      have p1 : atI [V.int x1, V.int x2] 1 = some (V.int x2) := rfl
      refine ⟨pa, _, _, _, rfl, rfl, SqT.of hT, p0, ?_⟩
      refine ⟨_, _, _, _, rfl, rfl, hR2, at_nat r1 r2, ?_⟩
      walk_at "go"
      refine ⟨pa, _, _, _, rfl, rfl, SqT.of hT, p1, ?_⟩
      refine ⟨_, _, _, _, rfl, rfl, hR2, at_nat r3 r4, ?_⟩
      walk_at "go"
      obtain ⟨i2, rfl⟩ := Int.eq_ofNat_of_zero_le r3
      have tk1 : ∀ y : Int × Int, y ∈ prs.take (k + 1) ↔ y ∈ prs.take k ∨ y = (x1, (i2 : Int)) := fun y => by
        rw [List.take_add_one, er, ek]
        simp
      have hi2 : i2 < ds.length := by omega
      have ed : ds[i2]? = some ds[i2] := List.getElem?_eq_getElem hi2
      generalize hd : ds[i2] = d at ed
      obtain ⟨h1, h2, h3, h4⟩ := hns i2 d ed
      obtain ⟨a1, _, a3⟩ := al d (List.mem_of_getElem? ed)
      have same : (rs.getD i2 0 ≤ rs.getD x1.toNat 0 → x1 ∈ ns i2) → ∀ (i : Nat) d, ds[i]? = some d → H3 d = some (.lst ((ns i).map V.int)) ∧ (ns i).Nodup ∧ (∀ x : Int, x ∈ ns i ↔ (x, (i : Int)) ∈ prs.take (k + 1) ∧ rs.getD i 0 ≤ rs.getD x.toNat 0) ∧ (ns i).length ≤ k + 1 := fun hin j d' hd' => by
        obtain ⟨g1, g2, g3, g4⟩ := hns j d' hd'
        refine ⟨g1, g2, fun x => ?_, by omega⟩
        rw [tk1]
        constructor
        · exact fun z => ⟨.inl ((g3 x).mp z).1, ((g3 x).mp z).2⟩
        · rintro ⟨y1 | y1, y2⟩
          · exact (g3 x).mpr ⟨y1, y2⟩
          · have c : j = i2 := Int.ofNat.inj (congrArg Prod.snd y1)
            have cx : x = x1 := congrArg Prod.fst y1
            rw [c, cx] at y2
            rw [c, cx]
            exact hin y2
      refine ite2 (fun e => ?_) (fun e => ?_)
      · walk_at "go"
        refine ⟨pa, _, _, _, rfl, rfl, SqT.of hT, p0, ?_⟩
        walk_at "go"
        refine ⟨pa, _, _, _, rfl, rfl, SqT.of hT, p1, ?_⟩
        refine ⟨D, _, _, _, rfl, rfl, SqL.of eD2, at_ref ed rfl, ?_⟩
        refine ⟨d, _, rfl, .inl (SqL.of h1), rfl, List.all_eq_true.mpr (fun v hv => by
          obtain ⟨y, _, rfl⟩ := List.mem_map.mp hv
          rfl), ?_⟩
        refine ⟨_, rfl, ?_⟩
        refine ite2 (fun e2 => ?_) (fun e2 => ?_)
        · walk_at "go"
          refine ⟨pa, _, _, _, rfl, rfl, SqT.of hT, p1, ?_⟩
          refine ⟨D, _, _, _, rfl, rfl, SqL.of eD2, at_ref ed rfl, ?_⟩
          refine ⟨.inl ⟨rfl, _, SqL.of h1⟩, ?_⟩
          walk_at "go"
          refine ⟨pa, _, _, _, rfl, rfl, SqT.of hT, p0, ?_⟩
          refine ⟨_, _, _, rfl, rfl, h1, by rw [List.length_map]; exact Nat.lt_of_lt_of_le (show (ns i2).length < 2000 by omega) (by decide), ?_⟩
          have nin : x1 ∉ ns i2 := fun z => by
            rw [inV_ints, decide_eq_true z] at e2
            cases e2
          refine ⟨Z.Same.mut s2 a3, by rw [upd_ne a1.symm]; exact eD2, ⟨fun j => if j = i2 then ns i2 ++ [x1] else ns j, fun j d' hd' => ?_⟩, _, rfl⟩
          by_cases c : j = i2
          · subst c
            rw [ed] at hd'
            cases hd'
            dsimp only
            rw [if_pos rfl]
            refine ⟨by rw [upd_same, List.map_append]; rfl, List.nodup_append.mpr ⟨h2, by simp, fun a ha b hb e => nin (by rw [List.mem_singleton.mp hb] at e; exact e ▸ ha)⟩, fun x => ?_, ?_⟩
            · rw [tk1, List.mem_append, List.mem_singleton, h3]
              constructor
              · rintro (⟨y1, y2⟩ | rfl)
                · exact ⟨.inl y1, y2⟩
                · exact ⟨.inr rfl, by simpa using e⟩
              · rintro ⟨y1 | y1, y2⟩
                · exact .inl ⟨y1, y2⟩
                · exact .inr (congrArg Prod.fst y1)
            · rw [List.length_append]
              show (ns j).length + 1 ≤ k + 1
              omega
          · dsimp only
            rw [if_neg c]
            obtain ⟨g1, g2, g3, g4⟩ := hns j d' hd'
            have dd : d' ≠ d := fun z => c (nodup_ix nd (z ▸ hd') ed)
            refine ⟨by rw [upd_ne dd]; exact g1, g2, fun x => ?_, by omega⟩
            rw [tk1, g3]
            constructor
            · exact fun z => ⟨.inl z.1, z.2⟩
            · rintro ⟨y1 | y1, y2⟩
              · exact ⟨y1, y2⟩
              · exact absurd (Int.ofNat.inj (congrArg Prod.snd y1)) c
        · have yin : x1 ∈ ns i2 := by
            rw [inV_ints] at e2
            by_cases z : x1 ∈ ns i2
            · exact z
            · exact absurd (by rw [decide_eq_false z]; rfl) e2
          refine ⟨s2, eD2, ⟨ns, same fun _ => yin⟩, _, rfl⟩
      · refine ⟨s2, eD2, ⟨ns, same fun z => absurd (by simpa using z) e⟩, _, rfl⟩
    · rintro σ H2 ⟨s2, eD2, ⟨ns, hns⟩, v4, rfl⟩
      walk_at "go"
      have get : ∀ (i : Nat) l, ((List.range rs.length).map ns)[i]? = some l → i < rs.length ∧ l = ns i := fun i l h => by
        have hi := (List.getElem?_eq_some_iff.mp h).1
        rw [List.length_map, List.length_range] at hi
        rw [List.getElem?_map, List.getElem?_range hi] at h
        exact ⟨hi, (Option.some.inj h).symm⟩
      refine q D H2 ds ((List.range rs.length).map ns) s2 eD2 ld (by rw [List.length_map, List.length_range]) (fun i c l h1 h2 => ?_) (fun p l h => ?_)
      · obtain ⟨_, rfl⟩ := get i l h2
        exact (hns i c h1).1
      · obtain ⟨hi, rfl⟩ := get p l h
        obtain ⟨_, g2, g3, _⟩ := hns p _ (List.getElem?_eq_getElem (show p < ds.length by omega))
        refine ⟨g2, fun x => ?_⟩
        rw [g3 x, List.take_length]
end
end Z
set_option pp.maxSteps 700
set_option Elab.async false
set_option linter.all false
set_option maxRecDepth 100000
set_option maxHeartbeats 4000000
namespace Z
open Ru
open PySem PySem.Spec PyProof.Rows L2
open C8 (pss_cut tCut)
local macro_rules | `(tactic| walk_at "num") => `(tactic| first | rfl | omega | decide | exact Nat.le_of_lt (small1000 (by simp)) | exact ⟨by omega, by omega⟩ | exact ⟨by omega, by omega, by omega⟩ | exact ⟨by decide, by decide, by decide⟩ | exact Or.inl ⟨by omega, by omega⟩ | exact Or.inr ⟨by omega, by omega⟩)
local macro_rules | `(tactic| walk_at "go") => `(tactic| repeat (first | refine ⟨_, rfl, ?_⟩ | refine ⟨_, _, rfl, rfl, ?_⟩ | refine ⟨_, _, rfl, ?_⟩ | (refine ⟨_, _, rfl, rfl, ?_, ?_⟩; focus walk_at "num") | refine Or.inl ⟨_, rfl, ?_⟩ | refine ⟨_, _, _, _, rfl, rfl, (by assumption), (by rfl), ?_⟩ | refine ⟨_, _, _, _, _, rfl, (by assumption), (by assumption), (by assumption), (by rfl), ?_⟩ | refine ⟨rfl, ?_⟩ | (refine And.intro ?_ ?_; focus walk_at "num")))
abbrev s_pairs : Stmt := topS 14
abbrev N_pairs : List Str := ["_law_script", "_law_many", "_law_kind", "_law_extra", "_law_pairs_here", "_law_k", "_law_at", "_law_draws_here", "_law_pair"]
abbrev P_pairs : List Str := ["_law_script", "_law_many", "_law_kind", "_law_extra"]
theorem sc_pairs : FnScope N_pairs P_pairs (defScope s_pairs) := ⟨rfl, rfl, rfl, by decide +kernel, rfl, by decide +kernel, by decide +kernel⟩
/-- a list of tuples, pair by pair -/
structure PrZ (H : Hp) (a : Addr) (zs : List (Addr × Int × Int)) : Prop where
  sq : H a = some (.lst (zs.map fun z => V.ref z.1))
  at_ : ∀ z ∈ zs, H z.1 = some (.tup [.int z.2.1, .int z.2.2])
theorem PrZ.mono {H H' : Hp} {a : Addr} {zs : List (Addr × Int × Int)} (s : Same H H') (m : PrZ H a zs) : PrZ H' a zs := ⟨s _ _ m.sq, fun z hz => s _ _ (m.at_ z hz)⟩
theorem PrZ.pr {H : Hp} {a : Addr} {zs : List (Addr × Int × Int)} (m : PrZ H a zs) : PrB true false H a (zs.map Prod.fst) (zs.map Prod.snd) := by
  refine ⟨?_, by rw [List.length_map, List.length_map], fun i p r h1 h2 => ?_⟩
  · rw [m.sq, List.map_map]
    rfl
  · rw [List.getElem?_map] at h1 h2
    cases e : zs[i]? with
    | none => rw [e] at h1; cases h1
    | some z =>
      rw [e] at h1 h2
      cases h1
      cases h2
      exact m.at_ z (List.mem_of_getElem? e)
theorem zip_at {ps : List Addr} {rs : List (Int × Int)} {z : Addr × Int × Int} (h : z ∈ ps.zip rs) : ∃ i : Nat, ps[i]? = some z.1 ∧ rs[i]? = some z.2 := by
  obtain ⟨i, hi, e⟩ := List.getElem_of_mem h
  rw [List.length_zip] at hi
  rw [List.getElem_zip] at e
  subst e
  exact ⟨i, List.getElem?_eq_getElem (by omega), List.getElem?_eq_getElem (by omega)⟩
theorem PrB.z {H : Hp} {a : Addr} {ps : List Addr} {rs : List (Int × Int)} (m : PrB true false H a ps rs) : PrZ H a (ps.zip rs) := by
  refine ⟨?_, fun z hz => ?_⟩
  · have e : (ps.zip rs).map (fun z => V.ref z.1) = ps.map V.ref := by
      rw [show (fun z : Addr × Int × Int => V.ref z.1) = V.ref ∘ Prod.fst from rfl, ← List.map_map, List.map_fst_zip (by rw [m.len]; exact Nat.le_refl _)]
    rw [e]
    exact m.sq
  · obtain ⟨i, h1, h2⟩ := zip_at hz
    exact m.at_ i _ _ h1 h2
/-- the list changed, with tuples that stand there -/
theorem PrZ.put {H : Hp} {a : Addr} {zs ys : List (Addr × Int × Int)} {vs : List V} (m : PrZ H a zs) (hy : ∀ z ∈ ys, z ∈ zs ∨ H z.1 = some (.tup [.int z.2.1, .int z.2.2])) (e : vs = ys.map fun z => V.ref z.1) : PrZ (upd H a (.lst vs)) a ys := by
  refine ⟨by rw [upd_same, e], fun z hz => ?_⟩
  have h : H z.1 = some (.tup [.int z.2.1, .int z.2.2]) := (hy z hz).elim (m.at_ z) id
  rw [upd_ne (fun q => by rw [q, m.sq] at h; cases h)]
  exact h
/-- a pair in range -/
def PIn (n : Nat) (z : Addr × Int × Int) : Prop := 0 ≤ z.2.1 ∧ z.2.1 < n ∧ 0 ≤ z.2.2 ∧ z.2.2 < n
section
variable {P : Program} {w : World} {K : PySem.W.Frag} {mg : Str → Option Value} {base : Heap} {f C CB : Addr} {fd : FuncData}
def spPairs (K : PySem.W.Frag) : Sp := fun vs H Q _ => ∃ (s : Addr) (ns : List Int) (n ex : Nat) (kd : Int), vs = [.ref s, .int (n : Int), .int kd, .int (ex : Int)] ∧ SqL K H s (ns.map V.int) ∧ ns.length ≤ 63 ∧ n ≤ 20 ∧ ex ≤ 60 ∧
  ∀ (p : Addr) zs H', Same H H' → PrZ H' p zs → zs.length ≤ 200 → (∀ z ∈ zs, PIn n z) → Q (.ref p) H'
/-- the list under way -/
def Pw (H J : Hp) (p : Addr) (n b : Nat) : Prop := Same H J ∧ H p = none ∧ ∃ zs, PrZ J p zs ∧ zs.length ≤ b ∧ ∀ z ∈ zs, PIn n z
theorem Pw.chg {H J : Hp} {L t : Addr} {n b' : Nat} {x y : Int} {zs : List (Addr × Int × Int)} (ys : List (Addr × Int × Int)) {vs : List V} (s1 : Same H J) (nL : H L = none) (hz : PrZ J L zs) (pz : ∀ z ∈ zs, PIn n z) (nt : J t = none) (hp : PIn n (t, x, y)) (hy : ∀ z ∈ ys, z ∈ zs ∨ z = (t, x, y)) (ly : ys.length ≤ b') (e : vs = ys.map fun z => V.ref z.1) : Pw H (upd (upd J t (.tup [.int x, .int y])) L (.lst vs)) L n b' := by
  have s2 := same_new (o := .tup [.int x, .int y]) nt
  refine ⟨Z.Same.mut (s1.trans s2) nL, nL, ys, (hz.mono s2).put (fun z h => (hy z h).imp id fun e => ?_) e, ly, fun z h => (hy z h).elim (pz z) fun e => e ▸ hp⟩
  subst e
  exact upd_same
theorem Pw.le {H J : Hp} {L : Addr} {n b b' : Nat} (h : Pw H J L n b) (l : b ≤ b') : Pw H J L n b' := by
  obtain ⟨s1, nL, zs, hz, lz, pz⟩ := h
  exact ⟨s1, nL, zs, hz, Nat.le_trans lz l, pz⟩
theorem Pw.app {H J : Hp} {L t : Addr} {n b : Nat} {x y : Int} {zs : List (Addr × Int × Int)} (s1 : Same H J) (nL : H L = none) (hz : PrZ J L zs) (lz : zs.length ≤ b) (pz : ∀ z ∈ zs, PIn n z) (nt : J t = none) (hp : PIn n (t, x, y)) : Pw H (upd (upd J t (.tup [.int x, .int y])) L (.lst (zs.map (fun z => V.ref z.1) ++ [.ref t]))) L n (b + 1) :=
  Pw.chg (zs ++ [(t, x, y)]) s1 nL hz pz nt hp (fun z h => (List.mem_append.mp h).imp id List.mem_singleton.mp) (by rw [List.length_append, List.length_singleton]; omega) (by rw [List.map_append]; rfl)
theorem Pw.ins {H J : Hp} {L t : Addr} {n b i : Nat} {x y : Int} {zs : List (Addr × Int × Int)} (s1 : Same H J) (nL : H L = none) (hz : PrZ J L zs) (lz : zs.length ≤ b) (pz : ∀ z ∈ zs, PIn n z) (nt : J t = none) (hp : PIn n (t, x, y)) : Pw H (upd (upd J t (.tup [.int x, .int y])) L (.lst ((zs.map fun z => V.ref z.1).take i ++ [.ref t] ++ (zs.map fun z => V.ref z.1).drop i))) L n (b + 1) := by
  refine Pw.chg (zs.take i ++ [(t, x, y)] ++ zs.drop i) s1 nL hz pz nt hp (fun z h => ?_) ?_ ?_
  · rcases List.mem_append.mp h with h | h
    · rcases List.mem_append.mp h with h | h
      · exact .inl (List.mem_of_mem_take h)
      · exact .inr (List.mem_singleton.mp h)
    · exact .inl (List.mem_of_mem_drop h)
  · rw [List.length_append, List.length_append, List.length_singleton, List.length_take, List.length_drop]
    omega
  · rw [List.map_append, List.map_append, List.map_take, List.map_drop]
    rfl
theorem ok_pairs (F : FnP K "_law_pairs" s_pairs f fd) (m_range : mg "range" = none) (m_len : mg "len" = none) (m_int : mg "int" = none) (c_cell : Cal P w K mg base 1 "_law_cell" (spCell K)) (c_draws : Cal P w K mg base 1 "_law_draws" spDraws) : FnOk P w K mg base CX0 2 f fd P_pairs (spPairs K) := by
  refine F.ok sc_pairs (fun vs H Q E h => ?_) (fun cdv A outer s H vs Q E hr h => ?_)
  · obtain ⟨s, ns, n, ex, kd, rfl, _⟩ := h
    rfl
  · obtain ⟨s, ns, n, ex, kd, rfl, hS, ls, ln, lx, q⟩ := h
    refine ⟨_, PSs.nox (pss_cons (ps_set (i := 4) sc_pairs.nd rfl (by first | exact .inl rfl | exact .inr rfl) (pe_lst pa_nil))
      (pss_cons (ps_for PassesOwn.never rfl (pi_range1 (by rfl) m_range (pa_cons (pe_op op_sub (pv 1) pe_int) pa_nil)) (pg_name (i := 5) sc_pairs.nd rfl (by first | exact .inl rfl | exact .inr rfl))
        (pss_cut (ps_if (PW.pt (pw_or (pt_cmpR op_eq (pv 2) pe_int (nomark _)) (pw_or1 (pt_cmpR op_eq (pv 2) pe_int (nomark _))))) (pss_one (ps_expr (pe_bm PySem.F.plainAttrs_list PySem.F.slot_list_append PySem.F.type_list_append mt_append (pv 4) (pa_cons (pe_tup (pa_cons (pe_op op_add (pv 5) pe_int) (pa_cons (pv 5) pa_nil))) pa_nil)))) pss_nil)
      (pss_cut (ps_if (pt_cmpR op_eq (pv 2) pe_int (nomark _)) (pss_one (ps_expr (pe_bm PySem.F.plainAttrs_list PySem.F.slot_list_append PySem.F.type_list_append mt_append (pv 4) (pa_cons (pe_tup (pa_cons (pv 5) (pa_cons (pe_op op_add (pv 5) pe_int) pa_nil))) pa_nil)))) pss_nil)
      (pss_one (ps_if (pt_cmpR op_eq (pv 2) pe_int (nomark _)) (pss_one (ps_expr (pe_bm PySem.F.plainAttrs_list PySem.F.slot_list_append PySem.F.type_list_append mt_append (pv 4) (pa_cons (pe_tup (pa_cons (pe_op op_add (pv 5) pe_int) (pa_cons (pe_op op_fdiv (pv 5) pe_int) pa_nil))) pa_nil)))) pss_nil)))))
      (pss_cut (ps_if (PW.pt (pw_and (pt_cmpR op_eq (pv 2) pe_int (nomark _)) (pw_and1 (pt_cmpR op_gt (pv 1) pe_int (nomark _))))) (pss_one (ps_expr (pe_bm PySem.F.plainAttrs_list PySem.F.slot_list_append PySem.F.type_list_append mt_append (pv 4) (pa_cons (pe_tup (pa_cons pe_int (pa_cons (pe_op op_sub (pv 1) pe_int) pa_nil))) pa_nil)))) pss_nil)
      (pss_cons (ps_for PassesOwn.never rfl (pi_range1 (by rfl) m_range (pa_cons (pe_op op_fdiv (pv 1) pe_int) pa_nil)) (pg_name (i := 5) sc_pairs.nd rfl (by first | exact .inl rfl | exact .inr rfl))
        (pss_one (ps_if (pt_cmpR op_eq (pv 2) pe_int (nomark _)) (pss_cons (ps_set (i := 6) sc_pairs.nd rfl (by first | exact .inl rfl | exact .inr rfl) (pe_op op_mul pe_int (pv 5)))
      (pss_one (ps_set (i := 4) sc_pairs.nd rfl (by first | exact .inl rfl | exact .inr rfl) (pe_op op_cat (pv 4) (pe_lst (pa_cons (pe_tup (pa_cons (pe_op op_add (pv 6) pe_int) (pa_cons (pv 6) pa_nil))) (pa_cons (pe_tup (pa_cons (pe_op op_add (pv 6) pe_int) (pa_cons (pe_op op_add (pv 6) pe_int) pa_nil))) (pa_cons (pe_tup (pa_cons (pe_op op_add (pv 6) pe_int) (pa_cons (pe_op op_add (pv 6) pe_int) pa_nil))) (pa_cons (pe_tup (pa_cons (pe_op op_add (pv 6) pe_int) (pa_cons (pe_op op_add (pv 6) pe_int) pa_nil))) (pa_cons (pe_tup (pa_cons (pe_op op_add (pv 6) pe_int) (pa_cons (pe_op op_add (pv 6) pe_int) pa_nil))) pa_nil)))))))))) pss_nil)))
      (pss_cons (ps_for PassesOwn.never rfl (pi_range1 (by rfl) m_range (pa_cons (pv 3) pa_nil)) (pg_name (i := 5) sc_pairs.nd rfl (by first | exact .inl rfl | exact .inr rfl))
        (pss_cons (ps_set (i := 7) sc_pairs.nd rfl (by first | exact .inl rfl | exact .inr rfl) (pe_cl c_draws hr (by decide) (by rfl) (pa_cons (pe_op op_add (pe_cl c_cell hr (by decide) (by rfl) (pa_cons (pv 0) (pa_cons (pe_op op_add pe_int (pv 5)) pa_nil))) (pe_op op_mul pe_int (pv 5))) (pa_cons pe_int pa_nil))))
      (pss_one (ps_if (pt_cmpR op_gt (pv 1) pe_int (nomark _)) (pss_cons (ps_set (i := 8) sc_pairs.nd rfl (by first | exact .inl rfl | exact .inr rfl) (pe_tup (pa_cons (pe_op op_mod (pe_callTy call_int1 (by rfl) m_int (by decide +kernel) (pa_cons (pe_ix ix_list (pv 7) pe_int (fun _ _ => rfl)) pa_nil)) (pv 1)) (pa_cons (pe_op op_mod (pe_callTy call_int1 (by rfl) m_int (by decide +kernel) (pa_cons (pe_ix ix_list (pv 7) pe_int (fun _ _ => rfl)) pa_nil)) (pv 1)) pa_nil))))
      (pss_cons (ps_expr (pe_bm PySem.F.plainAttrs_list PySem.F.slot_list_insert PySem.F.type_list_insert mt_insert (pv 4) (pa_cons (pe_op op_mod (pe_callTy call_int1 (by rfl) m_int (by decide +kernel) (pa_cons (pe_ix ix_list (pv 7) pe_int (fun _ _ => rfl)) pa_nil)) (pe_op op_add (pe_callB call_len_seq (by rfl) m_len PySem.boot_len (pa_cons (pv 4) pa_nil)) pe_int)) (pa_cons (pv 8) pa_nil))))
      (pss_one (ps_if (pt_cmpR op_eq (pe_op op_mod (pe_callTy call_int1 (by rfl) m_int (by decide +kernel) (pa_cons (pe_op op_fdiv (pe_ix ix_list (pv 7) pe_int (fun _ _ => rfl)) pe_int) pa_nil)) pe_int) pe_int (nomark _)) (pss_one (ps_expr (pe_bm PySem.F.plainAttrs_list PySem.F.slot_list_append PySem.F.type_list_append mt_append (pv 4) (pa_cons (pv 8) pa_nil)))) pss_nil)))) pss_nil))))
      (pss_one (ps_ret (pv 4)))))))), ?_⟩
    walk_at "go"
    intro L nL
    have p0 : Pw H (upd H L (.lst [])) L n 0 := ⟨same_new nL, nL, [], ⟨upd_same, fun z h => absurd h (by simp)⟩, Nat.le_refl _, fun z h => absurd h (by simp)⟩
    generalize upd H L (.lst []) = J0 at p0
    walk_at "go"
    refine for_gen (n := n - 1) (fun i σ J => ∃ L v5 v6 v7 v8, σ = [some (.ref s), some (.int (n : Int)), some (.int kd), some (.int (ex : Int)), some (.ref L), v5, v6, v7, v8] ∧ Pw H J L n (3 * i)) ⟨_, _, _, _, _, rfl, p0⟩ ?_ ?_ ?_ ?_
    · intro i σ J hi _
      show i < ((n : Int) - 1).toNat
      omega
    · intro σ J _
      show ((n : Int) - 1).toNat ≤ n - 1
      omega
    · rintro i σ J x J' hi ⟨L, v5, v6, v7, v8, rfl, hw⟩ ⟨rfl, rfl⟩
      refine ⟨fun σ J => ∃ L v6 v7 v8, σ = [some (.ref s), some (.int (n : Int)), some (.int kd), some (.int (ex : Int)), some (.ref L), some (.int (0 + (i : Int))), v6, v7, v8] ∧ Pw H J L n (3 * i + 1), ?_, ?_⟩
      · obtain ⟨s1, nL, zs, hz, lz, pz⟩ := hw
        walk_at "go"
        refine ite2 (fun e => ?_) (fun e => ?_)
        · walk_at "go"
          refine ⟨.inl ⟨rfl, _, SqL.of hz.sq⟩, ?_⟩
          walk_at "go"
          intro t nt
          walk_at "go"
          refine ⟨_, _, _, rfl, rfl, same_new nt _ _ hz.sq, by rw [List.length_map]; exact Nat.lt_of_lt_of_le (show zs.length < 2000 by omega) (by decide), ?_⟩
          walk_at "go"
          exact ⟨_, _, _, _, rfl, Pw.app s1 nL hz lz pz nt ⟨by dsimp only; omega, by dsimp only; omega, by dsimp only; omega, by dsimp only; omega⟩⟩
        walk_at "go"
        refine ite2 (fun e => ?_) (fun e => ?_)
        · walk_at "go"
          refine ⟨.inl ⟨rfl, _, SqL.of hz.sq⟩, ?_⟩
          walk_at "go"
          intro t nt
          walk_at "go"
          refine ⟨_, _, _, rfl, rfl, same_new nt _ _ hz.sq, by rw [List.length_map]; exact Nat.lt_of_lt_of_le (show zs.length < 2000 by omega) (by decide), ?_⟩
          walk_at "go"
          exact ⟨_, _, _, _, rfl, Pw.app s1 nL hz lz pz nt ⟨by dsimp only; omega, by dsimp only; omega, by dsimp only; omega, by dsimp only; omega⟩⟩
        walk_at "go"
        exact ⟨_, _, _, _, rfl, s1, nL, zs, hz, by omega, pz⟩
      rintro σ J ⟨L, v6, v7, v8, rfl, hw⟩
      refine ⟨fun σ J => ∃ L v6 v7 v8, σ = [some (.ref s), some (.int (n : Int)), some (.int kd), some (.int (ex : Int)), some (.ref L), some (.int (0 + (i : Int))), v6, v7, v8] ∧ Pw H J L n (3 * i + 2), ?_, ?_⟩
      · obtain ⟨s1, nL, zs, hz, lz, pz⟩ := hw
        walk_at "go"
        refine ite2 (fun e => ?_) (fun e => ?_)
        · walk_at "go"
          refine ⟨.inl ⟨rfl, _, SqL.of hz.sq⟩, ?_⟩
          walk_at "go"
          intro t nt
          walk_at "go"
          refine ⟨_, _, _, rfl, rfl, same_new nt _ _ hz.sq, by rw [List.length_map]; exact Nat.lt_of_lt_of_le (show zs.length < 2000 by omega) (by decide), ?_⟩
          walk_at "go"
          exact ⟨_, _, _, _, rfl, Pw.app s1 nL hz lz pz nt ⟨by dsimp only; omega, by dsimp only; omega, by dsimp only; omega, by dsimp only; omega⟩⟩
        walk_at "go"
        exact ⟨_, _, _, _, rfl, s1, nL, zs, hz, by omega, pz⟩
      rintro σ J ⟨L, v6, v7, v8, rfl, hw⟩
      obtain ⟨s1, nL, zs, hz, lz, pz⟩ := hw
      walk_at "go"
      refine ite2 (fun e => ?_) (fun e => ?_)
      · walk_at "go"
        refine ⟨.inl ⟨rfl, _, SqL.of hz.sq⟩, ?_⟩
        walk_at "go"
        intro t nt
        walk_at "go"
        refine ⟨_, _, _, rfl, rfl, same_new nt _ _ hz.sq, by rw [List.length_map]; exact Nat.lt_of_lt_of_le (show zs.length < 2000 by omega) (by decide), ?_⟩
        walk_at "go"
        exact ⟨_, _, _, _, _, rfl, Pw.app s1 nL hz lz pz nt ⟨by dsimp only; omega, by dsimp only; omega, by dsimp only; omega, by dsimp only; omega⟩⟩
      walk_at "go"
      exact ⟨_, _, _, _, _, rfl, s1, nL, zs, hz, by omega, pz⟩
    · rintro σ J ⟨L, v5, v6, v7, v8, rfl, hw⟩
      walk_at "go"
      refine ⟨fun σ J => ∃ L v5 v6 v7 v8, σ = [some (.ref s), some (.int (n : Int)), some (.int kd), some (.int (ex : Int)), some (.ref L), v5, v6, v7, v8] ∧ Pw H J L n (58), ?_, ?_⟩
      · obtain ⟨s1, nL, zs, hz, lz, pz⟩ := hw
        walk_at "go"
        refine ite2 (fun e => ?_) (fun e => ?_)
        · walk_at "go"
          refine ite2 (fun e => ?_) (fun e => ?_)
          · have e2 : (0 : Int) < (n : Int) := of_decide_eq_true e
            walk_at "go"
            refine ⟨.inl ⟨rfl, _, SqL.of hz.sq⟩, ?_⟩
            walk_at "go"
            intro t nt
            walk_at "go"
            refine ⟨_, _, _, rfl, rfl, same_new nt _ _ hz.sq, by rw [List.length_map]; exact Nat.lt_of_lt_of_le (show zs.length < 2000 by omega) (by decide), ?_⟩
            walk_at "go"
            exact ⟨_, _, _, _, _, rfl, Pw.le (Pw.app s1 nL hz lz pz nt ⟨by dsimp only; omega, by dsimp only; omega, by dsimp only; omega, by dsimp only; omega⟩) (by omega)⟩
          walk_at "go"
          exact ⟨_, _, _, _, _, rfl, s1, nL, zs, hz, by omega, pz⟩
        walk_at "go"
        exact ⟨_, _, _, _, _, rfl, s1, nL, zs, hz, by omega, pz⟩
      rintro σ J ⟨L, v5, v6, v7, v8, rfl, hw⟩
      walk_at "go"
      have e6 : ((n : Int) / 6).toNat = n / 6 := by omega
      refine for_gen (n := n / 6) (fun i σ J => ∃ L v5 v6 v7 v8, σ = [some (.ref s), some (.int (n : Int)), some (.int kd), some (.int (ex : Int)), some (.ref L), v5, v6, v7, v8] ∧ Pw H J L n (58 + 5 * i)) ⟨_, _, _, _, _, rfl, hw⟩ ?_ ?_ ?_ ?_
      · intro i σ J hi _
        show i < ((n : Int) / 6).toNat
        omega
      · intro σ J _
        show ((n : Int) / 6).toNat ≤ n / 6
        omega
      · rintro i σ J x J' hi ⟨L, v5, v6, v7, v8, rfl, hw⟩ ⟨rfl, rfl⟩
        obtain ⟨s1, nL, zs, hz, lz, pz⟩ := hw
        walk_at "go"
        refine ite2 (fun e => ?_) (fun e => ?_)
        · dsimp only [List.set]
          walk_at "go"
          intro t1 nt1
          generalize eH_ : upd J' t1 _ = J1
          have q1 : Same J' J1 := by rw [← eH_]; exact same_new nt1
          have et1 : J1 t1 = some (.tup [.int (6 * (0 + (i : Int)) + 1), .int (6 * (0 + (i : Int)))]) := by rw [← eH_]; exact upd_same
          clear eH_
          walk_at "go"
          intro t2 nt2
          generalize eH_ : upd J1 t2 _ = J2
          have q2 : Same J1 J2 := by rw [← eH_]; exact same_new nt2
          have et2 : J2 t2 = some (.tup [.int (6 * (0 + (i : Int)) + 2), .int (6 * (0 + (i : Int)) + 1)]) := by rw [← eH_]; exact upd_same
          clear eH_
          walk_at "go"
          intro t3 nt3
          generalize eH_ : upd J2 t3 _ = J3
          have q3 : Same J2 J3 := by rw [← eH_]; exact same_new nt3
          have et3 : J3 t3 = some (.tup [.int (6 * (0 + (i : Int)) + 3), .int (6 * (0 + (i : Int)) + 1)]) := by rw [← eH_]; exact upd_same
          clear eH_
          walk_at "go"
          intro t4 nt4
          generalize eH_ : upd J3 t4 _ = J4
          have q4 : Same J3 J4 := by rw [← eH_]; exact same_new nt4
          have et4 : J4 t4 = some (.tup [.int (6 * (0 + (i : Int)) + 4), .int (6 * (0 + (i : Int)) + 2)]) := by rw [← eH_]; exact upd_same
          clear eH_
          walk_at "go"
          intro t5 nt5
          generalize eH_ : upd J4 t5 _ = J5
          have q5 : Same J4 J5 := by rw [← eH_]; exact same_new nt5
          have et5 : J5 t5 = some (.tup [.int (6 * (0 + (i : Int)) + 5), .int (6 * (0 + (i : Int)) + 4)]) := by rw [← eH_]; exact upd_same
          clear eH_
          walk_at "go"
          intro p np
          generalize eH_ : upd J5 p _ = J6
          have q6 : Same J5 J6 := by rw [← eH_]; exact same_new np
          have ep : J6 p = some (.lst [.ref t1, .ref t2, .ref t3, .ref t4, .ref t5]) := by rw [← eH_]; exact upd_same
          clear eH_
          have h5 := q6 _ _ et5
          have h4 := q6 _ _ (q5 _ _ et4)
          have h3 := q6 _ _ (q5 _ _ (q4 _ _ et3))
          have h2 := q6 _ _ (q5 _ _ (q4 _ _ (q3 _ _ et2)))
          have h1 := q6 _ _ (q5 _ _ (q4 _ _ (q3 _ _ (q2 _ _ et1))))
          have qa := q1.trans (q2.trans (q3.trans (q4.trans (q5.trans q6))))
          have hz6 := hz.mono qa
          have s6 := s1.trans qa
          walk_at "go"
          refine ⟨L, p, _, _, rfl, rfl, hz6.sq, ep, by rw [List.length_map]; exact Nat.le_trans (show zs.length + 5 ≤ 2000 by omega) (by decide), fun L' nL' => ?_⟩
          have q7 := same_new (o := .lst (zs.map (fun z => V.ref z.1) ++ [.ref t1, .ref t2, .ref t3, .ref t4, .ref t5])) nL'
          have nLH : H L' = none := none_of s6 nL'
          walk_at "go"
          refine ⟨_, _, _, _, _, rfl, s6.trans q7, nLH, zs ++ [(t1, 6 * (0 + (i : Int)) + 1, 6 * (0 + (i : Int))), (t2, 6 * (0 + (i : Int)) + 2, 6 * (0 + (i : Int)) + 1), (t3, 6 * (0 + (i : Int)) + 3, 6 * (0 + (i : Int)) + 1), (t4, 6 * (0 + (i : Int)) + 4, 6 * (0 + (i : Int)) + 2), (t5, 6 * (0 + (i : Int)) + 5, 6 * (0 + (i : Int)) + 4)], ⟨by rw [upd_same, List.map_append]; rfl, fun z h => ?_⟩, by rw [List.length_append]; show zs.length + 5 ≤ _; omega, fun z h => ?_⟩
          · rcases List.mem_append.mp h with h | h
            · exact q7 _ _ (hz6.at_ z h)
            · simp only [List.mem_cons, List.not_mem_nil, or_false] at h
              rcases h with rfl | rfl | rfl | rfl | rfl
              · exact q7 _ _ h1
              · exact q7 _ _ h2
              · exact q7 _ _ h3
              · exact q7 _ _ h4
              · exact q7 _ _ h5
          · rcases List.mem_append.mp h with h | h
            · exact pz z h
            · simp only [List.mem_cons, List.not_mem_nil, or_false] at h
              rcases h with rfl | rfl | rfl | rfl | rfl <;> exact ⟨by dsimp only; omega, by dsimp only; omega, by dsimp only; omega, by dsimp only; omega⟩
        walk_at "go"
        exact ⟨_, _, _, _, _, rfl, s1, nL, zs, hz, by omega, pz⟩
      · rintro σ J ⟨L, v5, v6, v7, v8, rfl, hw⟩
        walk_at "go"
        refine for_gen (n := ex) (fun i σ J => ∃ L v5 v6 v7 v8, σ = [some (.ref s), some (.int (n : Int)), some (.int kd), some (.int (ex : Int)), some (.ref L), v5, v6, v7, v8] ∧ Pw H J L n (58 + 15 + 2 * i)) ⟨_, _, _, _, _, rfl, Pw.le hw (by omega)⟩ ?_ ?_ ?_ ?_
        · intro i σ J hi _
          show i < ((ex : Int)).toNat
          omega
        · intro σ J _
          show ((ex : Int)).toNat ≤ ex
          omega
        · rintro i σ J x J' hi ⟨L, v5, v6, v7, v8, rfl, hw⟩ ⟨rfl, rfl⟩
          obtain ⟨s1, nL, zs, hz, lz, pz⟩ := hw
          have hS1 := s1.seq hS
          walk_at "go"
          have ek : (3 : Int) + (0 + (i : Int)) = ((3 + i : Nat) : Int) := by omega
          refine ⟨s, ns, 3 + i, by show [V.ref s, V.int (3 + (0 + (i : Int)))] = _; rw [ek], hS1, ?_⟩
          walk_at "go"
          intro d ds nd dr
          obtain ⟨dl, db⟩ := dr
          obtain ⟨d0, d1, d2, rfl⟩ : ∃ d0 d1 d2, ds = [d0, d1, d2] := by
            match ds, dl with
            | [d0, d1, d2], _ => exact ⟨_, _, _, rfl⟩
          have b2 := db d2 (by simp)
          have s2 := same_new (o := .lst ([d0, d1, d2].map V.int)) nd
          have ed : (upd J' d (.lst ([d0, d1, d2].map V.int))) d = some (.lst ([d0, d1, d2].map V.int)) := upd_same
          generalize upd J' d (.lst ([d0, d1, d2].map V.int)) = J1 at s2 ed
          have sd : SqL K J1 d [V.int d0, V.int d1, V.int d2] := SqL.of ed
          have hz1 := hz.mono s2
          have s3 := s1.trans s2
          walk_at "go"
          refine ite2 (fun e => ?_) (fun e => ?_)
          · have e2 : (0 : Int) < (n : Int) := of_decide_eq_true e
            dsimp only [List.set]
            walk_at "go"
            intro t nt
            generalize eH_ : upd J1 t _ = J2
            have s4 : Same J1 J2 := by rw [← eH_]; exact same_new nt
            have et : J2 t = some (.tup [.int (d0 % (n : Int)), .int (d1 % (n : Int))]) := by rw [← eH_]; exact upd_same
            clear eH_
            have hz2 := hz1.mono s4
            have sd2 := s4.seq sd
            have s5 := s3.trans s4
            have hp : PIn n (t, d0 % (n : Int), d1 % (n : Int)) := ⟨Int.emod_nonneg _ (by omega), Int.emod_lt_of_pos _ e2, Int.emod_nonneg _ (by omega), Int.emod_lt_of_pos _ e2⟩
            walk_at "go"
            refine ⟨.inl ⟨rfl, _, SqL.of hz2.sq⟩, ?_⟩
            walk_at "go"
            refine ⟨L, _, rfl, .inl (SqL.of hz2.sq), ?_⟩
            rw [List.length_map]
            walk_at "go"
            have m0 := Int.emod_nonneg d2 (show ((zs.length : Int) + 1) ≠ 0 by omega)
            have m1 := Int.emod_lt_of_pos d2 (show 0 < ((zs.length : Int) + 1) by omega)
            refine ⟨L, _, _, _, rfl, rfl, hz2.sq, by rw [List.length_map]; exact Nat.lt_of_lt_of_le (show zs.length < 2000 by omega) (by decide), m0, by omega, ?_⟩
            generalize (d2 % ((zs.length : Int) + 1)).toNat = j
            have w1 : Pw H (upd J2 L (.lst ((zs.map fun z => V.ref z.1).take j ++ [.ref t] ++ (zs.map fun z => V.ref z.1).drop j))) L n (58 + 15 + 2 * i + 1) ∧ (upd J2 L (.lst ((zs.map fun z => V.ref z.1).take j ++ [.ref t] ++ (zs.map fun z => V.ref z.1).drop j))) t = some (.tup [.int (d0 % (n : Int)), .int (d1 % (n : Int))]) ∧ SqL K (upd J2 L (.lst ((zs.map fun z => V.ref z.1).take j ++ [.ref t] ++ (zs.map fun z => V.ref z.1).drop j))) d [V.int d0, V.int d1, V.int d2] := by
              have tL : t ≠ L := fun e => by rw [e, hz2.sq] at et; cases et
              have dL : L ≠ d := ne_of_none hz.sq nd
              refine ⟨⟨Z.Same.mut s5 nL, nL, zs.take j ++ [(t, d0 % (n : Int), d1 % (n : Int))] ++ zs.drop j, hz2.put (fun z h => ?_) (by rw [List.map_append, List.map_append, List.map_take, List.map_drop]; rfl), ?_, fun z h => ?_⟩, by rw [upd_ne tL]; exact et, .inl (.inl (by rw [upd_ne dL.symm]; exact s4 _ _ ed))⟩
              · rcases List.mem_append.mp h with h | h
                · rcases List.mem_append.mp h with h | h
                  · exact .inl (List.mem_of_mem_take h)
                  · rw [List.mem_singleton.mp h]
                    exact .inr et
                · exact .inl (List.mem_of_mem_drop h)
              · rw [List.length_append, List.length_append, List.length_singleton, List.length_take, List.length_drop]
                omega
              · rcases List.mem_append.mp h with h | h
                · rcases List.mem_append.mp h with h | h
                  · exact pz z (List.mem_of_mem_take h)
                  · rw [List.mem_singleton.mp h]
                    exact hp
                · exact pz z (List.mem_of_mem_drop h)
            generalize upd J2 L (.lst ((zs.map fun z => V.ref z.1).take j ++ [.ref t] ++ (zs.map fun z => V.ref z.1).drop j)) = J3 at w1
            obtain ⟨w1, et3, sd3⟩ := w1
            dsimp only [List.set]
            walk_at "go"
            refine ite2 (fun e => ?_) (fun e => ?_)
            · walk_at "go"
              obtain ⟨s6, _, zs2, hz3, lz3, pz3⟩ := w1
              refine ⟨.inl ⟨rfl, _, SqL.of hz3.sq⟩, ?_⟩
              walk_at "go"
              refine ⟨_, _, _, rfl, rfl, hz3.sq, by rw [List.length_map]; exact Nat.lt_of_lt_of_le (show zs2.length < 2000 by omega) (by decide), ?_⟩
              walk_at "go"
              refine ⟨_, _, _, _, _, rfl, Z.Same.mut s6 nL, nL, zs2 ++ [(t, d0 % (n : Int), d1 % (n : Int))], hz3.put (fun z h => ?_) (by rw [List.map_append]; rfl), by rw [List.length_append, List.length_singleton]; omega, fun z h => ?_⟩
              · exact (List.mem_append.mp h).imp id fun h => by rw [List.mem_singleton.mp h]; exact et3
              · rcases List.mem_append.mp h with h | h
                · exact pz3 z h
                · rw [List.mem_singleton.mp h]
                  exact hp
            walk_at "go"
            exact ⟨_, _, _, _, _, rfl, w1.le (by omega)⟩
          walk_at "go"
          exact ⟨_, _, _, _, _, rfl, s3, nL, zs, hz1, by omega, pz⟩
        · rintro σ J ⟨L, v5, v6, v7, v8, rfl, hw⟩
          obtain ⟨s1, nL, zs, hz, lz, pz⟩ := hw
          walk_at "go"
          exact q L zs J s1 hz (by omega) pz
end
end Z
set_option Elab.async false
set_option linter.all false
set_option maxRecDepth 100000
set_option maxHeartbeats 4000000
namespace Z
open Ru PySem PySem.Spec PyProof.Rows L2
theorem badN_of {n : Nat} : ∀ {prs : List (Int × Int)}, (∀ x ∈ prs, 0 ≤ x.1 ∧ x.1 < n ∧ 0 ≤ x.2 ∧ x.2 < n) → badN n prs = none := by
  intro prs
  induction prs with
  | nil => exact fun _ => rfl
  | cons r t ih =>
    intro h
    have a := h r List.mem_cons_self
    unfold badN
    rw [if_pos (by unfold isP; exact decide_eq_true ⟨a.1, a.2.1⟩), if_pos (by unfold isP; exact decide_eq_true ⟨a.2.2.1, a.2.2.2⟩)]
    exact ih fun x hx => h x (List.mem_cons_of_mem _ hx)
/-- a copy of a list of pairs, each a new list -/
theorem lc_copy {K : PySem.W.Frag} {c : Bool} {a D : Addr} {ps : List Addr} {prs : List (Int × Int)} {H0 : Hp} {i : Nat} {te : TE} {vs : List Nat} {σ : L2.St} {Qd : Hp → Prop} (m : PrB true c H0 a ps prs) (hn : prs.length ≤ 1000) (nD : H0 D = none) (hw : ∀ x : Addr, wipe ((wipe σ vs).set i (some (.ref x))) vs = wipe σ vs)
    (ht : ∀ (x : Addr) (r : Int × Int) J (Q : VK), Same H0 J → J x = some (bO c [.int r.1, .int r.2]) → (∀ l, J l = none → Q (.ref l) (upd J l (.lst [.int r.1, .int r.2]))) → te ((wipe σ vs).set i (some (.ref x))) J Q)
    (hd : ∀ J ls, Same H0 J → PrB true true J D ls prs → (∀ l ∈ ls, H0 l = none) → Qd J) : lcW (Itl K a) (gName i) tYes te vs σ D Qd H0 := by
  have hS : SqL K H0 a (ps.map V.ref) := SqL.of m.sq
  have ex : ∀ k (hk : k < ps.length), (ps.map V.ref)[k]? = some (.ref ps[k]) := fun k hk => by
    rw [List.getElem?_map, List.getElem?_eq_getElem hk]
    rfl
  refine lc_gen (n := ps.length) (fun k J => Same H0 J ∧ ∃ ls : List Addr, J D = some (.lst (ls.map V.ref)) ∧ ls.length = k ∧ (∀ l ∈ ls, H0 l = none ∧ l ≠ D) ∧ ∀ (j : Nat) l r, ls[j]? = some l → prs[j]? = some r → J l = some (.lst [.int r.1, .int r.2])) ⟨same_new nD, [], upd_same, rfl, fun l h => absurd h (by simp), fun j l r h => by simp at h⟩ (fun k J hk p => ⟨_, _, p.1.seq hS, ex k hk⟩) (fun J p => ⟨_, p.1.seq hS, by rw [List.length_map]; exact Nat.le_refl _⟩) ?_ ?_
  · rintro k J x J' hk ⟨s1, ls, eD, ll, fr, cn⟩ ⟨rfl, y⟩
    have y := y _ (s1.seq hS)
    rw [ex k hk] at y
    cases y
    refine ⟨hw _, ?_⟩
    dsimp only [tYes]
    rw [if_pos rfl]
    have hk2 : k < prs.length := by rw [← m.len]; exact hk
    refine ht _ prs[k] J' _ s1 (s1 _ _ (m.at_ k _ _ (List.getElem?_eq_getElem hk) (List.getElem?_eq_getElem hk2))) fun l nl => ?_
    have lD : D ≠ l := ne_of_none eD nl
    have nlH : H0 l = none := none_of s1 nl
    refine ⟨_, by rw [upd_ne lD]; exact eD, by rw [List.length_map, ll]; exact Nat.lt_of_lt_of_le (show k < 2000 by omega) (by decide), Z.Same.mut (s1.trans (same_new nl)) nD, ls ++ [l], by rw [upd_same, List.map_append]; rfl, by rw [List.length_append, ll]; rfl, fun l' h => ?_, fun j l' r h1 h2 => ?_⟩
    · rcases List.mem_append.mp h with h | h
      · exact fr l' h
      · rw [List.mem_singleton.mp h]
        exact ⟨nlH, lD.symm⟩
    · by_cases c1 : j < ls.length
      · rw [List.getElem?_append_left c1] at h1
        have fl := fr l' (List.mem_of_getElem? h1)
        have e := cn j l' r h1 h2
        rw [upd_ne fl.2, upd_ne (ne_of_none e nl)]
        exact e
      · have c2 : j = ls.length := by
          have := (List.getElem?_eq_some_iff.mp h1).1
          rw [List.length_append, List.length_singleton] at this
          omega
        subst c2
        rw [List.getElem?_append_right (Nat.le_refl _), Nat.sub_self] at h1
        cases h1
        subst ll
        rw [List.getElem?_eq_getElem hk2] at h2
        cases h2
        rw [upd_ne lD.symm, upd_same]
  · rintro J ⟨s1, ls, eD, ll, fr, cn⟩
    exact hd J ls s1 ⟨eD, by rw [ll, m.len], fun j l r h1 h2 => cn j l r h1 h2⟩ fun l h => (fr l h).1
theorem PrB.mat {K : PySem.W.Frag} {H : Hp} {a : Addr} {ps : List Addr} {prs : List (Int × Int)} (m : PrB true true H a ps prs) : Mat true K H a ps (prs.map fun r => [r.1, r.2]) := by
  refine ⟨SqL.of m.sq, by rw [List.length_map, m.len], fun i p r h1 h2 => ?_⟩
  rw [List.getElem?_map] at h2
  cases e : prs[i]? with
  | none => rw [e] at h2; cases h2
  | some z =>
    rw [e] at h2
    cases h2
    exact SqL.of (m.at_ i p z h1 e)
/-! ### the words and the rounds as data -/
def wD : Option (Bool × Nat) → PyData
  | none => .str "open"
  | some (b, _) => .str (wd b)
def rD : Option (Bool × Nat) → PyData
  | none => .none
  | some (_, r) => .int r
theorem dp_w {K : PySem.W.Frag} {H : Hp} (z : Option (Bool × Nat)) : Dp K H (wV z) (wD z) := by
  rcases z with _ | ⟨b, r⟩
  · exact .str _
  · rw [wV_some]
    exact .str _
theorem dp_r {K : PySem.W.Frag} {H : Hp} (z : Option (Bool × Nat)) : Dp K H (rV z) (rD z) := by
  rcases z with _ | ⟨b, r⟩
  · exact .non
  · exact .int _
theorem dpa_map {α : Type} {K : PySem.W.Frag} {H : Hp} {g : α → V} {h : α → PyData} (e : ∀ x, Dp K H (g x) (h x)) : ∀ xs : List α, DpAll K H (xs.map g) (xs.map h)
  | [] => .nil
  | x :: r => .cons (e x) (dpa_map e r)
theorem flat_map {α : Type} {h : α → PyData} (e : ∀ x, PyData.canLay0 (h x) = true ∧ PyData.depth (h x) = 0) : ∀ xs : List α, PyData.canLayAll0 (xs.map h) = true ∧ PyData.depthAll (xs.map h) = 0
  | [] => ⟨rfl, rfl⟩
  | x :: r => by
    have z := flat_map e r
    have y := e x
    constructor
    · rw [List.map_cons, PyData.canLayAll0, z.1, y.1]
      rfl
    · rw [List.map_cons, PyData.depthAll, z.2, y.2]
      rfl
theorem shaped_map {α : Type} {h : α → PyData} (e : ∀ x, PyData.canLay0 (h x) = true ∧ PyData.depth (h x) = 0) (xs : List α) : SeqAt.shaped (.tuple (xs.map h)) = true := by
  have z := flat_map e xs
  unfold SeqAt.shaped
  show (PyData.canLayAll0 (xs.map h) && decide (PyData.depthAll (xs.map h) + 1 ≤ 64)) = true
  rw [z.1, z.2]
  rfl
theorem wD_flat (z : Option (Bool × Nat)) : PyData.canLay0 (wD z) = true ∧ PyData.depth (wD z) = 0 := by
  rcases z with _ | ⟨b, r⟩
  · exact ⟨by decide +kernel, rfl⟩
  · cases b
    · exact ⟨show PyData.canLay0 (.str "refused") = true by decide +kernel, rfl⟩
    · exact ⟨show PyData.canLay0 (.str "upheld") = true by decide +kernel, rfl⟩
theorem rD_flat (z : Option (Bool × Nat)) : PyData.canLay0 (rD z) = true ∧ PyData.depth (rD z) = 0 := by
  rcases z with _ | ⟨b, r⟩ <;> exact ⟨rfl, rfl⟩
/-! ### the counting answers do not depend on the order of the pairs -/
theorem asc_ext : ∀ {l m : List Int}, l.Pairwise (· < ·) → m.Pairwise (· < ·) → (∀ x, x ∈ l ↔ x ∈ m) → l = m
  | [], [], _, _, _ => rfl
  | [], y :: m, _, _, h => absurd ((h y).mpr List.mem_cons_self) (by simp)
  | x :: l, [], _, _, h => absurd ((h x).mp List.mem_cons_self) (by simp)
  | x :: l, y :: m, p, q, h => by
    have p2 := List.pairwise_cons.mp p
    have q2 := List.pairwise_cons.mp q
    have e : x = y := by
      rcases List.mem_cons.mp ((h x).mp List.mem_cons_self) with a | a
      · exact a
      · rcases List.mem_cons.mp ((h y).mpr List.mem_cons_self) with b | b
        · exact b.symm
        · have := q2.1 x a
          have := p2.1 y b
          omega
    subst e
    refine congrArg _ (asc_ext p2.2 q2.2 fun z => ⟨fun hz => ?_, fun hz => ?_⟩)
    · rcases List.mem_cons.mp ((h z).mp (List.mem_cons_of_mem _ hz)) with a | a
      · have := p2.1 z hz
        omega
      · exact a
    · rcases List.mem_cons.mp ((h z).mpr (List.mem_cons_of_mem _ hz)) with a | a
      · have := q2.1 z hz
        omega
      · exact a
theorem cl_same {rs : List Int} {prs prs' : List (Int × Int)} {cl cl' : List (List Int)} (hm : ∀ x, x ∈ prs ↔ x ∈ prs') (h1 : cl.length = rs.length) (h2 : cl'.length = rs.length) (o1 : ∀ (p : Nat) l, cl[p]? = some l → CntOk rs prs p l) (o2 : ∀ (p : Nat) l, cl'[p]? = some l → CntOk rs prs' p l) : cl = cl' := by
  refine List.ext_getElem (by rw [h1, h2]) fun p k1 k2 => ?_
  have a := o1 p _ (List.getElem?_eq_getElem k1)
  have b := o2 p _ (List.getElem?_eq_getElem k2)
  exact asc_ext a.1 b.1 fun x => (a.2 x).trans ((and_congr_left' (hm _)).trans (b.2 x).symm)
theorem PrB.of_z {b : Bool} {H : Hp} {a : Addr} {zs : List (Addr × Int × Int)} (h : H a = some (bO b (zs.map fun z => V.ref z.1))) (at_ : ∀ z ∈ zs, H z.1 = some (.tup [.int z.2.1, .int z.2.2])) : PrB b false H a (zs.map Prod.fst) (zs.map Prod.snd) := by
  refine ⟨?_, by rw [List.length_map, List.length_map], fun i p r h1 h2 => ?_⟩
  · rw [h, List.map_map]
    rfl
  · rw [List.getElem?_map] at h1 h2
    cases e : zs[i]? with
    | none => rw [e] at h1; cases h1
    | some z =>
      rw [e] at h1 h2
      cases h1
      cases h2
      exact at_ z (List.mem_of_getElem? e)
theorem dp_ws {K : PySem.W.Frag} {H : Hp} {a : Addr} {S : Ru.St} {n : Nat} (h : H a = some (.tup (vls (fun p => wV (S p)) n))) : Dp K H (.ref a) (.tuple ((List.range n).map fun p => wD (S p))) := .tup (SqT.of h) (dpa_map (g := fun p => wV (S p)) (h := fun p => wD (S p)) (fun _ => dp_w _) _)
theorem dp_rs {K : PySem.W.Frag} {H : Hp} {a : Addr} {S : Ru.St} {n : Nat} (h : H a = some (.tup (vls (fun p => rV (S p)) n))) : Dp K H (.ref a) (.tuple ((List.range n).map fun p => rD (S p))) := .tup (SqT.of h) (dpa_map (g := fun p => rV (S p)) (h := fun p => rD (S p)) (fun _ => dp_r _) _)
theorem shaped_ws (S : Ru.St) (n : Nat) : SeqAt.shaped (.tuple ((List.range n).map fun p => wD (S p))) = true := shaped_map (fun _ => wD_flat _) _
theorem shaped_rs (S : Ru.St) (n : Nat) : SeqAt.shaped (.tuple ((List.range n).map fun p => rD (S p))) = true := shaped_map (fun _ => rD_flat _) _
/-- the heap behind the making of a new object -/
theorem made_same {H H' : Hp} {n dx : Addr} {o p : HO} (n1 : H n = none) (n2 : H dx = none) (s : SB n (upd (upd H dx o) n p) H') : Same H H' := fun a u e => by
  have an : a ≠ n := fun z => by rw [z, n1] at e; cases e
  have ad : a ≠ dx := fun z => by rw [z, n2] at e; cases e
  refine s a u an ?_
  rw [upd_ne an, upd_ne ad]
  exact e
end Z
set_option Elab.async false
set_option linter.all false
set_option maxRecDepth 100000
set_option maxHeartbeats 4000000
namespace Z
open PySem PySem.Spec PyProof.Rows L2
open PySem.W (minD dataLt dataLt_ii AlikeAll min_list_data alike alikeAll)
/-! ### min of a list of pairs of ints -/
def tD (z : Int × Int) : PyData := .tuple [.int z.1, .int z.2]
def le2 (x y : Int × Int) : Prop := x.1 < y.1 ∨ (x.1 = y.1 ∧ x.2 ≤ y.2)
theorem le2_refl (x : Int × Int) : le2 x x := .inr ⟨rfl, Int.le_refl _⟩
theorem le2_trans {x y z : Int × Int} (h : le2 x y) (k : le2 y z) : le2 x z := by
  unfold le2 at *
  omega
theorem minD_pairs (p : Int × Int) (ps : List (Int × Int)) : ∃ m, minD (tD p) (ps.map tD) = tD m ∧ ∀ y ∈ p :: ps, le2 m y := by
  have key : ∀ (ps : List (Int × Int)) (p : Int × Int), ∃ m, (ps.map tD).foldl (fun a y => if dataLt y a then y else a) (tD p) = tD m ∧ ∀ y ∈ p :: ps, le2 m y := by
    intro ps
    induction ps with
    | nil => exact fun p => ⟨p, rfl, fun y hy => by rw [List.mem_singleton.mp hy]; exact le2_refl p⟩
    | cons q r ih =>
      intro p
      rw [List.map_cons, List.foldl_cons]
      by_cases c : dataLt (tD q) (tD p) = true
      · rw [if_pos c]
        obtain ⟨m, e, hm⟩ := ih q
        refine ⟨m, e, fun y hy => ?_⟩
        have c : dataLt (.tuple [.int q.1, .int q.2]) (.tuple [.int p.1, .int p.2]) = true := c
        rw [dataLt_ii] at c
        have c := of_decide_eq_true c
        rcases List.mem_cons.mp hy with rfl | hy
        · refine le2_trans (hm q List.mem_cons_self) ?_
          unfold le2
          omega
        · exact hm y hy
      · rw [if_neg c]
        obtain ⟨m, e, hm⟩ := ih p
        refine ⟨m, e, fun y hy => ?_⟩
        have c2 : ¬ (q.1 < p.1 ∨ (q.1 = p.1 ∧ q.2 < p.2)) := fun z => c (by
          show dataLt (.tuple [.int q.1, .int q.2]) (.tuple [.int p.1, .int p.2]) = true
          rw [dataLt_ii]
          exact decide_eq_true z)
        rcases List.mem_cons.mp hy with rfl | hy
        · exact hm y List.mem_cons_self
        · rcases List.mem_cons.mp hy with rfl | hy
          · refine le2_trans (hm p List.mem_cons_self) ?_
            unfold le2
            omega
          · exact hm y (List.mem_cons_of_mem _ hy)
  exact key ps p
def rMinT : List V → Hp → VK → Prop := fun vs H Q => ∃ (a : Addr) (zs : List (Addr × Int × Int)), vs = [.ref a] ∧ H a = some (.lst (zs.map fun z => V.ref z.1)) ∧ (∀ z ∈ zs, H z.1 = some (.tup [.int z.2.1, .int z.2.2])) ∧ 0 < zs.length ∧ ∀ z ∈ zs, (∀ y ∈ zs, le2 z.2 y.2) → Q (.ref z.1) H
theorem dpa_pairs {K : PySem.W.Frag} {H : Hp} : ∀ {zs : List (Addr × Int × Int)}, (∀ z ∈ zs, H z.1 = some (.tup [.int z.2.1, .int z.2.2])) → DpAll K H (zs.map fun z => V.ref z.1) (zs.map fun z => tD z.2)
  | [], _ => .nil
  | z :: r, h => .cons (.tup (SqT.of (h z List.mem_cons_self)) (.cons (.int _) (.cons (.int _) .nil))) (dpa_pairs fun x hx => h x (List.mem_cons_of_mem _ hx))
theorem dep_pairs : ∀ ps : List (Int × Int), PyData.depthAll (ps.map tD) ≤ 1
  | [] => Nat.zero_le _
  | p :: r => by
    have := dep_pairs r
    rw [List.map_cons, PyData.depthAll]
    have e : (tD p).depth = 1 := by simp [tD, PyData.depth, PyData.depthAll]
    omega
theorem cr_minT {X : Cx} (hc : X.calm = true) (hu : X.A.units + 64 < cLine) : CallR X (.builtin "min") rMinT := by
  intro pins s σ H vs us Q I r h
  obtain ⟨a, zs, rfl, ha, hz, hne, q⟩ := h
  obtain ⟨u, rfl, ru⟩ := vals1 r
  obtain rfl : u = Value.ref a := ru
  obtain ⟨its, rv, hl, _⟩ := I.list (SqL.of ha)
  obtain ⟨as, ra⟩ := Dp.readsAll I _ _ _ (dpa_pairs hz) rv
  obtain ⟨z0, zr, ez⟩ : ∃ z0 zr, zs = z0 :: zr := by
    cases zs with
    | nil => exact absurd hne (by decide)
    | cons z r => exact ⟨z, r, rfl⟩
  have em : (zs.map fun z => tD z.2) = tD z0.2 :: (zr.map (·.2)).map tD := by rw [ez, List.map_cons, List.map_map]; rfl
  obtain ⟨m, emin, hm⟩ := minD_pairs z0.2 (zr.map (·.2))
  have al : AlikeAll (tD z0.2 :: (zr.map (·.2)).map tD) := by
    refine ⟨fun x hx y hy => ?_, fun x hx => ?_⟩
    · obtain ⟨p, rfl⟩ : ∃ p, x = tD p := by
        rcases List.mem_cons.mp hx with h | h
        · exact ⟨_, h⟩
        · obtain ⟨p, _, e⟩ := List.mem_map.mp h
          exact ⟨p, e.symm⟩
      obtain ⟨p', rfl⟩ : ∃ p, y = tD p := by
        rcases List.mem_cons.mp hy with h | h
        · exact ⟨_, h⟩
        · obtain ⟨p, _, e⟩ := List.mem_map.mp h
          exact ⟨p, e.symm⟩
      simp [tD, alike, alikeAll]
    · rcases List.mem_cons.mp hx with h | h
      · rw [h]
        exact nofun
      · obtain ⟨p, _, e⟩ := List.mem_map.mp h
        rw [← e]
        exact nofun
  have dep : PyData.depthAll (tD z0.2 :: (zr.map (·.2)).map tD) ≤ 1 := by
    show PyData.depthAll ((z0.2 :: zr.map (fun z => z.2)).map tD) ≤ 1
    exact dep_pairs _
  refine min_list_data (I.ok.hd hc) hl.isList (by rw [← em]; simpa using ra) al (by omega) fun i v h' tk bs hi rd hk => ?_
  have hi : its[i]? = some v := by simpa using hi
  have hlen := rv.length
  rw [List.length_map] at hlen
  have hi2 : i < zs.length := by
    have := (List.getElem?_eq_some_iff.mp hi).1
    omega
  have ezi : (zs.map fun z => V.ref z.1)[i]? = some (.ref zs[i].1) := by rw [List.getElem?_map, List.getElem?_eq_getElem hi2]; rfl
  obtain ⟨v2, hv2, rv2⟩ := rv.get ezi
  rw [hi] at hv2
  cases hv2
  have hzi := hz _ (List.getElem_mem hi2)
  obtain ⟨cs, rd2⟩ := Dp.reads I (tD zs[i].2) _ _ (.tup (SqT.of hzi) (.cons (.int _) (.cons (.int _) .nil))) rv2
  have lay : (tD zs[i].2).canLay0 = true := by simp [tD, PyData.canLay0, PyData.canLayAll0]
  have un := PySem.SeqAt.Reads.unique _ _ _ _ _ lay (PySem.W.reads_keeps hk rd2) rd
  rw [emin] at un
  have un : zs[i].2 = m := by
    unfold tD at un
    injection un with un
    injection un with e1 e2
    injection e2 with e2 _
    injection e1 with e1
    injection e2 with e2
    exact Prod.ext e1 e2
  refine ⟨.ref zs[i].1, H, I.kept hk, rv2, q _ (List.getElem_mem hi2) fun y hy => ?_⟩
  rw [un]
  refine hm y.2 ?_
  rw [ez] at hy
  rcases List.mem_cons.mp hy with rfl | hy
  · exact List.mem_cons_self
  · exact List.mem_cons_of_mem _ (List.mem_map.mpr ⟨y, hy, rfl⟩)
end Z
set_option Elab.async false
set_option linter.all false
set_option maxRecDepth 100000
set_option maxHeartbeats 4000000
namespace Ru
/-! ### more about rulings: no program -/
theorem all_congr {C C' : List Nat} {f g : Nat → Bool} (h : ∀ q, q ∈ C ↔ q ∈ C') (e : ∀ q ∈ C, f q = g q) : C.all f = C'.all g := by
  rw [Bool.eq_iff_iff, List.all_eq_true, List.all_eq_true]
  exact ⟨fun z q hq => by rw [← e q ((h q).mpr hq)]; exact z q ((h q).mpr hq), fun z q hq => by rw [e q hq]; exact z q ((h q).mp hq)⟩
theorem any_congr {C C' : List Nat} {f g : Nat → Bool} (h : ∀ q, q ∈ C ↔ q ∈ C') (e : ∀ q ∈ C, f q = g q) : C.any f = C'.any g := by
  rw [Bool.eq_iff_iff, List.any_eq_true, List.any_eq_true]
  exact ⟨fun ⟨q, hq, z⟩ => ⟨q, (h q).mp hq, by rw [← e q hq]; exact z⟩, fun ⟨q, hq, z⟩ => ⟨q, (h q).mpr hq, by rw [e q ((h q).mpr hq)]; exact z⟩⟩
theorem rnd_loc {C C' : Nat → List Nat} {P : Nat → Prop} (h : ∀ p, P p → (∀ q, q ∈ C p ↔ q ∈ C' p) ∧ ∀ q ∈ C p, P q) : ∀ k p, P p → rnd C k p = rnd C' k p
  | 0, _, _ => rfl
  | k + 1, p, hp => by
    have ih := rnd_loc h k
    have e1 : ∀ p, P p → one C (k + 1) (rnd C k) p = one C' (k + 1) (rnd C' k) p := fun p hp => by
      have a : (C p).all (refu (rnd C k)) = (C' p).all (refu (rnd C' k)) := all_congr (h p hp).1 fun q hq => by
        unfold refu
        rw [ih q ((h p hp).2 q hq)]
      unfold one
      rw [ih p hp, a]
    have a : (C p).any (uphe (one C (k + 1) (rnd C k))) = (C' p).any (uphe (one C' (k + 1) (rnd C' k))) := any_congr (h p hp).1 fun q hq => by
      unfold uphe
      rw [e1 q ((h p hp).2 q hq)]
    show two C (k + 1) (one C (k + 1) (rnd C k)) p = two C' (k + 1) (one C' (k + 1) (rnd C' k)) p
    unfold two
    rw [e1 p hp, a]
/-- what a later round tells of an earlier one -/
theorem rnd_back {C : Nat → List Nat} {k q t : Nat} {b : Bool} (h : rnd C (k + 1) q = some (b, t)) (ht : t ≤ k) : rnd C k q = some (b, t) := by
  cases e : rnd C k q with
  | some x =>
    have := rnd_keep e
    rw [h] at this
    cases this
    rfl
  | none =>
    have h2 : two C (k + 1) (one C (k + 1) (rnd C k)) q = some (b, t) := h
    rcases two_cases (C := C) (k := k + 1) (S := one C (k + 1) (rnd C k)) (p := q) with ⟨e2, _⟩ | ⟨_, _, e2⟩
    · rw [e2] at h2
      rcases one_cases (C := C) (k := k + 1) (S := rnd C k) (p := q) with ⟨e3, _⟩ | ⟨_, _, e3⟩
      · rw [e3, e] at h2
        cases h2
      · rw [e3] at h2
        cases h2
        omega
    · rw [e2] at h2
      cases h2
      omega
theorem quiet_next {C : Nat → List Nat} {n m : Nat} (hC : ∀ p, p < n → ∀ q ∈ C p, q < n) (h1 : 1 ≤ m) (h : Quiet C n m) : Quiet C n (m + 1) ∧ ∀ p, p < n → rnd C (m + 1) p = rnd C m p := by
  have I := iv_rnd C (m + 1)
  have noup : ∀ p, p < n → rnd C (m + 1) p ≠ some (true, m + 1) := fun p hp e => by
    obtain ⟨_, _, _, a⟩ := I.up p _ e
    rcases a with a | ⟨q, hq, e2⟩
    · omega
    · rw [Nat.add_sub_cancel] at e2
      exact h q (hC p hp q hq) false (rnd_back e2 (Nat.le_refl _))
  have nore : ∀ p, p < n → rnd C (m + 1) p ≠ some (false, m + 1) := fun p hp e => by
    obtain ⟨_, _, ⟨q, hq, e2⟩, _⟩ := I.re p _ e
    exact noup q (hC p hp q hq) e2
  have qn : Quiet C n (m + 1) := fun p hp b e => by
    cases b
    · exact nore p hp e
    · exact noup p hp e
  refine ⟨qn, fun p hp => ?_⟩
  cases e : rnd C (m + 1) p with
  | none =>
    cases e2 : rnd C m p with
    | none => rfl
    | some x =>
      rw [rnd_keep e2] at e
      cases e
  | some x =>
    obtain ⟨b, t⟩ := x
    have ht : t ≤ m + 1 := by
      cases b
      · exact (I.re p t e).2.1
      · exact (I.up p t e).2.1
    have ht2 : t ≠ m + 1 := fun z => qn p hp b (by rw [z] at e; exact e)
    exact (rnd_back e (by omega)).symm
theorem quiet_all {C : Nat → List Nat} {n m : Nat} (hC : ∀ p, p < n → ∀ q ∈ C p, q < n) (h1 : 1 ≤ m) (h : Quiet C n m) : ∀ d, Quiet C n (m + d) ∧ ∀ p, p < n → rnd C (m + d) p = rnd C m p
  | 0 => ⟨h, fun _ _ => rfl⟩
  | d + 1 => by
    obtain ⟨a, b⟩ := quiet_all hC h1 h d
    obtain ⟨c, e⟩ := quiet_next hC (by omega) a
    exact ⟨c, fun p hp => (e p hp).trans (b p hp)⟩
theorem rnd_full {C : Nat → List Nat} {n m : Nat} (h : ∀ p, p < n → rnd C m p ≠ none) : ∀ d p, p < n → rnd C (m + d) p = rnd C m p
  | 0, _, _ => rfl
  | d + 1, p, hp => by
    have ih := rnd_full h d p hp
    cases e : rnd C m p with
    | none => exact absurd e (h p hp)
    | some x =>
      rw [e] at ih
      exact rnd_keep ih
theorem full_top {C : Nat → List Nat} {n : Nat} (h : ∀ k, 1 ≤ k → k ≤ n → ¬ Quiet C n k) : ∀ p, p < n → rnd C n p ≠ none := by
  have key : ∀ k, k ≤ n → k ≤ many n (rnd C k) := fun k => by
    induction k with
    | zero => intro _; exact Nat.zero_le _
    | succ k ih =>
      intro hk
      have h1 := ih (by omega)
      have h2 : ∃ p, p < n ∧ ∃ b, rnd C (k + 1) p = some (b, k + 1) := by
        apply Classical.byContradiction
        intro z
        exact h (k + 1) (by omega) hk fun p hp b e => z ⟨p, hp, b, e⟩
      obtain ⟨p, hp, b, e⟩ := h2
      have := many_lt (n := n) (S := rnd C k) (T := rnd C (k + 1)) (fun q x hx => rnd_keep hx) hp (rnd_new e) (by rw [e]; exact fun z => by cases z)
      omega
  exact many_top (key n (Nat.le_refl _))
/-- the state stands from the stop on -/
theorem stop_all {C : Nat → List Nat} {n m k : Nat} (hC : ∀ p, p < n → ∀ q ∈ C p, q < n) (a : IsStop C n m) (hk : m ≤ k) : ∀ p, p < n → rnd C k p = rnd C m p := by
  obtain ⟨a1, a2, a3⟩ := a
  obtain ⟨d, rfl⟩ : ∃ d, k = m + d := ⟨k - m, by omega⟩
  by_cases c : 1 ≤ m ∧ Quiet C n m
  · exact (quiet_all hC c.1 c.2 d).2
  · have e : m = n := a3.elim id fun z => absurd z c
    refine rnd_full ?_ d
    subst e
    refine full_top fun k k1 k2 => ?_
    by_cases d : k = m
    · subst d
      exact fun z => c ⟨k1, z⟩
    · exact a2 k k1 (by omega)
/-- there is a stop -/
theorem stop_ex (C : Nat → List Nat) (n : Nat) : ∃ m, IsStop C n m := by
  apply Classical.byContradiction
  intro z
  have key : ∀ k, k ≤ n → ∀ j, 1 ≤ j → j < k → ¬ Quiet C n j := by
    intro k
    induction k with
    | zero => exact fun _ j _ h => by omega
    | succ k ih =>
      intro hk j h1 h2 hq
      by_cases c : j < k
      · exact ih (by omega) j h1 c hq
      · have : j = k := by omega
        subst this
        exact z ⟨j, by omega, ih (by omega), .inr ⟨h1, hq⟩⟩
  exact z ⟨n, Nat.le_refl _, key n (Nat.le_refl _), .inl rfl⟩
/-- the final state tells more rounds nothing new -/
theorem rnd_final {C : Nat → List Nat} {n k : Nat} (hC : ∀ p, p < n → ∀ q ∈ C p, q < n) (hk : n ≤ k) : ∀ p, p < n → rnd C k p = rnd C n p := fun p hp => by
  obtain ⟨m, hm⟩ := stop_ex C n
  rw [stop_all hC hm (by have := hm.1; omega) p hp, stop_all hC hm hm.1 p hp]
/-- the answer to an upheld paper -/
theorem reply_ok {C : Nat → List Nat} {k p a r : Nat} (hp : rnd C k p = some (true, r)) (ha : a ∈ C p) : ∃ t, t < r ∧ rnd C k a = some (false, t) ∧ (∃ q ∈ C a, rnd C k q = some (true, t)) ∧ ∀ q ∈ C a, ∀ u, rnd C k q = some (true, u) → t ≤ u := by
  have I := iv_rnd C k
  obtain ⟨_, _, h, _⟩ := I.up p r hp
  obtain ⟨t, ht, e⟩ := h a ha
  obtain ⟨_, _, h2, h3⟩ := I.re a t e
  exact ⟨t, ht, e, h2, h3⟩
theorem up_le {C : Nat → List Nat} {k p r : Nat} (hp : rnd C k p = some (true, r)) : 1 ≤ r ∧ r ≤ k := by
  obtain ⟨a, b, _⟩ := (iv_rnd C k).up p r hp
  exact ⟨a, b⟩
end Ru
namespace Z
open Ru
/-- the counting answers, in ascending order -/
def Cz (rs : List Int) (prs : List (Int × Int)) (p : Nat) : List Nat := (List.range rs.length).filter fun q => decide (((q : Int), (p : Int)) ∈ prs ∧ rs.getD p 0 ≤ rs.getD q 0)
/-- the final ruling -/
def Rz (rs : List Int) (prs : List (Int × Int)) : St := rnd (Cz rs prs) rs.length
def Rg (rs : List Int) (prs : List (Int × Int)) : Prop := ∀ x ∈ prs, 0 ≤ x.1 ∧ x.1 < rs.length ∧ 0 ≤ x.2 ∧ x.2 < rs.length
theorem cz_lt {rs : List Int} {prs : List (Int × Int)} {p q : Nat} (h : q ∈ Cz rs prs p) : q < rs.length := List.mem_range.mp (List.mem_filter.mp h).1
theorem cz_mem {rs : List Int} {prs : List (Int × Int)} (rg : Rg rs prs) {p : Nat} {l : List Int} (h : ∀ q : Int, q ∈ l ↔ (q, (p : Int)) ∈ prs ∧ rs.getD p 0 ≤ rs.getD q.toNat 0) : (∀ q : Nat, q ∈ Cz rs prs p ↔ (q : Int) ∈ l) ∧ ∀ x ∈ l, 0 ≤ x ∧ x < rs.length := by
  refine ⟨fun q => ?_, fun x hx => ?_⟩
  · unfold Cz
    rw [List.mem_filter, List.mem_range, decide_eq_true_iff, h]
    constructor
    · exact fun z => ⟨z.2.1, z.2.2⟩
    · refine fun z => ⟨?_, z.1, z.2⟩
      have := (rg _ z.1).2.1
      dsimp only at this
      omega
  · have := rg _ ((h x).mp hx).1
    exact ⟨this.1, this.2.1⟩
theorem cn_mem {cl : List (List Int)} {p : Nat} {l : List Int} (e : cl[p]? = some l) (h0 : ∀ x ∈ l, 0 ≤ x) : ∀ q : Nat, q ∈ Cn cl p ↔ (q : Int) ∈ l := fun q => by
  have e1 : Cn cl p = l.map Int.toNat := by
    unfold Cn
    rw [List.getD_eq_getElem?_getD, e]
    rfl
  rw [e1, List.mem_map]
  constructor
  · rintro ⟨x, h1, h2⟩
    have := h0 x h1
    rw [show (q : Int) = x by omega]
    exact h1
  · exact fun hq => ⟨(q : Int), hq, by omega⟩
/-- lists of counting answers, in any order -/
structure ClOk (rs : List Int) (prs : List (Int × Int)) (cl : List (List Int)) : Prop where
  len : cl.length = rs.length
  mem : ∀ (p : Nat) l, cl[p]? = some l → ∀ q : Int, q ∈ l ↔ (q, (p : Int)) ∈ prs ∧ rs.getD p 0 ≤ rs.getD q.toNat 0
  nod : ∀ (p : Nat) l, cl[p]? = some l → l.Nodup
theorem ClOk.at_ {rs : List Int} {prs : List (Int × Int)} {cl : List (List Int)} (h : ClOk rs prs cl) (rg : Rg rs prs) {p : Nat} {l : List Int} (e : cl[p]? = some l) : (∀ q : Nat, q ∈ Cz rs prs p ↔ (q : Int) ∈ l) ∧ ∀ x ∈ l, 0 ≤ x ∧ x < rs.length := cz_mem rg (h.mem p l e)
theorem ClOk.rnd {rs : List Int} {prs : List (Int × Int)} {cl : List (List Int)} (h : ClOk rs prs cl) (rg : Rg rs prs) (k : Nat) : ∀ p, p < rs.length → rnd (Cn cl) k p = rnd (Cz rs prs) k p := by
  refine rnd_loc (P := fun p => p < rs.length) (fun p hp => ?_) k
  have e : cl[p]? = some (cl[p]'(by rw [h.len]; exact hp)) := List.getElem?_eq_getElem (by rw [h.len]; exact hp)
  obtain ⟨a, b⟩ := h.at_ rg e
  have c := cn_mem e fun x hx => (b x hx).1
  refine ⟨fun q => (c q).trans (a q).symm, fun q hq => ?_⟩
  have := (b _ ((c q).mp hq)).2
  omega
theorem ClOk.range {rs : List Int} {prs : List (Int × Int)} {cl : List (List Int)} (h : ClOk rs prs cl) (rg : Rg rs prs) : ∀ p, p < rs.length → ∀ q ∈ Cn cl p, q < rs.length := fun p hp q hq => by
  have e : cl[p]? = some (cl[p]'(by rw [h.len]; exact hp)) := List.getElem?_eq_getElem (by rw [h.len]; exact hp)
  obtain ⟨a, b⟩ := h.at_ rg e
  have := (b _ ((cn_mem e fun x hx => (b x hx).1) q |>.mp hq)).2
  omega
theorem nodup_asc {l : List Int} (h : l.Pairwise (· < ·)) : l.Nodup := h.imp fun h e => by omega
theorem ClOk.of {rs : List Int} {prs : List (Int × Int)} {cl : List (List Int)} (h1 : cl.length = rs.length) (h : ∀ (p : Nat) l, cl[p]? = some l → CntOk rs prs p l) : ClOk rs prs cl := ⟨h1, fun p l e => (h p l e).2, fun p l e => nodup_asc (h p l e).1⟩
theorem ClOk.stop {rs : List Int} {prs : List (Int × Int)} {cl : List (List Int)} {m : Nat} (h : ClOk rs prs cl) (rg : Rg rs prs) (hm : IsStop (Cn cl) rs.length m) : ∀ p, p < rs.length → Ru.rnd (Cn cl) m p = Rz rs prs p := fun p hp => by
  have a := stop_all (h.range rg) hm hm.1 p hp
  rw [← a]
  exact h.rnd rg _ p hp
end Z
set_option Elab.async false
set_option linter.all false
set_option maxRecDepth 100000
set_option maxHeartbeats 4000000
namespace Z
open Ru PySem PySem.Spec PyProof.Rows L2
def sb (b : Bool) (S : Ru.St) (q : Int) : Bool := if b then uphe S q.toNat else refu S q.toNat
def rnO (S : Ru.St) (q : Int) : Int := match S q.toNat with
  | some (_, r) => (r : Int)
  | none => 0
theorem sb_iff {b : Bool} {S : Ru.St} {q : Int} : sb b S q = true ↔ ∃ r, S q.toNat = some (b, r) := by
  unfold sb
  cases b
  · rw [if_neg Bool.false_ne_true]
    exact refu_iff
  · rw [if_pos rfl]
    exact uphe_iff
theorem rnO_of {b : Bool} {S : Ru.St} {q : Int} {r : Nat} (h : S q.toNat = some (b, r)) : rnO S q = (r : Int) := by
  unfold rnO
  rw [h]
theorem range_getD (l : List Int) : (List.range l.length).map (fun k => l.getD k 0) = l := by
  refine List.ext_getElem (by rw [List.length_map, List.length_range]) fun i h1 h2 => ?_
  rw [List.getElem_map, List.getElem_range, List.getD_eq_getElem?_getD, List.getElem?_eq_getElem h2]
  rfl
theorem fltL_list (p : Int → Bool) (g : Int → V) (l : List Int) : fltL (fun k => p (l.getD k 0)) (fun k => g (l.getD k 0)) l.length = (l.filter p).map g := by
  conv => rhs; rw [← range_getD l]
  rw [List.filter_map, List.map_map]
  rfl
/-- a comprehension over a list of ints with a test -/
theorem lc_fltL {K : PySem.W.Frag} {a D : Addr} {xs : List Int} {H0 : Hp} {i : Nat} {tt : TT} {te : TE} {vs : List Nat} {σ : L2.St} {Qd : Hp → Prop} (p : Int → Bool) (g : Int → V) (hS : SqL K H0 a (xs.map V.int)) (hn : xs.length ≤ 1000000) (nD : H0 D = none)
    (hw : ∀ x : Int, wipe ((wipe σ vs).set i (some (.int x))) vs = wipe σ vs)
    (hb : ∀ x H1 (Q : Bool → Hp → Prop), x ∈ xs → Same H0 H1 → Q (p x) H1 → tt ((wipe σ vs).set i (some (.int x))) H1 Q)
    (ht : ∀ x H1 (Q : VK), x ∈ xs → p x = true → Same H0 H1 → Q (g x) H1 → te ((wipe σ vs).set i (some (.int x))) H1 Q)
    (hd : ∀ H1, Same H0 H1 → H1 D = some (.lst ((xs.filter p).map g)) → Qd H1) : lcW (Itl K a) (gName i) tt te vs σ D Qd H0 := by
  have mem : ∀ k, k < xs.length → xs.getD k 0 ∈ xs := fun k hk => by
    rw [List.getD_eq_getElem?_getD, List.getElem?_eq_getElem hk]
    exact List.getElem_mem hk
  have ex : ∀ k, k < xs.length → (xs.map V.int)[k]? = some (.int (xs.getD k 0)) := fun k hk => by
    rw [List.getElem?_map, List.getD_eq_getElem?_getD, List.getElem?_eq_getElem hk]
    rfl
  refine lc_flt (n := xs.length) (fun k => .int (xs.getD k 0)) (fun k => p (xs.getD k 0)) (fun k => g (xs.getD k 0)) hn nD (fun k H1 hk s => ⟨_, _, s.seq hS, ex k hk⟩) (fun H1 s => ⟨_, s.seq hS, by rw [List.length_map]; exact Nat.le_refl _⟩) (fun k H1 x H2 hk s y => ⟨by rw [y.1]; exact Same.refl _, Option.some.inj ((y.2 _ (s.seq hS)).symm.trans (ex k hk))⟩)
    (fun k => hw _) (fun k H1 Q hk s q => hb _ _ _ (mem k hk) s (q _ (Same.refl _))) (fun k H1 Q hk e s q => ht _ _ _ (mem k hk) e s (q _ (Same.refl _))) (fun H1 s e => hd H1 s (by rw [e, fltL_list]))
theorem nodup_len : ∀ {n : Nat} {l : List Int}, l.Nodup → (∀ x ∈ l, 0 ≤ x ∧ x < (n : Int)) → l.length ≤ n := by
  intro n
  induction n with
  | zero =>
    intro l _ h
    cases l with
    | nil => exact Nat.le_refl _
    | cons x r =>
      have := h x List.mem_cons_self
      omega
  | succ n ih =>
    intro l nd h
    have z := ih (l := l.erase (n : Int)) (nd.erase _) (fun x hx => by
      have h1 := h x (List.mem_of_mem_erase hx)
      have h2 : x ≠ (n : Int) := fun e => nd.not_mem_erase (e ▸ hx)
      omega)
    by_cases c : (n : Int) ∈ l
    · rw [List.length_erase_of_mem c] at z
      omega
    · rw [List.erase_of_not_mem c] at z
      omega
theorem wV_sb (S : Ru.St) (q : Int) : decide (wV (S q.toNat) = V.str "upheld") = sb true S q := (wV_ref S false q.toNat).trans rfl
/-- a comprehension that gives a new pair for each number -/
theorem lc_prs {K : PySem.W.Frag} {a D : Addr} {xs : List Int} {H0 : Hp} {i : Nat} {te : TE} {vs : List Nat} {σ : L2.St} {Qd : Hp → Prop} (g : Int → Int × Int) (hS : SqL K H0 a (xs.map V.int)) (hn : xs.length ≤ 1000000) (nD : H0 D = none)
    (hw : ∀ x : Int, wipe ((wipe σ vs).set i (some (.int x))) vs = wipe σ vs)
    (ht : ∀ x H1 (Q : VK), x ∈ xs → Same H0 H1 → (∀ p, H1 p = none → Q (.ref p) (upd H1 p (.tup [.int (g x).1, .int (g x).2]))) → te ((wipe σ vs).set i (some (.int x))) H1 Q)
    (hd : ∀ H1 zs, Same H0 H1 → PrZ H1 D zs → zs.map Prod.snd = xs.map g → Qd H1) : lcW (Itl K a) (gName i) tYes te vs σ D Qd H0 := by
  have ex : ∀ k (hk : k < xs.length), (xs.map V.int)[k]? = some (.int xs[k]) := fun k hk => by
    rw [List.getElem?_map, List.getElem?_eq_getElem hk]
    rfl
  refine lc_gen (n := xs.length) (fun k J => Same H0 J ∧ ∃ zs, PrZ J D zs ∧ zs.map Prod.snd = (xs.take k).map g) ⟨same_new nD, [], ⟨upd_same, fun z h => absurd h (by simp)⟩, rfl⟩ (fun k J hk p => ⟨_, _, p.1.seq hS, ex k hk⟩) (fun J p => ⟨_, p.1.seq hS, by rw [List.length_map]; exact Nat.le_refl _⟩) ?_ ?_
  · rintro k J x J' hk ⟨s1, zs, hz, ez⟩ ⟨rfl, y⟩
    have y := y _ (s1.seq hS)
    rw [ex k hk] at y
    cases y
    refine ⟨hw _, ?_⟩
    dsimp only [tYes]
    rw [if_pos rfl]
    refine ht _ J' _ (List.getElem_mem hk) s1 fun p np => ?_
    have s2 := same_new (o := .tup [.int (g xs[k]).1, .int (g xs[k]).2]) np
    have lz : zs.length = k := by
      have := congrArg List.length ez
      rw [List.length_map, List.length_map, List.length_take] at this
      omega
    refine ⟨_, s2 _ _ hz.sq, by rw [List.length_map, lz]; exact Nat.lt_of_lt_of_le (show k < 1000000 by omega) (by decide), Z.Same.mut (s1.trans s2) nD, zs ++ [(p, g xs[k])], ?_, ?_⟩
    · refine (hz.mono s2).put (fun z h => ?_) (by rw [List.map_append]; rfl)
      rcases List.mem_append.mp h with h | h
      · exact .inl h
      · rw [List.mem_singleton.mp h]
        exact .inr upd_same
    · rw [List.map_append, ez, List.take_add_one, List.getElem?_eq_getElem hk, List.map_append]
      rfl
  · rintro J ⟨s1, zs, hz, ez⟩
    rw [List.take_length] at ez
    exact hd J zs s1 hz ez
end Z
set_option pp.maxSteps 700
set_option Elab.async false
set_option linter.all false
set_option maxRecDepth 100000
set_option maxHeartbeats 4000000
namespace Z
open Ru
open PySem PySem.Spec PyProof.Rows L2
open C8 (pss_cut tCut)
local macro_rules | `(tactic| walk_at "num") => `(tactic| first | rfl | omega | decide | exact Nat.le_of_lt (small1000 (by simp)) | exact ⟨by omega, by omega⟩ | exact ⟨by omega, by omega, by omega⟩ | exact ⟨by decide, by decide, by decide⟩ | exact Or.inl ⟨by omega, by omega⟩ | exact Or.inr ⟨by omega, by omega⟩)
local macro_rules | `(tactic| walk_at "go") => `(tactic| repeat (first | refine ⟨_, rfl, ?_⟩ | refine ⟨_, _, rfl, rfl, ?_⟩ | refine ⟨_, _, rfl, ?_⟩ | (refine ⟨_, _, rfl, rfl, ?_, ?_⟩; focus walk_at "num") | refine Or.inl ⟨_, rfl, ?_⟩ | refine ⟨_, _, _, _, rfl, rfl, (by assumption), (by rfl), ?_⟩ | refine ⟨_, _, _, _, _, rfl, (by assumption), (by assumption), (by assumption), (by rfl), ?_⟩ | refine ⟨rfl, ?_⟩ | (refine And.intro ?_ ?_; focus walk_at "num")))
abbrev s_Case_reply : Stmt := inClass (topS 9) 3
abbrev N_Case_reply : List Str := ["self", "paper", "answer", "one", "defenders"]
abbrev P_Case_reply : List Str := ["self", "paper", "answer"]
theorem sc_Case_reply : FnScope N_Case_reply P_Case_reply (defScope s_Case_reply) := ⟨rfl, rfl, rfl, by decide +kernel, rfl, by decide +kernel, by decide +kernel⟩
/-- what reply tells -/
inductive Rep where
  | paper (x : Int)
  | notup (x : Int)
  | noans (x : Int)
  | ok (q : Int)
def InN (n : Nat) (x : Int) : Prop := 0 ≤ x ∧ x < n
inductive RepOf (rs : List Int) (prs : List (Int × Int)) (p a : Int) : Rep → Prop
  | paper1 : ¬ InN rs.length p → RepOf rs prs p a (.paper p)
  | paper2 : InN rs.length p → ¬ InN rs.length a → RepOf rs prs p a (.paper a)
  | notup : InN rs.length p → InN rs.length a → (∀ r, Rz rs prs p.toNat ≠ some (true, r)) → RepOf rs prs p a (.notup p)
  | noans (r : Nat) : InN rs.length p → InN rs.length a → Rz rs prs p.toNat = some (true, r) → a.toNat ∉ Cz rs prs p.toNat → RepOf rs prs p a (.noans a)
  | ok (r q t : Nat) : InN rs.length p → InN rs.length a → Rz rs prs p.toNat = some (true, r) → a.toNat ∈ Cz rs prs p.toNat → q ∈ Cz rs prs a.toNat → Rz rs prs q = some (true, t) → (∀ q' ∈ Cz rs prs a.toNat, ∀ u, Rz rs prs q' = some (true, u) → t < u ∨ (t = u ∧ q ≤ q')) → RepOf rs prs p a (.ok (q : Int))
theorem RepOf.uniq {rs : List Int} {prs : List (Int × Int)} {p a : Int} {x y : Rep} (h : RepOf rs prs p a x) (k : RepOf rs prs p a y) : x = y := by
  cases h <;> cases k
  all_goals first | rfl | contradiction | skip
  · rename_i h1 h2 h3 r k1 k2 k3 k4
    exact absurd k3 (h3 r)
  · rename_i h1 h2 h3 r q t k1 k2 k3 k4 k5 k6 k7
    exact absurd k3 (h3 r)
  · rename_i r h1 h2 h3 h4 k1 k2 k3
    exact absurd h3 (k3 r)
  · rename_i r q t h1 h2 h3 h4 h5 h6 h7 k1 k2 k3
    exact absurd h3 (k3 r)
  · rename_i r q t h1 h2 h3 h4 h5 h6 h7 r' q' t' k1 k2 k3 k4 k5 k6 k7
    have a1 := h7 q' k5 t' k6
    have a2 := k7 q h5 t h6
    have : q = q' := by omega
    rw [this]
theorem wV_up (z : Option (Bool × Nat)) : decide (wV z = V.str "upheld") = true ↔ ∃ r, z = some (true, r) := by
  rcases z with _ | ⟨b, r⟩
  · exact ⟨fun h => absurd h (by decide), fun ⟨_, e⟩ => by cases e⟩
  · rw [wV_some, wd_up]
    exact ⟨fun h => ⟨r, by rw [h]⟩, fun ⟨_, e⟩ => by cases e; rfl⟩
theorem ca_get {H : Hp} {cs : List Addr} {cl : List (List Int)} {n : Nat} (lc : cs.length = n) (ll : cl.length = n) (ca : ∀ (i : Nat) c l, cs[i]? = some c → cl[i]? = some l → H c = some (.lst (l.map V.int))) {i : Nat} (hi : i < n) : ∃ c l, cs[i]? = some c ∧ cl[i]? = some l ∧ H c = some (.lst (l.map V.int)) := by
  have e1 : cs[i]? = some (cs[i]'(by omega)) := List.getElem?_eq_getElem (by omega)
  have e2 : cl[i]? = some (cl[i]'(by omega)) := List.getElem?_eq_getElem (by omega)
  exact ⟨_, _, e1, e2, ca i _ _ e1 e2⟩
section
variable {P : Program} {w : World} {K : PySem.W.Frag} {mg : Str → Option Value} {base : Heap} {f C CB CU CN : Addr} {fd : FuncData}
def spReply (C CB CU CN : Addr) (K : PySem.W.Frag) : Sp := fun vs H Q E => ∃ n rs prs p a, vs = [.ref n, .int p, .int a] ∧ CaseA C K H n rs prs ∧ Rg rs prs ∧ rs.length ≤ 1000 ∧
  (∀ q H', RepOf rs prs p a (.ok q) → Same H H' → Q (.int q) H') ∧
  (∀ x d, RepOf rs prs p a (.paper x) → H d = none → E (.ref CB) (some d) (upd H d (.xd [("number", .int x)]))) ∧
  (∀ x d, RepOf rs prs p a (.notup x) → H d = none → E (.ref CU) (some d) (upd H d (.xd [("number", .int x)]))) ∧
  (∀ x d, RepOf rs prs p a (.noans x) → H d = none → E (.ref CN) (some d) (upd H d (.xd [("number", .int x)])))
theorem ok_mreply (F : FnM K "reply" "Case.reply" s_Case_reply f fd) (cls : Cls K C) (n_ranks : NoAttr K C "ranks") (n_kept_counting : NoAttr K C "kept_counting") (n_kept_rounds : NoAttr K C "kept_rounds") (n_kept_words : NoAttr K C "kept_words") (m_len : mg "len" = none) (m_min : mg "min" = none) (c_check_paper : CalX P w K mg base 3 "check_paper" (spChkP CB)) (x_NotUpheld : Exn P w K mg base "NotUpheld" CU "number") (x_NoAnswer : Exn P w K mg base "NoAnswer" CN "number") : FnOk P w K mg base (L2N.CX P w) 4 f fd P_Case_reply (spReply C CB CU CN K) := by
  refine F.ok sc_Case_reply (fun vs H Q E h => ?_) (fun cdv A outer s H vs Q E hr h => ?_)
  · obtain ⟨n, rs, prs, p, a, rfl, _⟩ := h
    rfl
  · obtain ⟨n, rs, prs, p, a, rfl, hcA, rg, lrs, q, eP, eU, eN⟩ := h
    obtain ⟨dx, tr, ta, ps, L, cs, cl, tR, tW, m, hc⟩ := hcA
    have hn := hc.ob
    have tk := takes_fn (P := P) (w := w) (K := K) (mg := mg) (base := base) (N := N_Case_reply) (qual := "Case.reply") (scope := defScope s_Case_reply) (f := f) (cd := cdv) (A := A) (outer := outer) (s := s) (H := H) (E := E)
    refine ⟨_, (pss_cons (ps_expr (pe_clE c_check_paper (fun σ => L2N.passAt tk σ) hr (by decide) (by rfl) (pa_cons (pv 1) (pa_cons (pe_callB call_len_seq (by rfl) m_len PySem.boot_len (pa_cons (pe_fld (pv 0) rfl) pa_nil)) pa_nil))))
      (pss_cons (ps_expr (pe_clE c_check_paper (fun σ => L2N.passAt tk σ) hr (by decide) (by rfl) (pa_cons (pv 2) (pa_cons (pe_callB call_len_seq (by rfl) m_len PySem.boot_len (pa_cons (pe_fld (pv 0) rfl) pa_nil)) pa_nil))))
      (pss_cons (ps_if (pt_cmpR op_ne (pe_ix ix_tup (pe_fld (pv 0) rfl) (pv 1) (fun _ _ => rfl)) pe_str (nomark _)) (pss_one (ps_exn rfl tk x_NotUpheld hr (by decide) (by rfl) (pa_cons (pv 1) pa_nil))) pss_nil)
      (pss_cons (ps_if (pt_cmpR op_notIn_seq (pv 2) (pe_ix ix_list (pe_fld (pv 0) rfl) (pv 1) (fun _ _ => rfl)) (by rfl)) (pss_one (ps_exn rfl tk x_NoAnswer hr (by decide) (by rfl) (pa_cons (pv 2) pa_nil))) pss_nil)
      (pss_cons (ps_setLc (i := 4) (own := [("one", 3)]) (g := (gName 3)) (by rfl) sc_Case_reply.nd rfl rfl (sw_true rfl rfl rfl (by decide +kernel)) (pi_list (pe_ix ix_list (pe_fld (pv 0) rfl) (pv 2) (fun _ _ => rfl))) (blkOk_by (own := [("one", 3)]) (N := N_Case_reply) (sc := defScope s_Case_reply) (by decide +kernel)) (fun _ _ _ _ _ => (pg_name (i := 3) sc_Case_reply.nd rfl (by first | exact .inl rfl | exact .inr rfl))) (fun _ _ _ _ _ => (pts_one (pt_cmpR op_eq (pe_ix (ix_tup_K (K := K) rfl) (pe_fld_K (K := K) rfl (pv 0) rfl) (pv 3) (fun _ _ => rfl)) pe_str (nomark _)))) (fun _ _ _ _ _ => (pv 3)))
      (pss_one (ps_ret (pe_ix ix_tup (pe_callB (cr_minT rfl hr.units) (by rfl) m_min (by decide +kernel) (pa_cons (pe_lc (own := [("one", 3)]) (g := (gName 3)) (tt := tYes) (by rfl) sc_Case_reply.nd (pi_list (pv 4)) (blkOk_by (own := [("one", 3)]) (N := N_Case_reply) (sc := defScope s_Case_reply) (by decide +kernel)) (fun _ _ _ _ _ => (pg_name (i := 3) sc_Case_reply.nd rfl (by first | exact .inl rfl | exact .inr rfl))) (fun _ _ _ _ _ => pts_nil) (fun _ _ _ _ _ => (pe_tup (pa_cons (pe_ix (ix_tup_K (K := K) rfl) (pe_fld_K (K := K) rfl (pv 0) rfl) (pv 3) (fun _ _ => rfl)) (pa_cons (pv 3) pa_nil))))) pa_nil)) pe_int (fun _ _ => rfl))))))))), ?_⟩
    have len1 : (rs.map V.int).length = rs.length := List.length_map _
    walk_at "go"
    refine ⟨tr, _, rfl, .inr (SqT.of hc.rk), ?_⟩
    rw [len1]
    walk_at "go"
    refine ⟨fun i1 => ?_, fun i1 d nd => eP _ d (.paper1 i1) nd⟩
    walk_at "go"
    refine ⟨tr, _, rfl, .inr (SqT.of hc.rk), ?_⟩
    rw [len1]
    walk_at "go"
    refine ⟨fun i2 => ?_, fun i2 d nd => eP _ d (.paper2 i1 i2) nd⟩
    obtain ⟨pn, rfl⟩ := Int.eq_ofNat_of_zero_le i1.1
    obtain ⟨an, rfl⟩ := Int.eq_ofNat_of_zero_le i2.1
    have lp : pn < rs.length := by have := i1.2; omega
    have la : an < rs.length := by have := i2.2; omega
    have ok : ClOk rs prs cl := ClOk.of hc.ll hc.ok
    have fin := ok.stop rg hc.st
    walk_at "go"
    refine ⟨tW, _, _, _, rfl, rfl, SqT.of hc.wn, at_vls i1.1 i1.2, ?_⟩
    refine ⟨wV_scal _ _, ?_⟩
    walk_at "go"
    have eup := wV_up (rnd (Cn cl) m pn)
    rw [fin pn lp] at eup
    refine ite2 (fun c => ?_) (fun c => ?_)
    · walk_at "go"
      refine mkx_of fun d nd => eU _ d (.notup i1 i2 fun r e => ?_) nd
      have := eup.mpr ⟨r, e⟩
      rw [Int.toNat_natCast, fin pn lp, this] at c
      cases c
    obtain ⟨r, er⟩ := eup.mp (by
      rw [Int.toNat_natCast, fin pn lp] at c
      simpa using c)
    clear c eup
    walk_at "go"
    obtain ⟨cp, lcp, e1, e2, e3⟩ := ca_get hc.lc hc.ll hc.ca lp
    refine ⟨L, _, _, _, rfl, rfl, SqL.of hc.cn, at_ref e1 rfl, ?_⟩
    refine ⟨cp, _, rfl, .inl (SqL.of e3), rfl, List.all_eq_true.mpr (fun v hv => by
      obtain ⟨y, _, rfl⟩ := List.mem_map.mp hv
      rfl), ?_⟩
    rw [inV_ints]
    have hin := (ok.at_ rg e2).1 an
    walk_at "go"
    refine ite2 (fun c => ?_) (fun c => ?_)
    · walk_at "go"
      refine mkx_of fun d nd => eN _ d (.noans r i1 i2 er fun z => ?_) nd
      rw [decide_eq_true (hin.mp z)] at c
      cases c
    have ain : an ∈ Cz rs prs pn := hin.mpr (by
      by_cases z : (an : Int) ∈ lcp
      · exact z
      · rw [decide_eq_false z] at c
        exact absurd rfl c)
    clear c hin e1 e2 e3
    walk_at "go"
    obtain ⟨ca, la_, e1, e2, e3⟩ := ca_get hc.lc hc.ll hc.ca la
    refine ⟨L, _, _, _, rfl, rfl, SqL.of hc.cn, at_ref e1 rfl, ?_⟩
    walk_at "go"
    refine ⟨⟨_, SqL.of e3⟩, fun D nD => ?_⟩
    obtain ⟨hcz, hrg⟩ := ok.at_ rg e2
    have lla : la_.length ≤ 1000 := by
      have := asc_len la_ 0 (hc.ok an la_ e2).1 hrg (by omega)
      omega
    refine lc_fltL (sb true (rnd (Cn cl) m)) (fun q => V.int q) (SqL.of e3) (by omega) nD (fun _ => rfl) ?_ ?_ ?_
    · intro x J1 Q1 hx s5 q1
      have hW4 := s5 _ _ hc.wn
      have hn4 := s5 _ _ hn
      walk_at "go"
      refine ⟨tW, _, _, _, rfl, rfl, SqT.of hW4, at_vls (hrg x hx).1 (hrg x hx).2, ?_⟩
      refine ⟨wV_scal _ _, ?_⟩
      walk_at "go"
      rw [wV_sb]
      exact q1
    · intro x J1 Q1 hx hb s5 q1
      exact ⟨_, rfl, q1⟩
    intro J1 s5 eD
    have hR4 := s5 _ _ hc.rn
    have hn4 := s5 _ _ hn
    walk_at "go"
    refine ⟨⟨_, SqL.of eD⟩, fun D2 nD2 => ?_⟩
    refine lc_prs (fun q => (rnO (rnd (Cn cl) m) q, q)) (SqL.of eD) (Nat.le_trans (List.length_filter_le ..) (by omega)) nD2 (fun _ => rfl) ?_ ?_
    · intro x J2 Q1 hx s6 q1
      have hR5 := s6 _ _ hR4
      have hn5 := s6 _ _ hn4
      obtain ⟨hx1, hx2⟩ := List.mem_filter.mp hx
      obtain ⟨t, et⟩ := sb_iff.mp hx2
      walk_at "go"
      refine ⟨tR, _, _, _, rfl, rfl, SqT.of hR5, at_vls (hrg x hx1).1 (hrg x hx1).2, ?_⟩
      rw [et]
      rw [rnO_of et] at q1
      walk_at "go"
      exact q1
    intro J2 zs s6 hz ez
    walk_at "go"
    have inz : ∀ q ∈ Cz rs prs an, ∀ u, Rz rs prs q = some (true, u) → ∃ z ∈ zs, z.2 = ((u : Int), (q : Int)) := fun q hq u eu => by
      have hq1 := (hcz q).mp hq
      have e := fin q (cz_lt hq)
      rw [eu] at e
      have e' : rnd (Cn cl) m ((q : Int)).toNat = some (true, u) := e
      have : ((u : Int), (q : Int)) ∈ zs.map Prod.snd := by
        rw [ez]
        refine List.mem_map.mpr ⟨(q : Int), List.mem_filter.mpr ⟨hq1, sb_iff.mpr ⟨u, e'⟩⟩, ?_⟩
        rw [rnO_of e']
      obtain ⟨z, h1, h2⟩ := List.mem_map.mp this
      exact ⟨z, h1, h2⟩
    refine ⟨D2, zs, rfl, hz.sq, hz.at_, ?_, fun z hzm hmin => ?_⟩
    · obtain ⟨t, _, _, ⟨q0, hq0, eq0⟩, _⟩ := reply_ok er ain
      obtain ⟨z, h1, _⟩ := inz q0 hq0 t eq0
      exact List.length_pos_of_mem h1
    have mz : z.2 ∈ zs.map Prod.snd := List.mem_map.mpr ⟨z, hzm, rfl⟩
    rw [ez] at mz
    obtain ⟨x, hx, exz⟩ := List.mem_map.mp mz
    obtain ⟨hx1, hx2⟩ := List.mem_filter.mp hx
    obtain ⟨t, et⟩ := sb_iff.mp hx2
    have xr := hrg x hx1
    obtain ⟨xn, rfl⟩ := Int.eq_ofNat_of_zero_le xr.1
    rw [rnO_of et] at exz
    have hxc : xn ∈ Cz rs prs an := (hcz xn).mpr hx1
    have et' : Rz rs prs xn = some (true, t) := by
      rw [← fin xn (cz_lt hxc)]
      exact et
    refine ⟨z.1, _, _, _, rfl, rfl, SqT.of (hz.at_ z hzm), rfl, ?_⟩
    rw [← exz]
    refine q (xn : Int) _ (.ok r xn t i1 i2 er ain hxc et' fun q' hq' u eu => ?_) (s5.trans s6)
    obtain ⟨z', h1, h2⟩ := inz q' hq' u eu
    have := hmin z' h1
    rw [h2, ← exz] at this
    unfold le2 at this
    dsimp only at this
    omega
end
end Z
set_option pp.maxSteps 700
set_option Elab.async false
set_option linter.all false
set_option maxRecDepth 100000
set_option maxHeartbeats 4000000
namespace Z
open Ru
open PySem PySem.Spec PyProof.Rows L2
open C8 (pss_cut tCut)
local macro_rules | `(tactic| walk_at "num") => `(tactic| first | rfl | omega | decide | exact Nat.le_of_lt (small1000 (by simp)) | exact ⟨by omega, by omega⟩ | exact ⟨by omega, by omega, by omega⟩ | exact ⟨by decide, by decide, by decide⟩ | exact Or.inl ⟨by omega, by omega⟩ | exact Or.inr ⟨by omega, by omega⟩)
local macro_rules | `(tactic| walk_at "go") => `(tactic| repeat (first | refine ⟨_, rfl, ?_⟩ | refine ⟨_, _, rfl, rfl, ?_⟩ | refine ⟨_, _, rfl, ?_⟩ | (refine ⟨_, _, rfl, rfl, ?_, ?_⟩; focus walk_at "num") | refine Or.inl ⟨_, rfl, ?_⟩ | refine ⟨_, _, _, _, rfl, rfl, (by assumption), (by rfl), ?_⟩ | refine ⟨_, _, _, _, _, rfl, (by assumption), (by assumption), (by assumption), (by rfl), ?_⟩ | refine ⟨rfl, ?_⟩ | (refine And.intro ?_ ?_; focus walk_at "num")))
abbrev s_Case_with_paper : Stmt := inClass (topS 9) 4
abbrev N_Case_with_paper : List Str := ["self", "rank", "answering", "answered_by", "new", "number", "pairs"]
abbrev P_Case_with_paper : List Str := ["self", "rank", "answering", "answered_by"]
theorem sc_Case_with_paper : FnScope N_Case_with_paper P_Case_with_paper (defScope s_Case_with_paper) := ⟨rfl, rfl, rfl, by decide +kernel, rfl, by decide +kernel, by decide +kernel⟩
/-- the first number that is none of a paper's -/
def fBad (n : Nat) (l : List Int) : Option Int := l.find? fun x => !isP n x
theorem fBad_none {n : Nat} {l : List Int} (h : fBad n l = none) : ∀ x ∈ l, 0 ≤ x ∧ x < n := fun x hx => by
  have := List.find?_eq_none.mp h x hx
  have h2 : isP n x = true := by simpa using this
  exact of_decide_eq_true h2
theorem fBad_cons {n : Nat} {x : Int} {l : List Int} : fBad n (x :: l) = if isP n x = true then fBad n l else some x := by
  unfold fBad
  rw [List.find?_cons]
  cases isP n x <;> rfl
section
variable {P : Program} {w : World} {K : PySem.W.Frag} {mg : Str → Option Value} {base : Heap} {f C CB CU CN : Addr} {fd : FuncData}
def moreP (n : Nat) (prs : List (Int × Int)) (xs ys : List Int) : List (Int × Int) := prs ++ (xs.map (fun y => ((n : Int), y)) ++ ys.map fun y => (y, (n : Int)))
def spWith (C CB : Addr) (K : PySem.W.Frag) : Sp := fun vs H Q E => ∃ n rs prs x r1 r2 xs ys, vs = [.ref n, .int x, .ref r1, .ref r2] ∧ CaseA C K H n rs prs ∧ Rg rs prs ∧ rs.length ≤ 900 ∧ prs.length ≤ 900 ∧ H r1 = some (.lst (xs.map V.int)) ∧ H r2 = some (.lst (ys.map V.int)) ∧ xs.length ≤ 20 ∧ ys.length ≤ 20 ∧
  (fBad (rs.length + 1) (xs ++ ys) = none → ∀ m H', Same H H' → CaseF C K H H' m (rs ++ [x]) (moreP rs.length prs xs ys) → Q (.ref m) H') ∧
  (∀ z d H', fBad (rs.length + 1) (xs ++ ys) = some z → Same H H' → H' d = none → E (.ref CB) (some d) (upd H' d (.xd [("number", .int z)])))
theorem catA {H : Hp} {a b : Addr} {xs ys : List V} {Q : VK} (ha : H a = some (.tup xs)) (hb : H b = some (.tup ys)) (l : xs.length + ys.length ≤ sizeLine) (q : ∀ p H', Same H H' → H' p = some (.tup (xs ++ ys)) → Q (.ref p) H') : rCatA K (.ref a) (.ref b) H Q := by
  refine ⟨a, b, xs, ys, rfl, rfl, SqT.of ha, SqT.of hb, l, fun e => q b H (Same.refl _) (by rw [hb, e]; rfl), fun _ e => q a H (Same.refl _) (by rw [ha, e, List.append_nil]), fun _ _ p np => q p _ (same_new np) upd_same⟩
theorem ok_with_paper (F : FnM K "with_paper" "Case.with_paper" s_Case_with_paper f fd) (cls : Cls K C) (n_ranks : NoAttr K C "ranks") (n_answers : NoAttr K C "answers") (m_len : mg "len" = none) (m_list : mg "list" = none) (m_tuple : mg "tuple" = none) (c_check_paper : CalX P w K mg base 3 "check_paper" (spChkP CB)) (k_Case : MakX P w K mg base 4 "Case" C (spCase C CB K)) : FnOk P w K mg base (L2N.CX P w) 6 f fd P_Case_with_paper (spWith C CB K) := by
  refine F.ok sc_Case_with_paper (fun vs H Q E h => ?_) (fun cdv A outer s H vs Q E hr h => ?_)
  · obtain ⟨n, rs, prs, x, r1, r2, xs, ys, rfl, _⟩ := h
    rfl
  · obtain ⟨n, rs, prs, x, r1, r2, xs, ys, rfl, hcA, rg, lrs, lps, h1, h2, lx, ly, q, eP⟩ := h
    obtain ⟨dx, tr, ta, ps, L, cs, cl, tR, tW, m, hc⟩ := hcA
    have hn := hc.ob
    have tk := takes_fn (P := P) (w := w) (K := K) (mg := mg) (base := base) (N := N_Case_with_paper) (qual := "Case.with_paper") (scope := defScope s_Case_with_paper) (f := f) (cd := cdv) (A := A) (outer := outer) (s := s) (H := H) (E := E)
    refine ⟨_, (pss_cons (ps_set (i := 4) sc_Case_with_paper.nd rfl (by first | exact .inl rfl | exact .inr rfl) (pe_callB call_len_seq (by rfl) m_len PySem.boot_len (pa_cons (pe_fld (pv 0) rfl) pa_nil)))
      (pss_cons (ps_for (passes_of rfl) rfl (pi_list (pe_op op_cat (pe_callTy call_list_of (by rfl) m_list (by decide +kernel) (pa_cons (pv 2) pa_nil)) (pe_callTy call_list_of (by rfl) m_list (by decide +kernel) (pa_cons (pv 3) pa_nil)))) (pg_name (i := 5) sc_Case_with_paper.nd rfl (by first | exact .inl rfl | exact .inr rfl))
        (pss_one (ps_expr (pe_clE c_check_paper (fun σ => L2N.passAt tk σ) hr (by decide) (by rfl) (pa_cons (pv 5) (pa_cons (pe_op op_add (pv 4) pe_int) pa_nil))))))
      (pss_cons (ps_set (i := 6) sc_Case_with_paper.nd rfl (by first | exact .inl rfl | exact .inr rfl) (pe_op op_cat (pe_lc (own := [("number", 5)]) (g := (gName 5)) (tt := tYes) (by rfl) sc_Case_with_paper.nd (pi_list (pv 2)) (blkOk_by (own := [("number", 5)]) (N := N_Case_with_paper) (sc := defScope s_Case_with_paper) (by decide +kernel)) (fun _ _ _ _ _ => (pg_name (i := 5) sc_Case_with_paper.nd rfl (by first | exact .inl rfl | exact .inr rfl))) (fun _ _ _ _ _ => pts_nil) (fun _ _ _ _ _ => (pe_tup (pa_cons (pv 4) (pa_cons (pv 5) pa_nil))))) (pe_lc (own := [("number", 5)]) (g := (gName 5)) (tt := tYes) (by rfl) sc_Case_with_paper.nd (pi_list (pv 3)) (blkOk_by (own := [("number", 5)]) (N := N_Case_with_paper) (sc := defScope s_Case_with_paper) (by decide +kernel)) (fun _ _ _ _ _ => (pg_name (i := 5) sc_Case_with_paper.nd rfl (by first | exact .inl rfl | exact .inr rfl))) (fun _ _ _ _ _ => pts_nil) (fun _ _ _ _ _ => (pe_tup (pa_cons (pv 5) (pa_cons (pv 4) pa_nil)))))))
      (pss_one (ps_ret (pe_mkE k_Case (fun σ => L2N.passAt tk σ) hr (by decide) (by rfl) (pa_cons (pe_op op_catA (pe_fld (pv 0) rfl) (pe_tup (pa_cons (pv 1) pa_nil))) (pa_cons (pe_op op_catA (pe_fld (pv 0) rfl) (pe_callTy call_tuple_of (by rfl) m_tuple (by decide +kernel) (pa_cons (pv 6) pa_nil))) pa_nil)))))))), ?_⟩
    walk_at "go"
    refine ⟨tr, _, rfl, .inr (SqT.of hc.rk), ?_⟩
    rw [List.length_map]
    walk_at "go"
    refine ⟨r1, _, rfl, .inl (SqL.of h1), fun l1 nl1 => ?_⟩
    have s1 := same_new (o := .lst (xs.map V.int)) nl1
    have e1 : (upd H l1 (.lst (xs.map V.int))) l1 = some (.lst (xs.map V.int)) := upd_same
    have h2' := s1 _ _ h2
    generalize upd H l1 (.lst (xs.map V.int)) = H1 at s1 e1 h2'
    walk_at "go"
    refine ⟨r2, _, rfl, .inl (SqL.of h2'), fun l2 nl2 => ?_⟩
    have s2 := same_new (o := .lst (ys.map V.int)) nl2
    have e2 : (upd H1 l2 (.lst (ys.map V.int))) l2 = some (.lst (ys.map V.int)) := upd_same
    have e1' := s2 _ _ e1
    have s12 := s1.trans s2
    generalize upd H1 l2 (.lst (ys.map V.int)) = H2 at s12 e2 e1'
    walk_at "go"
    refine ⟨l1, l2, _, _, rfl, rfl, e1', e2, by rw [List.length_map, List.length_map]; exact Nat.le_trans (show xs.length + ys.length ≤ 2000 by omega) (by decide), fun l3 nl3 => ?_⟩
    rw [← List.map_append]
    have s3 := s12.trans (same_new (o := .lst ((xs ++ ys).map V.int)) nl3)
    have e3 : (upd H2 l3 (.lst ((xs ++ ys).map V.int))) l3 = some (.lst ((xs ++ ys).map V.int)) := upd_same
    generalize upd H2 l3 (.lst ((xs ++ ys).map V.int)) = H3 at s3 e3
    clear s1 s2 s12 e1 e1' e2 h2'
    have hS : SqL K H3 l3 ((xs ++ ys).map V.int) := SqL.of e3
    walk_at "go"
    refine ⟨⟨_, hS⟩, ?_⟩
    generalize hzs : xs ++ ys = zs at hS q eP
    refine for_gen (n := zs.length) (fun k σ J => J = H3 ∧ fBad (rs.length + 1) zs = fBad (rs.length + 1) (zs.drop k) ∧ ∃ v5 v6, σ = [some (.ref n), some (.int x), some (.ref r1), some (.ref r2), some (.int (rs.length : Int)), v5, v6]) ⟨rfl, rfl, _, _, rfl⟩ ?_ ?_ ?_ ?_
    · rintro k σ J hk ⟨rfl, _⟩
      exact ⟨_, .int zs[k], hS, by rw [List.getElem?_map, List.getElem?_eq_getElem hk]; rfl⟩
    · rintro σ J ⟨rfl, _⟩
      exact ⟨_, hS, by rw [List.length_map]; exact Nat.le_refl _⟩
    · rintro k σ J u J' hk ⟨rfl, hb, v5, v6, rfl⟩ ⟨rfl, hu⟩
      have hu := hu _ hS
      rw [List.getElem?_map, List.getElem?_eq_getElem hk] at hu
      cases hu
      rw [List.drop_eq_getElem_cons hk, fBad_cons] at hb
      generalize zs[k] = z at hb
      walk_at "go"
      have pz : (0 ≤ z ∧ z < (rs.length : Int) + 1) ↔ isP (rs.length + 1) z = true := by
        unfold isP
        rw [decide_eq_true_iff]
        omega
      refine ⟨fun o => ?_, fun o d nd => eP z d _ (by rw [hb, if_neg fun h => o (pz.mpr h)]) s3 nd⟩
      exact ⟨rfl, by rw [hb, if_pos (pz.mp o)], _, _, rfl⟩
    · rintro σ J ⟨rfl, hb, v5, v6, rfl⟩
      rw [List.drop_length] at hb
      replace hb : fBad (rs.length + 1) zs = none := hb
      replace q := q hb
      have h1' := s3 _ _ h1
      have h2' := s3 _ _ h2
      walk_at "go"
      refine ⟨⟨_, SqL.of h1'⟩, fun D nD => ?_⟩
      refine lc_prs (fun y => ((rs.length : Int), y)) (SqL.of h1') (by omega) nD (fun _ => rfl) ?_ ?_
      · intro y J1 Q1 hy s4 q1
        walk_at "go"
        exact q1
      intro J1 z1 s4 hz1 ez1
      have h2'' := s4 _ _ h2'
      walk_at "go"
      refine ⟨⟨_, SqL.of h2''⟩, fun D2 nD2 => ?_⟩
      refine lc_prs (fun y => (y, (rs.length : Int))) (SqL.of h2'') (by omega) nD2 (fun _ => rfl) ?_ ?_
      · intro y J1 Q1 hy s4 q1
        walk_at "go"
        exact q1
      intro J2 z2 s5 hz2 ez2
      have hz1' := hz1.mono s5
      have lz1 : z1.length = xs.length := by
        have := congrArg List.length ez1
        rwa [List.length_map, List.length_map] at this
      have lz2 : z2.length = ys.length := by
        have := congrArg List.length ez2
        rwa [List.length_map, List.length_map] at this
      walk_at "go"
      refine ⟨D, D2, _, _, rfl, rfl, hz1'.sq, hz2.sq, by rw [List.length_map, List.length_map]; exact Nat.le_trans (show z1.length + z2.length ≤ 2000 by omega) (by decide), fun l4 nl4 => ?_⟩
      rw [← List.map_append]
      have s6 := s3.trans (s4.trans (s5.trans (same_new (o := .lst ((z1 ++ z2).map fun z => V.ref z.1)) nl4)))
      have hz : PrZ (upd J2 l4 (.lst ((z1 ++ z2).map fun z => V.ref z.1))) l4 (z1 ++ z2) := ⟨upd_same, fun z h => (same_new nl4) _ _ ((List.mem_append.mp h).elim (hz1'.at_ z) (hz2.at_ z))⟩
      generalize upd J2 l4 (.lst ((z1 ++ z2).map fun z => V.ref z.1)) = H4 at s6 hz
      have ezz : (z1 ++ z2).map Prod.snd = xs.map (fun y => ((rs.length : Int), y)) ++ ys.map (fun y => (y, (rs.length : Int))) := by rw [List.map_append, ez1, ez2]
      have lzz : (z1 ++ z2).length ≤ 40 := by rw [List.length_append]; omega
      generalize z1 ++ z2 = zz at hz ezz lzz
      clear hz1 hz1' hz2 ez1 ez2 s4 s5 nD nD2 nl4 h1' h2' h2''
      have hc4 := hc.mono s6
      have hn4 := hc4.ob
      walk_at "go"
      intro p np
      have s7 := same_new (o := .tup [.int x]) np
      have s8 := s6.trans s7
      have hc5 := hc4.mono s7
      have hz5 := hz.mono s7
      refine catA hc5.rk upd_same (by rw [List.length_map]; exact Nat.le_trans (show rs.length + 1 ≤ 2000 by omega) (by decide)) fun tr' H5 s9 etr => ?_
      have hc6 := hc5.mono s9
      have hn6 := hc6.ob
      have hz6 := hz5.mono s9
      have s10 := s8.trans s9
      rw [show rs.map V.int ++ [V.int x] = (rs ++ [x]).map V.int by rw [List.map_append]; rfl] at etr
      clear hc4 hc5 hz hz5 s7 s8 s9 hn4 np s6
      walk_at "go"
      refine ⟨l4, _, rfl, .inl ⟨SqL.of hz6.sq, fun tp ntp => ?_⟩⟩
      have s11 := same_new (o := .tup (zz.map fun z => V.ref z.1)) ntp
      have hc7 := hc6.mono s11
      have etp : (upd H5 tp (.tup (zz.map fun z => V.ref z.1))) tp = some (.tup (zz.map fun z => V.ref z.1)) := upd_same
      have at7 : ∀ z ∈ zz, (upd H5 tp (.tup (zz.map fun z => V.ref z.1))) z.1 = some (.tup [.int z.2.1, .int z.2.2]) := fun z h => s11 _ _ (hz6.at_ z h)
      have etr7 := s11 _ _ etr
      have s12 := s10.trans s11
      generalize upd H5 tp (.tup (zz.map fun z => V.ref z.1)) = H7 at hc7 etp at7 etr7 s12
      have lps' := hc.an.len
      refine catA hc7.an.sq etp (by rw [List.length_map, List.length_map]; exact Nat.le_trans (show ps.length + zz.length ≤ 2000 by omega) (by decide)) fun ta' H8 s13 eta => ?_
      have at8 : ∀ z ∈ zz, H8 z.1 = some (.tup [.int z.2.1, .int z.2.2]) := fun z h => s13 _ _ (at7 z h)
      have hc8 := hc7.mono s13
      have etr8 := s13 _ _ etr7
      have s14 := s12.trans s13
      walk_at "go"
      intro n1 d1 nn1 nd1 ne1
      have sn : Same H8 (upd (upd H8 d1 (.own n1)) n1 (.ins C d1 [])) := (same_new nd1).trans (same_new (by rw [upd_ne ne1.symm]; exact nn1))
      have an8 : PrB false false H8 ta' (ps ++ zz.map Prod.fst) (prs ++ zz.map Prod.snd) := by
        refine ⟨?_, by rw [List.length_append, List.length_append, List.length_map, List.length_map, lps'], fun i p r g1 g2 => ?_⟩
        · rw [List.map_append, List.map_map]
          exact eta
        · by_cases c : i < ps.length
          · rw [List.getElem?_append_left c] at g1
            rw [List.getElem?_append_left (by omega)] at g2
            exact hc8.an.at_ i p r g1 g2
          · rw [List.getElem?_append_right (by omega)] at g1
            rw [List.getElem?_append_right (by omega), ← lps'] at g2
            rw [List.getElem?_map] at g1 g2
            cases e : zz[i - ps.length]? with
            | none => rw [e] at g1; cases g1
            | some z =>
              rw [e] at g1 g2
              cases g1
              cases g2
              exact at8 z (List.mem_of_getElem? e)
      have mp : prs ++ zz.map Prod.snd = moreP rs.length prs xs ys := by rw [ezz]; rfl
      rw [mp] at an8
      have lm : (moreP rs.length prs xs ys).length ≤ 1000 := by
        unfold moreP
        rw [List.length_append, List.length_append, List.length_map, List.length_map]
        omega
      have lrx : (rs ++ [x]).length = rs.length + 1 := by rw [List.length_append]; rfl
      have bn : badN (rs ++ [x]).length (moreP rs.length prs xs ys) = none := by
        refine badN_of fun y hy => ?_
        rw [lrx]
        unfold moreP at hy
        have fb := fBad_none hb
        rcases List.mem_append.mp hy with h | h
        · have := rg y h
          omega
        · rcases List.mem_append.mp h with h | h
          · obtain ⟨u, hu, rfl⟩ := List.mem_map.mp h
            have := fb u (by rw [← hzs]; exact List.mem_append_left _ hu)
            dsimp only
            omega
          · obtain ⟨u, hu, rfl⟩ := List.mem_map.mp h
            have := fb u (by rw [← hzs]; exact List.mem_append_right _ hu)
            dsimp only
            omega
      refine ⟨false, false, false, n1, d1, tr', ta', rs ++ [x], _, _, rfl, upd_same, sn _ _ etr8, an8.mono sn, by omega, lm, fun _ H9 s15 hc9 => ⟨rfl, ?_⟩, fun z hz => by rw [bn] at hz; cases hz⟩
      have hc10 : CaseF C K H H9 n1 (rs ++ [x]) (moreP rs.length prs xs ys) := by
        obtain ⟨dx, tr, ta, ps, L, cs, cl, tR, tW, m, h1, h2, h3⟩ := hc9
        exact ⟨dx, tr, ta, ps, L, cs, cl, tR, tW, m, h1, none_of (s14.trans sn) h2, fun c h => none_of (s14.trans sn) (h3 c h)⟩
      refine q n1 H9 (fun a o e => s15 a o ?_ (sn a o (s14 a o e))) hc10
      exact fun z => by rw [z] at e; have := s14 _ _ e; rw [nn1] at this; cases this
end
end Z
set_option pp.maxSteps 700
set_option Elab.async false
set_option linter.all false
set_option maxRecDepth 100000
set_option maxHeartbeats 4000000
namespace Z
open Ru
open PySem PySem.Spec PyProof.Rows L2
open C8 (pss_cut tCut)
local macro_rules | `(tactic| walk_at "num") => `(tactic| first | rfl | omega | decide | exact Nat.le_of_lt (small1000 (by simp)) | exact ⟨by omega, by omega⟩ | exact ⟨by omega, by omega, by omega⟩ | exact ⟨by decide, by decide, by decide⟩ | exact Or.inl ⟨by omega, by omega⟩ | exact Or.inr ⟨by omega, by omega⟩)
local macro_rules | `(tactic| walk_at "go") => `(tactic| repeat (first | refine ⟨_, rfl, ?_⟩ | refine ⟨_, _, rfl, rfl, ?_⟩ | refine ⟨_, _, rfl, ?_⟩ | (refine ⟨_, _, rfl, rfl, ?_, ?_⟩; focus walk_at "num") | refine Or.inl ⟨_, rfl, ?_⟩ | refine ⟨_, _, _, _, rfl, rfl, (by assumption), (by rfl), ?_⟩ | refine ⟨_, _, _, _, _, rfl, (by assumption), (by assumption), (by assumption), (by rfl), ?_⟩ | refine ⟨rfl, ?_⟩ | (refine And.intro ?_ ?_; focus walk_at "num")))
abbrev s_law_ruled : Stmt := topS 16
abbrev N_law_ruled : List Str := ["_law_counting_here", "_law_many", "_law_k", "_law_words", "_law_rounds", "_law_turn", "_law_paper", "_law_one"]
abbrev P_law_ruled : List Str := ["_law_counting_here"]
theorem sc_law_ruled : FnScope N_law_ruled P_law_ruled (defScope s_law_ruled) := ⟨rfl, rfl, rfl, by decide +kernel, rfl, by decide +kernel, by decide +kernel⟩
section
variable {P : Program} {w : World} {K : PySem.W.Frag} {mg : Str → Option Value} {base : Heap} {f C CB CU CN : Addr} {fd : FuncData}
def spLRuled (K : PySem.W.Frag) : Sp := fun vs H Q _ => ∃ (a : Addr) (cs : List Addr) (cl : List (List Int)), vs = [.ref a] ∧ H a = some (.lst (cs.map V.ref)) ∧ cs.length = cl.length ∧ cl.length ≤ 1000 ∧ (∀ (i : Nat) c l, cs[i]? = some c → cl[i]? = some l → H c = some (.lst (l.map V.int)) ∧ l.length ≤ 1000 ∧ ∀ x ∈ l, 0 ≤ x ∧ x < cl.length) ∧
  ∀ (t tw tr : Addr) H', Same H H' → H' t = some (.lst [.ref tw, .ref tr]) → H' tw = some (.lst (vls (fun p => wV (rnd (Cn cl) cl.length p)) cl.length)) → H' tr = some (.lst (vls (fun p => rV (rnd (Cn cl) cl.length p)) cl.length)) → Q (.ref t) H'
theorem ok_law_ruled (F : FnP K "_law_ruled" s_law_ruled f fd) (m_len : mg "len" = none) (m_range : mg "range" = none) (m_all : mg "all" = none) (m_any : mg "any" = none) : FnOk P w K mg base CX0 1 f fd P_law_ruled (spLRuled K) := by
  refine F.ok sc_law_ruled (fun vs H Q E h => ?_) (fun cdv A outer s H vs Q E hr h => ?_)
  · obtain ⟨a, cs, cl, rfl, _⟩ := h
    rfl
  · obtain ⟨a, cs, cl, rfl, hA0, lc, ln, hc, q⟩ := h
    have hA := SqL.of (K := K) hA0
    refine ⟨_, PSs.nox (pss_cons (ps_set (i := 1) sc_law_ruled.nd rfl (by first | exact .inl rfl | exact .inr rfl) (pe_callB call_len_seq (by rfl) m_len PySem.boot_len (pa_cons (pv 0) pa_nil)))
      (pss_cons (ps_set (i := 3) sc_law_ruled.nd rfl (by first | exact .inl rfl | exact .inr rfl) (pe_lc (own := [("_law_k", 2)]) (g := (gName 2)) (tt := tYes) (by rfl) sc_law_ruled.nd (pi_range1 (by rfl) m_range (pa_cons (pv 1) pa_nil)) (blkOk_by (own := [("_law_k", 2)]) (N := N_law_ruled) (sc := defScope s_law_ruled) (by decide +kernel)) (fun _ _ _ _ _ => (pg_name (i := 2) sc_law_ruled.nd rfl (by first | exact .inl rfl | exact .inr rfl))) (fun _ _ _ _ _ => pts_nil) (fun _ _ _ _ _ => pe_str)))
      (pss_cons (ps_setLc (i := 4) (own := [("_law_k", 2)]) (g := (gName 2)) (tt := tYes) (by rfl) sc_law_ruled.nd rfl rfl (sw_true rfl rfl rfl (by decide +kernel)) (pi_range1 (by rfl) m_range (pa_cons (pv 1) pa_nil)) (blkOk_by (own := [("_law_k", 2)]) (N := N_law_ruled) (sc := defScope s_law_ruled) (by decide +kernel)) (fun _ _ _ _ _ => (pg_name (i := 2) sc_law_ruled.nd rfl (by first | exact .inl rfl | exact .inr rfl))) (fun _ _ _ _ _ => pts_nil) (fun _ _ _ _ _ => pe_non))
      (pss_cons (ps_for PassesOwn.never rfl (pi_range2 (by rfl) m_range (pa_cons pe_int (pa_cons (pe_op op_add (pv 1) pe_int) pa_nil))) (pg_name (i := 5) sc_law_ruled.nd rfl (by first | exact .inl rfl | exact .inr rfl))
        (pss_cons (ps_for PassesOwn.never rfl (pi_range1 (by rfl) m_range (pa_cons (pv 1) pa_nil)) (pg_name (i := 6) sc_law_ruled.nd rfl (by first | exact .inl rfl | exact .inr rfl))
        (pss_one (ps_if (PW.pt (pw_and (pt_cmpR op_eq (pe_ix ix_list (pv 3) (pv 6) (fun _ _ => rfl)) pe_str (nomark _)) (pw_and1 (pt_val (pe_callB (cr_all rfl) (by rfl) m_all (by decide +kernel) (pa_cons (pe_lc (own := [("_law_one", 7)]) (g := (gName 7)) (tt := tYes) (by rfl) sc_law_ruled.nd (pi_list (pe_ix ix_list (pv 0) (pv 6) (fun _ _ => rfl))) (blkOk_by (own := [("_law_one", 7)]) (N := N_law_ruled) (sc := defScope s_law_ruled) (by decide +kernel)) (fun _ _ _ _ _ => (pg_name (i := 7) sc_law_ruled.nd rfl (by first | exact .inl rfl | exact .inr rfl))) (fun _ _ _ _ _ => pts_nil) (fun _ _ _ _ _ => (pe_cmpR op_eq (pe_ix (ix_list_K (K := K) rfl) (pv 3) (pv 7) (fun _ _ => rfl)) pe_str (nomark _)))) pa_nil)))))) (pss_cons (ps_asg pe_str (pg_sub (pv 3) (pv 6) set_list))
      (pss_one (ps_asg (pv 5) (pg_sub (pv 4) (pv 6) set_list)))) pss_nil)))
      (pss_one (ps_for PassesOwn.never rfl (pi_range1 (by rfl) m_range (pa_cons (pv 1) pa_nil)) (pg_name (i := 6) sc_law_ruled.nd rfl (by first | exact .inl rfl | exact .inr rfl))
        (pss_one (ps_if (PW.pt (pw_and (pt_cmpR op_eq (pe_ix ix_list (pv 3) (pv 6) (fun _ _ => rfl)) pe_str (nomark _)) (pw_and1 (pt_val (pe_callB (cr_any rfl) (by rfl) m_any (by decide +kernel) (pa_cons (pe_lc (own := [("_law_one", 7)]) (g := (gName 7)) (tt := tYes) (by rfl) sc_law_ruled.nd (pi_list (pe_ix ix_list (pv 0) (pv 6) (fun _ _ => rfl))) (blkOk_by (own := [("_law_one", 7)]) (N := N_law_ruled) (sc := defScope s_law_ruled) (by decide +kernel)) (fun _ _ _ _ _ => (pg_name (i := 7) sc_law_ruled.nd rfl (by first | exact .inl rfl | exact .inr rfl))) (fun _ _ _ _ _ => pts_nil) (fun _ _ _ _ _ => (pe_cmpR op_eq (pe_ix (ix_list_K (K := K) rfl) (pv 3) (pv 7) (fun _ _ => rfl)) pe_str (nomark _)))) pa_nil)))))) (pss_cons (ps_asg pe_str (pg_sub (pv 3) (pv 6) set_list))
      (pss_one (ps_asg (pv 5) (pg_sub (pv 4) (pv 6) set_list)))) pss_nil))))))
      (pss_one (ps_ret (pe_lst (pa_cons (pv 3) (pa_cons (pv 4) pa_nil))))))))), ?_⟩
    generalize hn : cl.length = n at *
    walk_at "go"
    refine ⟨a, _, rfl, .inl (hA), ?_⟩
    rw [List.length_map]
    walk_at "go"
    walk_at "go"
    intro W nW
    refine lc_flt (n := n) (fun k => .int (k : Int)) (fun _ => true) (fun _ => .str "open") (by omega) nW (fun k H1 hk _ => by show k < ((cs.length : Int)).toNat; omega) (fun H1 _ => by show ((cs.length : Int)).toNat ≤ n; omega) (fun k H1 x H2 _ _ y => ⟨by rw [y.1]; exact Same.refl _, by rw [y.2, Int.zero_add]⟩) (fun k => rfl) (fun k H1 Q _ _ q => q _ (Same.refl _)) (fun k H1 Q _ _ _ q => q _ (Same.refl _)) (fun H1 s1 eW => ?_)
    rw [lc]
    have fl : ∀ v : V, fltL (fun _ => true) (fun _ => v) n = vls (fun _ => v) n := fun v => by
      unfold fltL vls
      rw [List.filter_eq_self.mpr (fun _ _ => rfl)]
    rw [fl] at eW
    walk_at "go"
    intro R nR
    refine lc_flt (n := n) (fun k => .int (k : Int)) (fun _ => true) (fun _ => .non) (by omega) nR (fun k H1 hk _ => by show k < ((n : Int)).toNat; omega) (fun H1 _ => by show ((n : Int)).toNat ≤ n; omega) (fun k H1 x H2 _ _ y => ⟨by rw [y.1]; exact Same.refl _, by rw [y.2, Int.zero_add]⟩) (fun k => rfl) (fun k H1 Q _ _ q => q _ (Same.refl _)) (fun k H1 Q _ _ _ q => q _ (Same.refl _)) (fun H2 s2 eR => ?_)
    rw [fl] at eR
    have s12 := s1.trans s2
    have nHR := none_of s1 nR
    have RW : R ≠ W := fun e => by rw [e, eW] at nR; cases nR
    replace eW := s2 _ _ eW
    generalize hC : Cn cl = C at q
    dsimp only [List.set]
    walk_at "go"
    refine for_gen (n := n) (fun i σ J => Same H J ∧ J R = some (.lst (vls (fun p => rV (rnd C i p)) n)) ∧ J W = some (.lst (vls (fun p => wV (rnd C i p)) n)) ∧ ∃ v2 v5 v6 v7 : Option V, σ = [some (.ref a), some (.int (n : Int)), v2, some (.ref W), some (.ref R), v5, v6, v7]) ⟨s12, eR, eW, _, _, _, _, rfl⟩ ?_ ?_ ?_ ?_
    · intro i σ J hi _
      show i < ((n : Int) + 1 - 1).toNat
      omega
    · intro σ J _
      show ((n : Int) + 1 - 1).toNat ≤ n
      omega
    rotate_left
    · rintro σ J ⟨s5, eR5, eW5, v2, v5, v6, v7, rfl⟩
      walk_at "go"
      intro t nt
      have s6 := same_new (o := .lst [.ref W, .ref R]) nt
      exact q t W R _ (s5.trans s6) upd_same (s6 _ _ eW5) (s6 _ _ eR5)
    rintro i σ J x J' hi ⟨s5, eR5, eW5, v2, v5, v6, v7, rfl⟩ ⟨rfl, rfl⟩
    walk_at "go"
    refine for_gen (n := n) (fun k σ J => Same H J ∧ J R = some (.lst (vls (fun p => rV (mix true C (i + 1) (rnd C i) k p)) n)) ∧ J W = some (.lst (vls (fun p => wV (mix true C (i + 1) (rnd C i) k p)) n)) ∧ ∃ v6 v7 : Option V, σ = [some (.ref a), some (.int (n : Int)), v2, some (.ref W), some (.ref R), some (.int (1 + (i : Int))), v6, v7]) ⟨s5, by rw [mix_zero]; exact eR5, by rw [mix_zero]; exact eW5, _, _, rfl⟩ ?_ ?_ ?_ ?_
    · intro k σ J hk _
      show k < ((n : Int)).toNat
      omega
    · intro σ J _
      show ((n : Int)).toNat ≤ n
      omega
    · rintro k σ J x J' hk ⟨sm, eR7, eW7, v6, v7, rfl⟩ ⟨rfl, rfl⟩
      rw [Int.zero_add]
      generalize hS : (rnd C i) = S at eR7 eW7
      have ec : cs[k]? = some (cs[k]'(by omega)) := List.getElem?_eq_getElem (show k < cs.length by omega)
      have el : cl[k]? = some (cl[k]'(by omega)) := List.getElem?_eq_getElem (show k < cl.length by omega)
      generalize cs[k]'(by omega) = c at ec
      generalize cl[k]'(by omega) = l at el
      obtain ⟨hl1, hl2, hl3⟩ := hc k c l ec el
      have eC : C k = l.map Int.toNat := by
        rw [← hC]
        unfold Cn
        rw [List.getD_eq_getElem?_getD, el]
        rfl
      have mk : mix true C (i + 1) S k k = S k := by
        unfold mix
        rw [if_neg (by omega)]
      have nx := mix_next true C (i + 1) S k
      have keep : (S k).isNone = false ∨ Ru.cond true C S k = false → mix true C (i + 1) S (k + 1) = mix true C (i + 1) S k := fun h => by
        rw [nx]
        funext p
        by_cases c : p = k
        · subst c
          rw [if_pos rfl, mk, if_neg (by rcases h with h | h <;> simp [h])]
        · rw [if_neg c]
      have ec2 : Ru.cond true C S k = (l.map fun x => refu S x.toNat).all id := by
        unfold Ru.cond
        rw [eC]
        simp [List.all_map, List.any_map, Function.comp_def]
      walk_at "go"
      refine ⟨W, _, _, _, rfl, rfl, SqL.of eW7, at_vls (by omega) (by omega), ?_⟩
      walk_at "go"
      refine ⟨wV_scal _ _, _, rfl, ?_⟩
      have ew : decide (wV (mix true C (i + 1) S k (k : Int).toNat) = V.str "open") = (S k).isNone := by
        rw [Int.toNat_natCast, wV_open, mk]
      rw [ew]
      cases e1 : (S k).isNone
      · refine ite2 (fun e2 => absurd e2 (by simp)) (fun _ => ?_)
        refine ite2 (fun e2 => absurd e2 (by simp)) (fun _ => ?_)
        exact ⟨sm, by rw [keep (.inl e1)]; exact eR7, by rw [keep (.inl e1)]; exact eW7, _, _, rfl⟩
      refine ite2 (fun _ => ?_) (fun e2 => absurd rfl e2)
      walk_at "go"
      refine ⟨a, _, _, _, rfl, rfl, SqL.of (sm _ _ hA0), at_ref ec rfl, ?_⟩
      walk_at "go"
      refine ⟨⟨_, SqL.of (sm _ _ hl1)⟩, fun B nB => ?_⟩
      refine lc_lstV (SqL.of (sm _ _ hl1)) (fun x => .bl (refu S x.toNat)) (by omega) nB (fun _ => rfl) ?_ ?_
      · intro x J3 Q1 hx s3 q1
        obtain ⟨x0, x1⟩ := hl3 x hx
        walk_at "go"
        refine ⟨W, _, _, _, rfl, rfl, SqL.of (s3 _ _ eW7), at_vls x0 (by omega), ?_⟩
        walk_at "go"
        have z := q1 _ (Same.refl _)
        have ms := mix_see true C (i + 1) S k x.toNat
        have wr := wV_ref (mix true C (i + 1) S k) true x.toNat
        simp only [Bool.not_true, if_true] at ms wr
        rw [← ms, ← wr] at z
        exact ⟨wV_scal _ _, z⟩
      intro J3 s3 eB
      replace eR7 := s3 _ _ eR7
      replace eW7 := s3 _ _ eW7
      have sm3 := sm.trans s3
      clear s3 nB
      rw [show (l.map fun x => V.bl (refu S x.toNat)) = (l.map fun x => refu S x.toNat).map V.bl by rw [List.map_map]; rfl] at eB
      walk_at "go"
      refine ⟨B, _, rfl, SqL.of eB, _, rfl, ?_⟩
      rw [← ec2]
      cases e3 : Ru.cond true C S k
      · refine ite2 (fun e2 => absurd e2 (by simp)) (fun _ => ?_)
        exact ⟨sm3, by rw [keep (.inr e3)]; exact eR7, by rw [keep (.inr e3)]; exact eW7, _, _, rfl⟩
      · refine ite2 (fun _ => ?_) (fun e2 => absurd rfl e2)
        walk_at "go"
        refine ⟨W, _, k, k, rfl, rfl, eW7, ixN_k (by rw [vls_len]; omega), ?_⟩
        walk_at "go"
        refine ⟨R, _, k, k, rfl, rfl, by rw [upd_ne RW]; exact eR7, ixN_k (by rw [vls_len]; omega), ?_⟩
        have nx' : mix true C (i + 1) S (k + 1) = fun p => if p = k then some (true, i + 1) else mix true C (i + 1) S k p := by
          rw [nx, e1, e3]
          rfl
        refine ⟨Z.Same.mut (Z.Same.mut sm3 nW) nHR, ?_, ?_, _, _, rfl⟩
        · rw [upd_same, vls_set, nx']
          refine congrArg (fun z => some (HO.lst z)) (vls_congr fun p _ => ?_)
          dsimp only
          by_cases c : p = k
          · rw [if_pos c, if_pos c]
            show V.int (1 + (i : Int)) = V.int ((i + 1 : Nat) : Int)
            congr 1
            omega
          · rw [if_neg c, if_neg c]
        · rw [upd_ne RW.symm, upd_same, vls_set, nx']
          refine congrArg (fun z => some (HO.lst z)) (vls_congr fun p _ => ?_)
          dsimp only
          by_cases c : p = k
          · rw [if_pos c, if_pos c]
            rfl
          · rw [if_neg c, if_neg c]
    rintro σ J ⟨s5, eR5, eW5, v6, v7, rfl⟩
    have em : ∀ b S p, p < n → mix b C (i + 1) S n p = pss b C (i + 1) S p := fun b S p hp => by
      unfold mix
      rw [if_pos hp]
    rw [vls_congr fun p hp => by rw [em true _ p hp]] at eR5 eW5
    walk_at "go"
    refine for_gen (n := n) (fun k σ J => Same H J ∧ J R = some (.lst (vls (fun p => rV (mix false C (i + 1) (pss true C (i + 1) (rnd C i)) k p)) n)) ∧ J W = some (.lst (vls (fun p => wV (mix false C (i + 1) (pss true C (i + 1) (rnd C i)) k p)) n)) ∧ ∃ v6 v7 : Option V, σ = [some (.ref a), some (.int (n : Int)), v2, some (.ref W), some (.ref R), some (.int (1 + (i : Int))), v6, v7]) ⟨s5, by rw [mix_zero]; exact eR5, by rw [mix_zero]; exact eW5, _, _, rfl⟩ ?_ ?_ ?_ ?_
    · intro k σ J hk _
      show k < ((n : Int)).toNat
      omega
    · intro σ J _
      show ((n : Int)).toNat ≤ n
      omega
    · rintro k σ J x J' hk ⟨sm, eR7, eW7, v6, v7, rfl⟩ ⟨rfl, rfl⟩
      rw [Int.zero_add]
      generalize hS : (pss true C (i + 1) (rnd C i)) = S at eR7 eW7
      have ec : cs[k]? = some (cs[k]'(by omega)) := List.getElem?_eq_getElem (show k < cs.length by omega)
      have el : cl[k]? = some (cl[k]'(by omega)) := List.getElem?_eq_getElem (show k < cl.length by omega)
      generalize cs[k]'(by omega) = c at ec
      generalize cl[k]'(by omega) = l at el
      obtain ⟨hl1, hl2, hl3⟩ := hc k c l ec el
      have eC : C k = l.map Int.toNat := by
        rw [← hC]
        unfold Cn
        rw [List.getD_eq_getElem?_getD, el]
        rfl
      have mk : mix false C (i + 1) S k k = S k := by
        unfold mix
        rw [if_neg (by omega)]
      have nx := mix_next false C (i + 1) S k
      have keep : (S k).isNone = false ∨ Ru.cond false C S k = false → mix false C (i + 1) S (k + 1) = mix false C (i + 1) S k := fun h => by
        rw [nx]
        funext p
        by_cases c : p = k
        · subst c
          rw [if_pos rfl, mk, if_neg (by rcases h with h | h <;> simp [h])]
        · rw [if_neg c]
      have ec2 : Ru.cond false C S k = (l.map fun x => uphe S x.toNat).any id := by
        unfold Ru.cond
        rw [eC]
        simp [List.all_map, List.any_map, Function.comp_def]
      walk_at "go"
      refine ⟨W, _, _, _, rfl, rfl, SqL.of eW7, at_vls (by omega) (by omega), ?_⟩
      walk_at "go"
      refine ⟨wV_scal _ _, _, rfl, ?_⟩
      have ew : decide (wV (mix false C (i + 1) S k (k : Int).toNat) = V.str "open") = (S k).isNone := by
        rw [Int.toNat_natCast, wV_open, mk]
      rw [ew]
      cases e1 : (S k).isNone
      · refine ite2 (fun e2 => absurd e2 (by simp)) (fun _ => ?_)
        refine ite2 (fun e2 => absurd e2 (by simp)) (fun _ => ?_)
        exact ⟨sm, by rw [keep (.inl e1)]; exact eR7, by rw [keep (.inl e1)]; exact eW7, _, _, rfl⟩
      refine ite2 (fun _ => ?_) (fun e2 => absurd rfl e2)
      walk_at "go"
      refine ⟨a, _, _, _, rfl, rfl, SqL.of (sm _ _ hA0), at_ref ec rfl, ?_⟩
      walk_at "go"
      refine ⟨⟨_, SqL.of (sm _ _ hl1)⟩, fun B nB => ?_⟩
      refine lc_lstV (SqL.of (sm _ _ hl1)) (fun x => .bl (uphe S x.toNat)) (by omega) nB (fun _ => rfl) ?_ ?_
      · intro x J3 Q1 hx s3 q1
        obtain ⟨x0, x1⟩ := hl3 x hx
        walk_at "go"
        refine ⟨W, _, _, _, rfl, rfl, SqL.of (s3 _ _ eW7), at_vls x0 (by omega), ?_⟩
        walk_at "go"
        have z := q1 _ (Same.refl _)
        have ms := mix_see false C (i + 1) S k x.toNat
        have wr := wV_ref (mix false C (i + 1) S k) false x.toNat
        simp only [Bool.not_false, Bool.false_eq_true, if_false] at ms wr
        rw [← ms, ← wr] at z
        exact ⟨wV_scal _ _, z⟩
      intro J3 s3 eB
      replace eR7 := s3 _ _ eR7
      replace eW7 := s3 _ _ eW7
      have sm3 := sm.trans s3
      clear s3 nB
      rw [show (l.map fun x => V.bl (uphe S x.toNat)) = (l.map fun x => uphe S x.toNat).map V.bl by rw [List.map_map]; rfl] at eB
      walk_at "go"
      refine ⟨B, _, rfl, SqL.of eB, _, rfl, ?_⟩
      rw [← ec2]
      cases e3 : Ru.cond false C S k
      · refine ite2 (fun e2 => absurd e2 (by simp)) (fun _ => ?_)
        exact ⟨sm3, by rw [keep (.inr e3)]; exact eR7, by rw [keep (.inr e3)]; exact eW7, _, _, rfl⟩
      · refine ite2 (fun _ => ?_) (fun e2 => absurd rfl e2)
        walk_at "go"
        refine ⟨W, _, k, k, rfl, rfl, eW7, ixN_k (by rw [vls_len]; omega), ?_⟩
        walk_at "go"
        refine ⟨R, _, k, k, rfl, rfl, by rw [upd_ne RW]; exact eR7, ixN_k (by rw [vls_len]; omega), ?_⟩
        have nx' : mix false C (i + 1) S (k + 1) = fun p => if p = k then some (false, i + 1) else mix false C (i + 1) S k p := by
          rw [nx, e1, e3]
          rfl
        refine ⟨Z.Same.mut (Z.Same.mut sm3 nW) nHR, ?_, ?_, _, _, rfl⟩
        · rw [upd_same, vls_set, nx']
          refine congrArg (fun z => some (HO.lst z)) (vls_congr fun p _ => ?_)
          dsimp only
          by_cases c : p = k
          · rw [if_pos c, if_pos c]
            show V.int (1 + (i : Int)) = V.int ((i + 1 : Nat) : Int)
            congr 1
            omega
          · rw [if_neg c, if_neg c]
        · rw [upd_ne RW.symm, upd_same, vls_set, nx']
          refine congrArg (fun z => some (HO.lst z)) (vls_congr fun p _ => ?_)
          dsimp only
          by_cases c : p = k
          · rw [if_pos c, if_pos c]
            rfl
          · rw [if_neg c, if_neg c]
    rintro σ J ⟨s5, eR5, eW5, v6, v7, rfl⟩
    rw [vls_congr fun p hp => by rw [em false _ p hp]] at eR5 eW5
    exact ⟨s5, eR5, eW5, _, _, _, _, rfl⟩
end
end Z
set_option pp.maxSteps 700
set_option Elab.async false
set_option linter.all false
set_option maxRecDepth 100000
set_option maxHeartbeats 4000000
namespace Z
open Ru
open PySem PySem.Spec PyProof.Rows L2
open C8 (pss_cut tCut)
local macro_rules | `(tactic| walk_at "num") => `(tactic| first | rfl | omega | decide | exact Nat.le_of_lt (small1000 (by simp)) | exact ⟨by omega, by omega⟩ | exact ⟨by omega, by omega, by omega⟩ | exact ⟨by decide, by decide, by decide⟩ | exact Or.inl ⟨by omega, by omega⟩ | exact Or.inr ⟨by omega, by omega⟩)
local macro_rules | `(tactic| walk_at "go") => `(tactic| repeat (first | refine ⟨_, rfl, ?_⟩ | refine ⟨_, _, rfl, rfl, ?_⟩ | refine ⟨_, _, rfl, ?_⟩ | (refine ⟨_, _, rfl, rfl, ?_, ?_⟩; focus walk_at "num") | refine Or.inl ⟨_, rfl, ?_⟩ | refine ⟨_, _, _, _, rfl, rfl, (by assumption), (by rfl), ?_⟩ | refine ⟨_, _, _, _, _, rfl, (by assumption), (by assumption), (by assumption), (by rfl), ?_⟩ | refine ⟨rfl, ?_⟩ | (refine And.intro ?_ ?_; focus walk_at "num")))
abbrev s_tells : Stmt := topS 17
abbrev N_tells : List Str := ["_law_case", "_law_ranks_here", "_law_pairs_here", "_law_told"]
abbrev P_tells : List Str := ["_law_case", "_law_ranks_here", "_law_pairs_here", "_law_told"]
theorem sc_tells : FnScope N_tells P_tells (defScope s_tells) := ⟨rfl, rfl, rfl, by decide +kernel, rfl, by decide +kernel, by decide +kernel⟩
theorem at_0 {x : V} {l : List V} : atI (x :: l) 0 = some x := at_of (j := 0) rfl rfl
theorem at_1 {x y : V} {l : List V} : atI (x :: y :: l) 1 = some y := at_of (j := 1) rfl rfl
theorem eqv_ints (b : Bool) (ns ms : List Int) : PyData.eqv (intsD b ns) (intsD b ms) = decide (ns = ms) := by
  cases b
  · show PyData.eqv (.tuple _) (.tuple _) = _
    rw [PyData.eqv, PySem.W.ked_eqvAll]
  · show PyData.eqv (.list _) (.list _) = _
    rw [PyData.eqv, PySem.W.ked_eqvAll]
/-- words and rounds as the law keeps them -/
structure Told (H : Hp) (t : Addr) (S : Ru.St) (n : Nat) (W R : Addr) : Prop where
  t : H t = some (.lst [.ref W, .ref R])
  w : H W = some (.lst (vls (fun p => wV (S p)) n))
  r : H R = some (.lst (vls (fun p => rV (S p)) n))
theorem Told.mono {H H' : Hp} {t : Addr} {S : Ru.St} {n : Nat} {W R : Addr} (s : Same H H') (h : Told H t S n W R) : Told H' t S n W R := ⟨s _ _ h.t, s _ _ h.w, s _ _ h.r⟩
theorem dpa_prs {K : PySem.W.Frag} {H : Hp} : ∀ {ps : List Addr} {prs : List (Int × Int)}, ps.length = prs.length → (∀ (i : Nat) (p : Addr) (r : Int × Int), ps[i]? = some p → prs[i]? = some r → H p = some (.tup [.int r.1, .int r.2])) → DpAll K H (ps.map V.ref) (prs.map tD)
  | [], [], _, _ => .nil
  | [], _ :: _, l, _ => by cases l
  | _ :: _, [], l, _ => by cases l
  | p :: ps, r :: prs, l, h => .cons (.tup (SqT.of (h 0 p r rfl rfl)) (.cons (.int _) (.cons (.int _) .nil))) (dpa_prs (by simpa using l) fun i p' r' h1 h2 => h (i + 1) p' r' h1 h2)
theorem PrB.dpT {K : PySem.W.Frag} {H : Hp} {a : Addr} {ps : List Addr} {prs : List (Int × Int)} (m : PrB false false H a ps prs) : Dp K H (.ref a) (.tuple (prs.map tD)) := .tup (SqT.of m.sq) (dpa_prs m.len m.at_)
theorem shaped_prs (prs : List (Int × Int)) : SeqAt.shaped (.tuple (prs.map tD)) = true := by
  have z : PyData.canLayAll0 (prs.map tD) = true := by
    induction prs with
    | nil => rfl
    | cons p r ih =>
      rw [List.map_cons, PyData.canLayAll0, ih]
      rfl
  have d := dep_pairs prs
  unfold SeqAt.shaped
  show (PyData.canLayAll0 (prs.map tD) && decide (PyData.depthAll (prs.map tD) + 1 ≤ 64)) = true
  rw [z, decide_eq_true (by omega)]
  rfl
section
variable {P : Program} {w : World} {K : PySem.W.Frag} {mg : Str → Option Value} {base : Heap} {f C CB CU CN : Addr} {fd : FuncData}
def spTells (C : Addr) (K : PySem.W.Frag) : Sp := fun vs H Q _ => ∃ n r a t rs prs pp W R, vs = [.ref n, .ref r, .ref a, .ref t] ∧ CaseA C K H n rs prs ∧ Rg rs prs ∧ H r = some (.lst (rs.map V.int)) ∧ PrB true false H a pp prs ∧ Told H t (Rz rs prs) rs.length W R ∧ rs.length ≤ 1000 ∧ prs.length ≤ 1000 ∧ ∀ H', Same H H' → Q (.bl true) H'
theorem ok_tells (F : FnP K "_law_tells" s_tells f fd) (isC : C8.InsC K C) (m_isinstance : mg "isinstance" = none) (g_Case : mg "Case" = some (.ref C)) (cls : Cls K C) (n_ranks : NoAttr K C "ranks") (n_answers : NoAttr K C "answers") (m_tuple : mg "tuple" = none) (me_ruling : Met P w K mg base 1 C "ruling" (spRuling C K)) (me_settled : Met P w K mg base 1 C "settled" (spSettled C K)) : FnOk P w K mg base CX0 2 f fd P_tells (spTells C K) := by
  refine F.ok sc_tells (fun vs H Q E h => ?_) (fun cdv A outer s H vs Q E hr h => ?_)
  · obtain ⟨n, r, a, t, rs, prs, pp, W, R, rfl, _⟩ := h
    rfl
  · obtain ⟨n, r, a, t, rs, prs, pp, W, R, rfl, hcA, rg, hR, hP, ht, lr, lp, q⟩ := h
    obtain ⟨dx, tr, ta, ps, L, cs, cl, tR, tW, m, hc⟩ := hcA
    have hn := hc.ob
    have ok : ClOk rs prs cl := ClOk.of hc.ll hc.ok
    have fin := ok.stop rg hc.st
    refine ⟨_, PSs.nox (pss_cons (ps_if (PW.pt (pw_or (pt_not (pt_val (pe_callB (C8.call_isC isC) (by rfl) m_isinstance (by decide +kernel) (pa_cons (pv 0) (pa_cons (pe_glob (by rfl) g_Case relv_ref) pa_nil))))) (pw_or (pt_cmpR (op_neD hr.units) (pe_fld (pv 0) rfl) (pe_callTy call_tuple_of (by rfl) m_tuple (by decide +kernel) (pa_cons (pv 1) pa_nil)) (nomark _)) (pw_or1 (pt_cmpR (op_neD hr.units) (pe_fld (pv 0) rfl) (pe_callTy call_tuple_of (by rfl) m_tuple (by decide +kernel) (pa_cons (pv 2) pa_nil)) (nomark _)))))) (pss_one (ps_ret pe_bl)) pss_nil)
      (pss_one (ps_ret (pe_and (pe_cmpR (op_eqD hr.units) (pe_me0 me_ruling (pv 0) hr (by decide)) (pe_callTy call_tuple_of (by rfl) m_tuple (by decide +kernel) (pa_cons (pe_ix ix_list (pv 3) pe_int (fun _ _ => rfl)) pa_nil)) (nomark _)) (pe_one (pe_cmpR (op_eqD hr.units) (pe_me0 me_settled (pv 0) hr (by decide)) (pe_callTy call_tuple_of (by rfl) m_tuple (by decide +kernel) (pa_cons (pe_ix ix_list (pv 3) pe_int (fun _ _ => rfl)) pa_nil)) (nomark _))))))), ?_⟩
    walk_at "go"
    refine ⟨n, dx, _, rfl, hn, ?_⟩
    walk_at "go"
    refine ⟨r, _, rfl, .inl ⟨SqL.of hR, fun tr1 ntr1 => ?_⟩⟩
    have s1 := same_new (o := .tup (rs.map V.int)) ntr1
    have e1 : (upd H tr1 (.tup (rs.map V.int))) tr1 = some (.tup (rs.map V.int)) := upd_same
    generalize upd H tr1 (.tup (rs.map V.int)) = H1 at s1 e1
    refine ⟨_, _, dp_ints (b := false) (SqT.of (s1 _ _ hc.rk)), dp_ints (b := false) (SqT.of e1), shaped_ints _ _, shaped_ints _ _, ?_⟩
    rw [eqv_ints, decide_eq_true rfl]
    have hc1 := hc.mono s1
    have hn1 := hc1.ob
    have hP1 := hP.mono s1
    have ht1 := ht.mono s1
    walk_at "go"
    refine ⟨a, _, rfl, .inl ⟨SqL.of hP1.sq, fun ta2 nta2 => ?_⟩⟩
    have s2 := same_new (o := .tup (pp.map V.ref)) nta2
    have hP2 : PrB false false (upd H1 ta2 (.tup (pp.map V.ref))) ta2 pp prs := ⟨upd_same, hP1.len, fun i p r h1 h2 => s2 _ _ (hP1.at_ i p r h1 h2)⟩
    generalize upd H1 ta2 (.tup (pp.map V.ref)) = H2 at s2 hP2
    have hc2 := hc1.mono s2
    have ht2 := ht1.mono s2
    have hn2 := hc2.ob
    refine ⟨_, _, hc2.an.dpT, hP2.dpT, shaped_prs _, shaped_prs _, ?_⟩
    rw [eqv_same (shaped_prs _)]
    walk_at "go"
    refine ⟨n, dx, _, rfl, hn2, rfl, n, rs, prs, dx, tr, ta, ps, L, cl, tR, tW, m, rfl, hc2.wk, ?_⟩
    walk_at "go"
    refine ⟨t, _, _, _, rfl, rfl, SqL.of ht2.t, at_0, ?_⟩
    refine ⟨W, _, rfl, .inl ⟨SqL.of ht2.w, fun tw3 nt3 => ?_⟩⟩
    have s3 := same_new (o := .tup (vls (fun p => wV (Rz rs prs p)) rs.length)) nt3
    have e3 : (upd H2 tw3 (.tup (vls (fun p => wV (Rz rs prs p)) rs.length))) tw3 = some (.tup (vls (fun p => wV (Rz rs prs p)) rs.length)) := upd_same
    generalize upd H2 tw3 (.tup (vls (fun p => wV (Rz rs prs p)) rs.length)) = H3 at s3 e3
    have hc3 := hc2.mono s3
    have ht3 := ht2.mono s3
    have wn3 := hc3.wn
    rw [vls_congr fun p hp => by rw [fin p hp]] at wn3
    refine ⟨_, _, dp_ws wn3, dp_ws e3, shaped_ws _ _, shaped_ws _ _, ?_⟩
    rw [eqv_same (shaped_ws _ _)]
    have hn3 := hc3.ob
    walk_at "go"
    refine ⟨n, dx, _, rfl, hn3, rfl, n, rs, prs, dx, tr, ta, ps, L, cl, tR, tW, m, rfl, hc3.wk, ?_⟩
    walk_at "go"
    refine ⟨t, _, _, _, rfl, rfl, SqL.of ht3.t, at_1, ?_⟩
    refine ⟨R, _, rfl, .inl ⟨SqL.of ht3.r, fun tw4 nt4 => ?_⟩⟩
    have s4 := same_new (o := .tup (vls (fun p => rV (Rz rs prs p)) rs.length)) nt4
    have e4 : (upd H3 tw4 (.tup (vls (fun p => rV (Rz rs prs p)) rs.length))) tw4 = some (.tup (vls (fun p => rV (Rz rs prs p)) rs.length)) := upd_same
    generalize upd H3 tw4 (.tup (vls (fun p => rV (Rz rs prs p)) rs.length)) = H4 at s4 e4
    have rn4 := (hc3.mono s4).rn
    rw [vls_congr fun p hp => by rw [fin p hp]] at rn4
    refine ⟨_, _, dp_rs rn4, dp_rs e4, shaped_rs _ _, shaped_rs _ _, ?_⟩
    rw [eqv_same (shaped_rs _ _)]
    exact q _ (s1.trans (s2.trans (s3.trans s4)))
end
end Z
set_option pp.maxSteps 700
set_option Elab.async false
set_option linter.all false
set_option maxRecDepth 100000
set_option maxHeartbeats 4000000
namespace Z
open Ru
open PySem PySem.Spec PyProof.Rows L2
open C8 (pss_cut tCut)
local macro_rules | `(tactic| walk_at "num") => `(tactic| first | rfl | omega | decide | exact Nat.le_of_lt (small1000 (by simp)) | exact ⟨by omega, by omega⟩ | exact ⟨by omega, by omega, by omega⟩ | exact ⟨by decide, by decide, by decide⟩ | exact Or.inl ⟨by omega, by omega⟩ | exact Or.inr ⟨by omega, by omega⟩)
local macro_rules | `(tactic| walk_at "go") => `(tactic| repeat (first | refine ⟨_, rfl, ?_⟩ | refine ⟨_, _, rfl, rfl, ?_⟩ | refine ⟨_, _, rfl, ?_⟩ | (refine ⟨_, _, rfl, rfl, ?_, ?_⟩; focus walk_at "num") | refine Or.inl ⟨_, rfl, ?_⟩ | refine ⟨_, _, _, _, rfl, rfl, (by assumption), (by rfl), ?_⟩ | refine ⟨_, _, _, _, _, rfl, (by assumption), (by assumption), (by assumption), (by rfl), ?_⟩ | refine ⟨rfl, ?_⟩ | (refine And.intro ?_ ?_; focus walk_at "num")))
abbrev s_due : Stmt := topS 18
abbrev N_due : List Str := ["_law_told", "_law_counting_here", "_law_paper", "_law_answer", "_law_number", "_law_one", "_law_found", "_law_best"]
abbrev P_due : List Str := ["_law_told", "_law_counting_here", "_law_paper", "_law_answer"]
theorem sc_due : FnScope N_due P_due (defScope s_due) := ⟨rfl, rfl, rfl, by decide +kernel, rfl, by decide +kernel, by decide +kernel⟩
/-- the law's counting lists -/
structure CLs (H : Hp) (L : Addr) (rs : List Int) (prs : List (Int × Int)) (cs : List Addr) (cl : List (List Int)) : Prop where
  cn : H L = some (.lst (cs.map V.ref))
  lc : cs.length = rs.length
  ca : ∀ (i : Nat) c l, cs[i]? = some c → cl[i]? = some l → H c = some (.lst (l.map V.int))
  ok : ClOk rs prs cl
theorem CLs.mono {H H' : Hp} {L : Addr} {rs : List Int} {prs : List (Int × Int)} {cs : List Addr} {cl : List (List Int)} (s : Same H H') (h : CLs H L rs prs cs cl) : CLs H' L rs prs cs cl := ⟨s _ _ h.cn, h.lc, fun i c l h1 h2 => s _ _ (h.ca i c l h1 h2), h.ok⟩
def repW : Rep → Str
  | .paper _ => "paper"
  | .notup _ => "not upheld"
  | .noans _ => "no answer"
  | .ok _ => "reply"
def repI : Rep → Int
  | .paper x => x
  | .notup x => x
  | .noans x => x
  | .ok x => x
theorem all_flat (l : List Int) : (l.map V.int).all flatV = true := List.all_eq_true.mpr (fun v hv => by
  obtain ⟨y, _, rfl⟩ := List.mem_map.mp hv
  rfl)
section
variable {P : Program} {w : World} {K : PySem.W.Frag} {mg : Str → Option Value} {base : Heap} {f C CB CU CN : Addr} {fd : FuncData}
def spDue (K : PySem.W.Frag) : Sp := fun vs H Q _ => ∃ t L p a rs prs cs cl W R, vs = [.ref t, .ref L, .int p, .int a] ∧ Told H t (Rz rs prs) rs.length W R ∧ CLs H L rs prs cs cl ∧ Rg rs prs ∧ rs.length ≤ 1000 ∧ ∀ l H' x, Same H H' → RepOf rs prs p a x → H' l = some (.lst [.str (repW x), .int (repI x)]) → Q (.ref l) H'
theorem ok_due (F : FnP K "_law_due" s_due f fd) (m_len : mg "len" = none) : FnOk P w K mg base CX0 1 f fd P_due (spDue K) := by
  refine F.ok sc_due (fun vs H Q E h => ?_) (fun cdv A outer s H vs Q E hr h => ?_)
  · obtain ⟨t, L, p, a, rs, prs, cs, cl, W, R, rfl, _⟩ := h
    rfl
  · obtain ⟨t, L, p, a, rs, prs, cs, cl, W, R, rfl, ht, hc, rg, lr, q⟩ := h
    refine ⟨_, PSs.nox (pss_cons (ps_for PassesOwn.never rfl (pi_list (pe_lst (pa_cons (pv 2) (pa_cons (pv 3) pa_nil)))) (pg_name (i := 4) sc_due.nd rfl (by first | exact .inl rfl | exact .inr rfl))
        (pss_one (ps_if (PW.pt (pw_or (pt_cmpR op_lt (pv 4) pe_int (nomark _)) (pw_or1 (pt_cmpR op_ge (pv 4) (pe_callB call_len_seq (by rfl) m_len PySem.boot_len (pa_cons (pv 1) pa_nil)) (nomark _))))) (pss_one (ps_ret (pe_lst (pa_cons pe_str (pa_cons (pv 4) pa_nil))))) pss_nil)))
      (pss_cons (ps_if (pt_cmpR op_ne (pe_ix ix_list (pe_ix ix_list (pv 0) pe_int (fun _ _ => rfl)) (pv 2) (fun _ _ => rfl)) pe_str (nomark _)) (pss_one (ps_ret (pe_lst (pa_cons pe_str (pa_cons (pv 2) pa_nil))))) pss_nil)
      (pss_cons (ps_if (pt_cmpR op_notIn_seq (pv 3) (pe_ix ix_list (pv 1) (pv 2) (fun _ _ => rfl)) (by rfl)) (pss_one (ps_ret (pe_lst (pa_cons pe_str (pa_cons (pv 3) pa_nil))))) pss_nil)
      (pss_cons (ps_setLc (i := 6) (own := [("_law_one", 5)]) (g := (gName 5)) (by rfl) sc_due.nd rfl rfl (sw_true rfl rfl rfl (by decide +kernel)) (pi_list (pe_ix ix_list (pv 1) (pv 3) (fun _ _ => rfl))) (blkOk_by (own := [("_law_one", 5)]) (N := N_due) (sc := defScope s_due) (by decide +kernel)) (fun _ _ _ _ _ => (pg_name (i := 5) sc_due.nd rfl (by first | exact .inl rfl | exact .inr rfl))) (fun _ _ _ _ _ => (pts_one (pt_cmpR op_eq (pe_ix (ix_list_K (K := K) rfl) (pe_ix (ix_list_K (K := K) rfl) (pv 0) pe_int (fun _ _ => rfl)) (pv 5) (fun _ _ => rfl)) pe_str (nomark _)))) (fun _ _ _ _ _ => (pv 5)))
      (pss_cons (ps_set (i := 7) sc_due.nd rfl (by first | exact .inl rfl | exact .inr rfl) (pe_ix ix_list (pv 6) pe_int (fun _ _ => rfl)))
      (pss_cons (ps_for PassesOwn.never rfl (pi_list (pv 6)) (pg_name (i := 5) sc_due.nd rfl (by first | exact .inl rfl | exact .inr rfl))
        (pss_one (ps_if (PW.pt (pw_or (pt_cmpR op_lt (pe_ix ix_list (pe_ix ix_list (pv 0) pe_int (fun _ _ => rfl)) (pv 5) (fun _ _ => rfl)) (pe_ix ix_list (pe_ix ix_list (pv 0) pe_int (fun _ _ => rfl)) (pv 7) (fun _ _ => rfl)) (nomark _)) (pw_or1 (PW.pt (pw_and (pt_cmpR op_eq (pe_ix ix_list (pe_ix ix_list (pv 0) pe_int (fun _ _ => rfl)) (pv 5) (fun _ _ => rfl)) (pe_ix ix_list (pe_ix ix_list (pv 0) pe_int (fun _ _ => rfl)) (pv 7) (fun _ _ => rfl)) (nomark _)) (pw_and1 (pt_cmpR op_lt (pv 5) (pv 7) (nomark _)))))))) (pss_one (ps_set (i := 7) sc_due.nd rfl (by first | exact .inl rfl | exact .inr rfl) (pv 5))) pss_nil)))
      (pss_one (ps_ret (pe_lst (pa_cons pe_str (pa_cons (pv 7) pa_nil))))))))))), ?_⟩
    have llc := hc.lc
    walk_at "go"
    intro z nz
    have s0 := same_new (o := .lst [.int p, .int a]) nz
    have ez : (upd H z (.lst [.int p, .int a])) z = some (.lst [.int p, .int a]) := upd_same
    have ht0 := ht.mono s0
    have hc0 := hc.mono s0
    generalize upd H z (.lst [.int p, .int a]) = H0 at s0 ez ht0 hc0
    walk_at "go"
    refine ⟨⟨_, SqL.of ez⟩, ?_⟩
    refine for_gen (n := 2) (fun k σ J => J = H0 ∧ (0 < k → InN rs.length p) ∧ (1 < k → InN rs.length a) ∧ ∃ v4, σ = [some (.ref t), some (.ref L), some (.int p), some (.int a), v4, none, none, none]) ⟨rfl, fun h => by omega, fun h => by omega, _, rfl⟩ ?_ ?_ ?_ ?_
    · rintro k σ J hk ⟨rfl, _⟩
      rcases (show k = 0 ∨ k = 1 by omega) with rfl | rfl
      · exact ⟨_, .int p, SqL.of ez, rfl⟩
      · exact ⟨_, .int a, SqL.of ez, rfl⟩
    · rintro σ J ⟨rfl, _⟩
      exact ⟨_, SqL.of ez, Nat.le_refl _⟩
    · rintro k σ J u J' hk ⟨rfl, g0, g1, v4, rfl⟩ ⟨rfl, hu⟩
      have hu := hu _ (SqL.of ez)
      obtain ⟨u', rfl, hbad, hok⟩ : ∃ u' : Int, u = .int u' ∧ (¬ InN rs.length u' → RepOf rs prs p a (.paper u')) ∧ (InN rs.length u' → (0 < k + 1 → InN rs.length p) ∧ (1 < k + 1 → InN rs.length a)) := by
        rcases (show k = 0 ∨ k = 1 by omega) with rfl | rfl
        · cases hu
          exact ⟨p, rfl, fun h => .paper1 h, fun h => ⟨fun _ => h, fun h => by omega⟩⟩
        · cases hu
          exact ⟨a, rfl, fun h => .paper2 (g0 (by omega)) h, fun h => ⟨fun _ => g0 (by omega), fun _ => h⟩⟩
      have done_ : ¬ InN rs.length u' → ∀ l, J' l = none → Q (.ref l) (upd J' l (.lst [.str "paper", .int u'])) := fun h l nl => q l _ _ (s0.trans (same_new nl)) (hbad h) upd_same
      walk_at "go"
      refine ite2 (fun e => ?_) (fun e => ?_)
      · have e : u' < 0 := of_decide_eq_true e
        walk_at "go"
        exact done_ fun z => by have := z.1; omega
      have e : ¬ u' < 0 := fun h => e (decide_eq_true h)
      walk_at "go"
      refine ⟨L, _, rfl, .inl (SqL.of hc0.cn), ?_⟩
      rw [List.length_map, llc]
      walk_at "go"
      refine ite2 (fun e2 => ?_) (fun e2 => ?_)
      · have e2 : (rs.length : Int) ≤ u' := of_decide_eq_true e2
        walk_at "go"
        exact done_ fun z => by have := z.2; omega
      have e2 : ¬ (rs.length : Int) ≤ u' := fun h => e2 (decide_eq_true h)
      obtain ⟨k1, k2⟩ := hok ⟨by omega, by omega⟩
      exact ⟨rfl, k1, k2, _, rfl⟩
    rintro σ J ⟨rfl, g0, g1, v4, rfl⟩
    have i1 := g0 (by omega)
    have i2 := g1 (by omega)
    clear g0 g1
    obtain ⟨pn, rfl⟩ := Int.eq_ofNat_of_zero_le i1.1
    obtain ⟨an, rfl⟩ := Int.eq_ofNat_of_zero_le i2.1
    have lp : pn < rs.length := by have := i1.2; omega
    have la : an < rs.length := by have := i2.2; omega
    walk_at "go"
    refine ⟨t, _, _, _, rfl, rfl, SqL.of ht0.t, at_0, ?_⟩
    walk_at "go"
    refine ⟨W, _, _, _, rfl, rfl, SqL.of ht0.w, at_vls i1.1 i1.2, ?_⟩
    refine ⟨wV_scal _ _, ?_⟩
    walk_at "go"
    have eup := wV_up (Rz rs prs pn)
    refine ite2 (fun c => ?_) (fun c => ?_)
    · walk_at "go"
      intro l nl
      refine q l _ (.notup pn) (s0.trans (same_new nl)) (.notup i1 i2 fun r e => ?_) upd_same
      have := eup.mpr ⟨r, e⟩
      rw [Int.toNat_natCast, this] at c
      cases c
    obtain ⟨r, er⟩ := eup.mp (by
      rw [Int.toNat_natCast] at c
      simpa using c)
    clear c eup
    walk_at "go"
    obtain ⟨cp, lcp, e1, e2, e3⟩ := ca_get hc0.lc hc0.ok.len hc0.ca lp
    refine ⟨L, _, _, _, rfl, rfl, SqL.of hc0.cn, at_ref e1 rfl, ?_⟩
    refine ⟨cp, _, rfl, .inl (SqL.of e3), rfl, all_flat _, ?_⟩
    rw [inV_ints]
    have hin := (hc0.ok.at_ rg e2).1 an
    walk_at "go"
    refine ite2 (fun c => ?_) (fun c => ?_)
    · walk_at "go"
      intro l nl
      refine q l _ (.noans an) (s0.trans (same_new nl)) (.noans r i1 i2 er fun z => ?_) upd_same
      rw [decide_eq_true (hin.mp z)] at c
      cases c
    have ain : an ∈ Cz rs prs pn := hin.mpr (by
      by_cases z : (an : Int) ∈ lcp
      · exact z
      · rw [decide_eq_false z] at c
        exact absurd rfl c)
    clear c hin e1 e2 e3
    walk_at "go"
    obtain ⟨ca, la_, e1, e2, e3⟩ := ca_get hc0.lc hc0.ok.len hc0.ca la
    refine ⟨L, _, _, _, rfl, rfl, SqL.of hc0.cn, at_ref e1 rfl, ?_⟩
    walk_at "go"
    refine ⟨⟨_, SqL.of e3⟩, fun D nD => ?_⟩
    obtain ⟨hcz, hrg⟩ := hc0.ok.at_ rg e2
    have lla : la_.length ≤ 1000 := by
      have := nodup_len (hc0.ok.nod an la_ e2) hrg
      omega
    refine lc_fltL (sb true (Rz rs prs)) (fun q => V.int q) (SqL.of e3) (by omega) nD (fun _ => rfl) ?_ ?_ ?_
    · intro x J1 Q1 hx s5 q1
      have ht4 := ht0.mono s5
      walk_at "go"
      refine ⟨t, _, _, _, rfl, rfl, SqL.of ht4.t, at_0, ?_⟩
      walk_at "go"
      refine ⟨W, _, _, _, rfl, rfl, SqL.of ht4.w, at_vls (hrg x hx).1 (hrg x hx).2, ?_⟩
      refine ⟨wV_scal _ _, ?_⟩
      walk_at "go"
      rw [wV_sb]
      exact q1
    · intro x J1 Q1 hx hb s5 q1
      exact ⟨_, rfl, q1⟩
    intro J1 s5 eD
    have ht1 := ht0.mono s5
    rw [show (fun q => V.int q) = V.int from rfl] at eD
    obtain ⟨t0, _, _, ⟨q0, hq0, eq0⟩, _⟩ := reply_ok er ain
    have fm : ∀ x, x ∈ la_.filter (sb true (Rz rs prs)) ↔ x ∈ la_ ∧ sb true (Rz rs prs) x = true := fun x => List.mem_filter
    have m0 : (q0 : Int) ∈ la_.filter (sb true (Rz rs prs)) := (fm _).mpr ⟨(hcz q0).mp hq0, sb_iff.mpr ⟨t0, eq0⟩⟩
    generalize la_.filter (sb true (Rz rs prs)) = fd at eD fm m0
    have rVx : ∀ x, x ∈ fd → rV (Rz rs prs x.toNat) = V.int (rnO (Rz rs prs) x) := fun x hx => by
      obtain ⟨u, e⟩ := sb_iff.mp ((fm x).mp hx).2
      rw [rnO_of e, e]
      rfl
    have rgx : ∀ x, x ∈ fd → 0 ≤ x ∧ x < (rs.length : Int) := fun x hx => hrg x ((fm x).mp hx).1
    have lfd : 0 < fd.length := List.length_pos_of_mem m0
    walk_at "go"
    refine ⟨D, _, _, _, rfl, rfl, SqL.of eD, at_of (j := 0) rfl (by rw [List.getElem?_map, List.getElem?_eq_getElem lfd]; rfl), ?_⟩
    walk_at "go"
    refine ⟨⟨_, SqL.of eD⟩, ?_⟩
    refine for_gen (n := fd.length) (fun k σ J => J = J1 ∧ ∃ b v4 v5, b ∈ fd ∧ (∀ y ∈ fd.take k, le2 (rnO (Rz rs prs) b, b) (rnO (Rz rs prs) y, y)) ∧ σ = [some (.ref t), some (.ref L), some (.int (pn : Int)), some (.int (an : Int)), v4, v5, some (.ref D), some (.int b)]) ⟨rfl, fd[0], _, _, List.getElem_mem lfd, fun y hy => absurd hy (by simp), rfl⟩ ?_ ?_ ?_ ?_
    · rintro k σ J hk ⟨rfl, _⟩
      exact ⟨_, .int fd[k], SqL.of eD, by rw [List.getElem?_map, List.getElem?_eq_getElem hk]; rfl⟩
    · rintro σ J ⟨rfl, _⟩
      exact ⟨_, SqL.of eD, by rw [List.length_map]; exact Nat.le_refl _⟩
    · rintro k σ J u J' hk ⟨rfl, b, v4, v5, hb, hmin, rfl⟩ ⟨rfl, hu⟩
      have hu := hu _ (SqL.of eD)
      rw [List.getElem?_map, List.getElem?_eq_getElem hk] at hu
      cases hu
      have hx := List.getElem_mem hk
      have tk1 : ∀ y, y ∈ fd.take (k + 1) → y ∈ fd.take k ∨ y = fd[k] := fun y hy => by
        rw [List.take_add_one, List.getElem?_eq_getElem hk] at hy
        exact (List.mem_append.mp hy).imp id fun h => by simpa using h
      generalize fd[k] = x at hx tk1
      have ex := rVx x hx
      have eb := rVx b hb
      generalize erx : rnO (Rz rs prs) x = rx at ex
      generalize erb : rnO (Rz rs prs) b = rb at eb hmin
      have keep : ¬ (rx < rb ∨ (rx = rb ∧ x < b)) → ∀ y ∈ fd.take (k + 1), le2 (rnO (Rz rs prs) b, b) (rnO (Rz rs prs) y, y) := fun h y hy => by
        rcases tk1 y hy with h1 | rfl
        · rw [erb]
          exact hmin y h1
        · rw [erb, erx]
          unfold le2
          dsimp only
          omega
      have chg : (rx < rb ∨ (rx = rb ∧ x < b)) → ∀ y ∈ fd.take (k + 1), le2 (rnO (Rz rs prs) x, x) (rnO (Rz rs prs) y, y) := fun h y hy => by
        rcases tk1 y hy with h1 | rfl
        · rw [erx]
          refine le2_trans ?_ (hmin y h1)
          unfold le2
          dsimp only
          omega
        · exact le2_refl _
      walk_at "go"
      refine ⟨t, _, _, _, rfl, rfl, SqL.of ht1.t, at_1, ?_⟩
      walk_at "go"
      refine ⟨R, _, _, _, rfl, rfl, SqL.of ht1.r, at_vls (rgx x hx).1 (rgx x hx).2, ?_⟩
      walk_at "go"
      refine ⟨t, _, _, _, rfl, rfl, SqL.of ht1.t, at_1, ?_⟩
      walk_at "go"
      refine ⟨R, _, _, _, rfl, rfl, SqL.of ht1.r, at_vls (rgx b hb).1 (rgx b hb).2, ?_⟩
      rw [ex, eb]
      walk_at "go"
      refine ite2 (fun c => ?_) (fun c => ?_)
      · have c : rx < rb := of_decide_eq_true c
        walk_at "go"
        exact ⟨_, _, _, hx, chg (.inl c), rfl⟩
      have c : ¬ rx < rb := fun h => c (decide_eq_true h)
      walk_at "go"
      refine ⟨t, _, _, _, rfl, rfl, SqL.of ht1.t, at_1, ?_⟩
      walk_at "go"
      refine ⟨R, _, _, _, rfl, rfl, SqL.of ht1.r, at_vls (rgx x hx).1 (rgx x hx).2, ?_⟩
      walk_at "go"
      refine ⟨t, _, _, _, rfl, rfl, SqL.of ht1.t, at_1, ?_⟩
      walk_at "go"
      refine ⟨R, _, _, _, rfl, rfl, SqL.of ht1.r, at_vls (rgx b hb).1 (rgx b hb).2, ?_⟩
      rw [ex, eb]
      walk_at "go"
      have ed : decide (V.int rx = V.int rb) = decide (rx = rb) := by
        by_cases h : rx = rb
        · rw [decide_eq_true h, h, decide_eq_true rfl]
        · rw [decide_eq_false h, decide_eq_false fun z => h (by injection z)]
      rw [ed]
      refine ite2 (fun c2 => ?_) (fun c2 => ?_)
      · have c2 : rx = rb := of_decide_eq_true c2
        walk_at "go"
        refine ite2 (fun c3 => ?_) (fun c3 => ?_)
        · have c3 : x < b := of_decide_eq_true c3
          walk_at "go"
          exact ⟨_, _, _, hx, chg (.inr ⟨c2, c3⟩), rfl⟩
        · have c3 : ¬ x < b := fun h => c3 (decide_eq_true h)
          exact ⟨rfl, _, _, _, hb, keep (by omega), rfl⟩
      · have c2 : ¬ rx = rb := fun h => c2 (decide_eq_true h)
        refine ite2 (fun c3 => absurd c3 (by simp)) (fun _ => ?_)
        exact ⟨rfl, _, _, _, hb, keep (by omega), rfl⟩
    · rintro σ J ⟨rfl, b, v4, v5, hb, hmin, rfl⟩
      rw [List.take_length] at hmin
      walk_at "go"
      intro l nl
      obtain ⟨hb1, hb2⟩ := (fm b).mp hb
      obtain ⟨u, eu⟩ := sb_iff.mp hb2
      obtain ⟨bn, rfl⟩ := Int.eq_ofNat_of_zero_le (rgx b hb).1
      refine q l _ (.ok bn) (s0.trans (s5.trans (same_new nl))) (.ok r bn u i1 i2 er ain ((hcz bn).mpr hb1) eu fun q' hq' u' eu' => ?_) upd_same
      have hq1 : (q' : Int) ∈ fd := (fm _).mpr ⟨(hcz q').mp hq', sb_iff.mpr ⟨u', eu'⟩⟩
      have z := hmin _ hq1
      rw [rnO_of eu, rnO_of (q := (q' : Int)) eu'] at z
      unfold le2 at z
      dsimp only at z
      omega
end
end Z
set_option pp.maxSteps 700
set_option Elab.async false
set_option linter.all false
set_option maxRecDepth 100000
set_option maxHeartbeats 4000000
namespace Z
open Ru
open PySem PySem.Spec PyProof.Rows L2
open C8 (pss_cut tCut)
local macro_rules | `(tactic| walk_at "num") => `(tactic| first | rfl | omega | decide | exact Nat.le_of_lt (small1000 (by simp)) | exact ⟨by omega, by omega⟩ | exact ⟨by omega, by omega, by omega⟩ | exact ⟨by decide, by decide, by decide⟩ | exact Or.inl ⟨by omega, by omega⟩ | exact Or.inr ⟨by omega, by omega⟩)
local macro_rules | `(tactic| walk_at "go") => `(tactic| repeat (first | refine ⟨_, rfl, ?_⟩ | refine ⟨_, _, rfl, rfl, ?_⟩ | refine ⟨_, _, rfl, ?_⟩ | (refine ⟨_, _, rfl, rfl, ?_, ?_⟩; focus walk_at "num") | refine Or.inl ⟨_, rfl, ?_⟩ | refine ⟨_, _, _, _, rfl, rfl, (by assumption), (by rfl), ?_⟩ | refine ⟨_, _, _, _, _, rfl, (by assumption), (by assumption), (by assumption), (by rfl), ?_⟩ | refine ⟨rfl, ?_⟩ | (refine And.intro ?_ ?_; focus walk_at "num")))
abbrev s_reply : Stmt := topS 19
abbrev N_reply : List Str := ["_law_case", "_law_paper", "_law_answer", "_law_told", "e"]
abbrev P_reply : List Str := ["_law_case", "_law_paper", "_law_answer"]
theorem sc_reply : FnScope N_reply P_reply (defScope s_reply) := ⟨rfl, rfl, rfl, by decide +kernel, rfl, by decide +kernel, by decide +kernel⟩
abbrev s_replies : Stmt := topS 20
abbrev N_replies : List Str := ["_law_case", "_law_told", "_law_counting_here", "_law_many", "_law_paper", "_law_answer"]
abbrev P_replies : List Str := ["_law_case", "_law_told", "_law_counting_here"]
theorem sc_replies : FnScope N_replies P_replies (defScope s_replies) := ⟨rfl, rfl, rfl, by decide +kernel, rfl, by decide +kernel, by decide +kernel⟩
section
variable {P : Program} {w : World} {K : PySem.W.Frag} {mg : Str → Option Value} {base : Heap} {f C CB CU CN CH : Addr} {fd : FuncData}
def spLReply (C : Addr) (K : PySem.W.Frag) : Sp := fun vs H Q _ => ∃ n rs prs p a, vs = [.ref n, .int p, .int a] ∧ CaseA C K H n rs prs ∧ Rg rs prs ∧ rs.length ≤ 1000 ∧ ∀ l H' x, Same H H' → RepOf rs prs p a x → H' l = some (.lst [.str (repW x), .int (repI x)]) → Q (.ref l) H'
theorem ok_reply (F : FnP K "_law_reply" s_reply f fd) (m_isinstance : mg "isinstance" = none) (m_int : mg "int" = none) (m_bool : mg "bool" = none) (m_ValueError : mg "ValueError" = none) (g_BadPaper : mg "BadPaper" = some (.ref CB)) (g_NotUpheld : mg "NotUpheld" = some (.ref CU)) (g_NoAnswer : mg "NoAnswer" = some (.ref CN)) (g_HouseError : mg "HouseError" = some (.ref CH)) (xf_BadPaper : XfC K CB) (xf_NotUpheld : XfC K CU) (xf_NoAnswer : XfC K CN) (no_BadPaper_number : PySem.W.findIn K (.ref CB) "number" = some none) (no_NotUpheld_number : PySem.W.findIn K (.ref CU) "number" = some none) (no_NoAnswer_number : PySem.W.findIn K (.ref CN) "number" = some none)
    (teBB : PySem.W.exmOne K (.ref CB) (.ref CB) = some true) (teUB : PySem.W.exmOne K (.ref CU) (.ref CB) = some false) (teUU : PySem.W.exmOne K (.ref CU) (.ref CU) = some true) (teNB : PySem.W.exmOne K (.ref CN) (.ref CB) = some false) (teNU : PySem.W.exmOne K (.ref CN) (.ref CU) = some false) (teNN : PySem.W.exmOne K (.ref CN) (.ref CN) = some true) (me_reply : MetX P w K mg base 4 C "reply" (spReply C CB CU CN K)) : FnOk P w K mg base CX0 6 f fd P_reply (spLReply C K) := by
  refine F.ok sc_reply (fun vs H Q E h => ?_) (fun cdv A outer s H vs Q E hr h => ?_)
  · obtain ⟨n, rs, prs, p, a, rfl, _⟩ := h
    rfl
  · obtain ⟨n, rs, prs, p, a, rfl, hc, rg, lr, q⟩ := h
    obtain ⟨dx, tr, ta, ps, L, cs, cl, tR, tW, m, hc'⟩ := hc
    have hn := hc'.ob
    refine ⟨_, PSs.nox (pss_cons (L2N.ps_try_manyA rfl rfl sc_reply.nd takes0N (fun W pn xe tk po => (pss_one (ps_set (i := 3) sc_reply.nd rfl (by first | exact .inl rfl | exact .inr rfl) (pe_meE me_reply (pv 0) (fun σ => L2N.passAt tk σ) hr (by decide) (pa_cons (pv 1) (pa_cons (pv 2) pa_nil))))))
      (.cons (i := 4) rfl rfl ⟨rfl, rfl, .inl g_BadPaper⟩ (fun ex oe cls d pn hzn hf => (pss_one (ps_ret (pe_lst (pa_cons pe_str (pa_cons (pe_xf xf_BadPaper no_BadPaper_number hzn.zc hf (pv 4)) pa_nil))))))
      (.cons (i := 4) rfl rfl ⟨rfl, rfl, .inl g_NotUpheld⟩ (fun ex oe cls d pn hzn hf => (pss_one (ps_ret (pe_lst (pa_cons pe_str (pa_cons (pe_xf xf_NotUpheld no_NotUpheld_number hzn.zc hf (pv 4)) pa_nil))))))
      (.cons (i := 4) rfl rfl ⟨rfl, rfl, .inl g_NoAnswer⟩ (fun ex oe cls d pn hzn hf => (pss_one (ps_ret (pe_lst (pa_cons pe_str (pa_cons (pe_xf xf_NoAnswer no_NoAnswer_number hzn.zc hf (pv 4)) pa_nil))))))
      (.cons (i := 4) rfl rfl ⟨rfl, rfl, .inl g_HouseError⟩ (fun ex oe cls d pn hzn hf => (pss_one (ps_ret (pe_lst (pa_cons pe_str (pa_cons (pe_callB (call_isX hzn.zc hf) (by rfl) m_isinstance (by decide +kernel) (pa_cons (pv 4) (pa_cons (pe_bltn (v := .ty "ValueError") (by rfl) m_ValueError (by decide +kernel) rfl) pa_nil))) pa_nil))))))
      .nil)))))
      (pss_cons (ps_if (PW.pt (pw_or (pt_not (pt_val (pe_callB call_isi (by rfl) m_isinstance (by decide +kernel) (pa_cons (pv 3) (pa_cons (pe_bltn (v := .ty "int") (by rfl) m_int (by decide +kernel) rfl) pa_nil))))) (pw_or1 (pt_val (pe_callB call_isi (by rfl) m_isinstance (by decide +kernel) (pa_cons (pv 3) (pa_cons (pe_bltn (v := .ty "bool") (by rfl) m_bool (by decide +kernel) rfl) pa_nil))))))) (pss_one (ps_ret (pe_lst (pa_cons pe_str (pa_cons pe_non pa_nil))))) pss_nil)
      (pss_one (ps_ret (pe_lst (pa_cons pe_str (pa_cons (pv 3) pa_nil))))))), ?_⟩
    walk_at "go"
    refine ⟨n, dx, _, rfl, hn, rfl, ?_⟩
    walk_at "go"
    refine ⟨n, rs, prs, p, a, rfl, ⟨dx, tr, ta, ps, L, cs, cl, tR, tW, m, hc'⟩, rg, lr, fun u H1 hu s1 => ?_, fun x d hx nd => ?_, fun x d hx nd => ?_, fun x d hx nd => ?_⟩
    · walk_at "go"
      refine isi (c := "int") (b := true) (.int _) (by decide +kernel) ?_
      walk_at "go"
      refine isi (c := "bool") (b := false) (.int _) (by decide +kernel) ?_
      walk_at "go"
      intro l nl
      exact q l _ _ (s1.trans (same_new nl)) hu upd_same
    · refine ⟨true, teBB, fun _ a' na => ?_, (fun z => by cases z)⟩
      walk_at "go"
      refine ⟨d, _, _, rfl, upd_same, rfl, ?_⟩
      walk_at "go"
      intro l nl
      exact q l _ _ ((same_new nd).trans (same_new nl)) hx upd_same
    · refine ⟨false, teUB, (fun z => by cases z), fun _ => ?_⟩
      refine ⟨true, teUU, fun _ a' na => ?_, (fun z => by cases z)⟩
      walk_at "go"
      refine ⟨d, _, _, rfl, upd_same, rfl, ?_⟩
      walk_at "go"
      intro l nl
      exact q l _ _ ((same_new nd).trans (same_new nl)) hx upd_same
    · refine ⟨false, teNB, (fun z => by cases z), fun _ => ?_⟩
      refine ⟨false, teNU, (fun z => by cases z), fun _ => ?_⟩
      refine ⟨true, teNN, fun _ a' na => ?_, (fun z => by cases z)⟩
      walk_at "go"
      refine ⟨d, _, _, rfl, upd_same, rfl, ?_⟩
      walk_at "go"
      intro l nl
      exact q l _ _ ((same_new nd).trans (same_new nl)) hx upd_same
/-! ### all replies of a case -/
theorem dp_rep {K : PySem.W.Frag} {H : Hp} {l : Addr} {w : Str} {x : Int} (h : H l = some (.lst [.str w, .int x])) : Dp K H (.ref l) (.list [.str w, .int x]) := .lst (SqL.of h) (.cons (.str _) (.cons (.int _) .nil))
theorem shaped_rep0 (w : Str) (i : Int) (h : PyData.canLay0 (.str w) = true) : SeqAt.shaped (.list [.str w, .int i]) = true := by
  unfold SeqAt.shaped
  show (PyData.canLayAll0 [.str w, .int i] && decide (PyData.depthAll [.str w, .int i] + 1 ≤ 64)) = true
  rw [PyData.canLayAll0, h]
  rfl
theorem CaseA.mono {H H' : Hp} {n : Addr} {rs : List Int} {prs : List (Int × Int)} (s : Same H H') (h : CaseA C K H n rs prs) : CaseA C K H' n rs prs := by
  obtain ⟨dx, tr, ta, ps, L, cs, cl, tR, tW, m, hc⟩ := h
  exact ⟨dx, tr, ta, ps, L, cs, cl, tR, tW, m, hc.mono s⟩
theorem shaped_rep (x : Rep) (i : Int) : SeqAt.shaped (.list [.str (repW x), .int i]) = true := by
  cases x
  · exact shaped_rep0 "paper" _ (by decide +kernel)
  · exact shaped_rep0 "not upheld" _ (by decide +kernel)
  · exact shaped_rep0 "no answer" _ (by decide +kernel)
  · exact shaped_rep0 "reply" _ (by decide +kernel)
def spReplies (C : Addr) (K : PySem.W.Frag) : Sp := fun vs H Q _ => ∃ n t L rs prs cs cl W R, vs = [.ref n, .ref t, .ref L] ∧ CaseA C K H n rs prs ∧ Told H t (Rz rs prs) rs.length W R ∧ CLs H L rs prs cs cl ∧ Rg rs prs ∧ rs.length ≤ 1000 ∧ ∀ H', Same H H' → Q (.bl true) H'
theorem ok_replies (F : FnP K "_law_replies" s_replies f fd) (m_len : mg "len" = none) (m_range : mg "range" = none) (c_reply : Cal P w K mg base 6 "_law_reply" (spLReply C K)) (c_due : Cal P w K mg base 1 "_law_due" (spDue K)) : FnOk P w K mg base CX0 7 f fd P_replies (spReplies C K) := by
  refine F.ok sc_replies (fun vs H Q E h => ?_) (fun cdv A outer s H vs Q E hr h => ?_)
  · obtain ⟨n, t, L, rs, prs, cs, cl, W, R, rfl, _⟩ := h
    rfl
  · obtain ⟨n, t, L, rs, prs, cs, cl, W, R, rfl, hcA, ht, hc, rg, lr, q⟩ := h
    refine ⟨_, PSs.nox (pss_cons (ps_set (i := 3) sc_replies.nd rfl (by first | exact .inl rfl | exact .inr rfl) (pe_callB call_len_seq (by rfl) m_len PySem.boot_len (pa_cons (pv 2) pa_nil)))
      (pss_cons (ps_for PassesOwn.never rfl (pi_range2 (by rfl) m_range (pa_cons (pe_un un_neg pe_int) (pa_cons (pe_op op_add (pv 3) pe_int) pa_nil))) (pg_name (i := 4) sc_replies.nd rfl (by first | exact .inl rfl | exact .inr rfl))
        (pss_one (ps_for PassesOwn.never rfl (pi_range2 (by rfl) m_range (pa_cons (pe_un un_neg pe_int) (pa_cons (pe_op op_add (pv 3) pe_int) pa_nil))) (pg_name (i := 5) sc_replies.nd rfl (by first | exact .inl rfl | exact .inr rfl))
        (pss_one (ps_if (pt_cmpR (op_neD hr.units) (pe_cl c_reply hr (by decide) (by rfl) (pa_cons (pv 0) (pa_cons (pv 4) (pa_cons (pv 5) pa_nil)))) (pe_cl c_due hr (by decide) (by rfl) (pa_cons (pv 1) (pa_cons (pv 2) (pa_cons (pv 4) (pa_cons (pv 5) pa_nil))))) (nomark _)) (pss_one (ps_ret pe_bl)) pss_nil)))))
      (pss_one (ps_ret pe_bl)))), ?_⟩
    have llc := hc.lc
    walk_at "go"
    refine ⟨L, _, rfl, .inl (SqL.of hc.cn), ?_⟩
    rw [List.length_map, llc]
    walk_at "go"
    have rr : ((rs.length : Int) + 1 - -1).toNat = rs.length + 2 := by omega
    refine for_gen (n := rs.length + 2) (fun i σ J => Same H J ∧ ∃ v4 v5, σ = [some (.ref n), some (.ref t), some (.ref L), some (.int (rs.length : Int)), v4, v5]) ⟨Same.refl _, _, _, rfl⟩ ?_ ?_ ?_ ?_
    · intro k σ J hk _
      show k < ((rs.length : Int) + 1 - -1).toNat
      omega
    · intro σ J _
      show ((rs.length : Int) + 1 - -1).toNat ≤ rs.length + 2
      omega
    · rintro i σ J x J' hi ⟨s1, v4, v5, rfl⟩ ⟨rfl, rfl⟩
      walk_at "go"
      refine for_gen (n := rs.length + 2) (fun k σ J => Same H J ∧ ∃ v5, σ = [some (.ref n), some (.ref t), some (.ref L), some (.int (rs.length : Int)), some (.int (-1 + (i : Int))), v5]) ⟨s1, _, rfl⟩ ?_ ?_ ?_ ?_
      · intro k σ J hk _
        show k < ((rs.length : Int) + 1 - -1).toNat
        omega
      · intro σ J _
        show ((rs.length : Int) + 1 - -1).toNat ≤ rs.length + 2
        omega
      · rintro k σ J x J' hk ⟨s2, v5, rfl⟩ ⟨rfl, rfl⟩
        walk_at "go"
        refine ⟨n, rs, prs, _, _, rfl, hcA.mono s2, rg, lr, fun l1 H1 x1 s3 hx1 e1 => ?_⟩
        walk_at "go"
        have s23 := s2.trans s3
        refine ⟨t, L, _, _, rs, prs, cs, cl, W, R, rfl, ht.mono s23, hc.mono s23, rg, lr, fun l2 H2 x2 s4 hx2 e2 => ?_⟩
        obtain rfl := hx1.uniq hx2
        refine ⟨_, _, dp_rep (s4 _ _ e1), dp_rep e2, shaped_rep _ _, shaped_rep _ _, ?_⟩
        rw [eqv_same (shaped_rep _ _)]
        walk_at "go"
        exact ⟨s23.trans s4, _, rfl⟩
      · rintro σ J ⟨s2, v5, rfl⟩
        exact ⟨s2, _, _, rfl⟩
    · rintro σ J ⟨s2, v4, v5, rfl⟩
      walk_at "go"
      exact q _ s2
end
end Z
set_option pp.maxSteps 700
set_option Elab.async false
set_option linter.all false
set_option maxRecDepth 100000
set_option maxHeartbeats 4000000
namespace Z
open Ru
open PySem PySem.Spec PyProof.Rows L2
open C8 (pss_cut tCut)
local macro_rules | `(tactic| walk_at "num") => `(tactic| first | rfl | omega | decide | exact Nat.le_of_lt (small1000 (by simp)) | exact ⟨by omega, by omega⟩ | exact ⟨by omega, by omega, by omega⟩ | exact ⟨by decide, by decide, by decide⟩ | exact Or.inl ⟨by omega, by omega⟩ | exact Or.inr ⟨by omega, by omega⟩)
local macro_rules | `(tactic| walk_at "go") => `(tactic| repeat (first | refine ⟨_, rfl, ?_⟩ | refine ⟨_, _, rfl, rfl, ?_⟩ | refine ⟨_, _, rfl, ?_⟩ | (refine ⟨_, _, rfl, rfl, ?_, ?_⟩; focus walk_at "num") | refine Or.inl ⟨_, rfl, ?_⟩ | refine ⟨_, _, _, _, rfl, rfl, (by assumption), (by rfl), ?_⟩ | refine ⟨_, _, _, _, _, rfl, (by assumption), (by assumption), (by assumption), (by rfl), ?_⟩ | refine ⟨rfl, ?_⟩ | (refine And.intro ?_ ?_; focus walk_at "num")))
abbrev s_dispute : Stmt := topS 21
abbrev N_dispute : List Str := ["_law_case", "_law_told", "_law_counting_here", "_law_paper", "_law_draws_here", "_law_at", "_law_turn", "_law_answer", "_law_reply_here"]
abbrev P_dispute : List Str := ["_law_case", "_law_told", "_law_counting_here", "_law_paper", "_law_draws_here"]
theorem sc_dispute : FnScope N_dispute P_dispute (defScope s_dispute) := ⟨rfl, rfl, rfl, by decide +kernel, rfl, by decide +kernel, by decide +kernel⟩
theorem at_in {l : List Int} {z : Int} (h0 : 0 ≤ z) (h1 : z < (l.length : Int)) : ∃ x, x ∈ l ∧ atI (l.map V.int) z = some (.int x) := by
  obtain ⟨j, rfl⟩ := Int.eq_ofNat_of_zero_le h0
  have hj : j < l.length := by omega
  exact ⟨l[j], List.getElem_mem hj, at_of (j := j) rfl (by rw [List.getElem?_map, List.getElem?_eq_getElem hj]; rfl)⟩
section
variable {P : Program} {w : World} {K : PySem.W.Frag} {mg : Str → Option Value} {base : Heap} {f C CB CU CN CH : Addr} {fd : FuncData}
def spDisp (C : Addr) (K : PySem.W.Frag) : Sp := fun vs H Q _ => ∃ n t L d rs prs cs cl W R, ∃ (ds : List Int) (pn r : Nat), vs = [.ref n, .ref t, .ref L, .int (pn : Int), .ref d] ∧ CaseA C K H n rs prs ∧ Told H t (Rz rs prs) rs.length W R ∧ CLs H L rs prs cs cl ∧ Rg rs prs ∧ rs.length ≤ 19 ∧ SqL K H d (ds.map V.int) ∧ 20 ≤ ds.length ∧ pn < rs.length ∧ Rz rs prs pn = some (true, r) ∧ ∀ H', Same H H' → Q (.bl true) H'
theorem ok_dispute (F : FnP K "_law_dispute" s_dispute f fd) (m_len : mg "len" = none) (m_range : mg "range" = none) (m_int : mg "int" = none) (me_reply : MetX P w K mg base 4 C "reply" (spReply C CB CU CN K)) : FnOk P w K mg base CX0 6 f fd P_dispute (spDisp C K) := by
  refine F.ok sc_dispute (fun vs H Q E h => ?_) (fun cdv A outer s H vs Q E hr h => ?_)
  · obtain ⟨n, t, L, d, rs, prs, cs, cl, W, R, ds, pn, r, rfl, _⟩ := h
    rfl
  · obtain ⟨n, t, L, d, rs, prs, cs, cl, W, R, ds, pn, r, rfl, hcA, ht, hc, rg, lr, hd, ld, lp, er, q⟩ := h
    refine ⟨_, PSs.nox (pss_cons (ps_set (i := 5) sc_dispute.nd rfl (by first | exact .inl rfl | exact .inr rfl) (pv 3))
      (pss_cons (ps_for PassesOwn.never rfl (pi_range1 (by rfl) m_range (pa_cons pe_int pa_nil)) (pg_name (i := 6) sc_dispute.nd rfl (by first | exact .inl rfl | exact .inr rfl))
        (pss_cons (ps_if (pt_cmpR op_eq (pe_callB call_len_seq (by rfl) m_len PySem.boot_len (pa_cons (pe_ix ix_list (pv 2) (pv 5) (fun _ _ => rfl)) pa_nil)) pe_int (nomark _)) (pss_one (ps_ret pe_bl)) pss_nil)
      (pss_cons (ps_set (i := 7) sc_dispute.nd rfl (by first | exact .inl rfl | exact .inr rfl) (pe_ix ix_list (pe_ix ix_list (pv 2) (pv 5) (fun _ _ => rfl)) (pe_op op_mod (pe_callTy call_int1 (by rfl) m_int (by decide +kernel) (pa_cons (pe_ix ix_list (pv 4) (pv 6) (fun _ _ => rfl)) pa_nil)) (pe_callB call_len_seq (by rfl) m_len PySem.boot_len (pa_cons (pe_ix ix_list (pv 2) (pv 5) (fun _ _ => rfl)) pa_nil))) (fun _ _ => rfl)))
      (pss_cons (ps_set (i := 8) sc_dispute.nd rfl (by first | exact .inl rfl | exact .inr rfl) (pe_meE me_reply (pv 0) (fun _ => passS0) hr (by decide) (pa_cons (pv 5) (pa_cons (pv 7) pa_nil))))
      (pss_cons (ps_if (PW.pt (pw_or (pt_cmpR op_notIn_seq (pv 8) (pe_ix ix_list (pv 2) (pv 7) (fun _ _ => rfl)) (by rfl)) (pw_or (pt_cmpR op_ne (pe_ix ix_list (pe_ix ix_list (pv 1) pe_int (fun _ _ => rfl)) (pv 8) (fun _ _ => rfl)) pe_str (nomark _)) (pw_or1 (pt_cmpR op_ge (pe_ix ix_list (pe_ix ix_list (pv 1) pe_int (fun _ _ => rfl)) (pv 8) (fun _ _ => rfl)) (pe_ix ix_list (pe_ix ix_list (pv 1) pe_int (fun _ _ => rfl)) (pv 5) (fun _ _ => rfl)) (nomark _)))))) (pss_one (ps_ret pe_bl)) pss_nil)
      (pss_one (ps_set (i := 5) sc_dispute.nd rfl (by first | exact .inl rfl | exact .inr rfl) (pv 8))))))))
      (pss_one (ps_ret pe_bl)))), ?_⟩
    walk_at "go"
    refine for_gen (n := 20) (fun k σ J => Same H J ∧ ∃ (an ra : Nat) (v6 v7 v8 : Option V), an < rs.length ∧ Rz rs prs an = some (true, ra) ∧ ra + k ≤ 19 ∧ σ = [some (.ref n), some (.ref t), some (.ref L), some (.int (pn : Int)), some (.ref d), some (.int (an : Int)), v6, v7, v8]) ⟨Same.refl _, pn, r, _, _, _, lp, er, by have := up_le er; omega, rfl⟩ ?_ ?_ ?_ ?_
    · intro k σ J hk _
      show k < (20 : Int).toNat
      exact hk
    · intro σ J _
      show (20 : Int).toNat ≤ 20
      exact Nat.le_refl _
    rotate_left
    · rintro σ J ⟨s1, an, ra, v6, v7, v8, la, ea, lk, rfl⟩
      omega
    rintro k σ J x J' hk ⟨s1, an, ra, v6, v7, v8, la, ea, lk, rfl⟩ ⟨rfl, rfl⟩
    have hc1 := hc.mono s1
    have ht1 := ht.mono s1
    have hcA1 := hcA.mono s1
    have hd1 := s1.seq hd
    obtain ⟨dx, tr, ta, ps, L', cs', cl', tR, tW, m, hc'⟩ := hcA1
    have hn := hc'.ob
    have hcA1 : CaseA C K J' n rs prs := ⟨dx, tr, ta, ps, L', cs', cl', tR, tW, m, hc'⟩
    obtain ⟨c1, l1, e1, e2, e3⟩ := ca_get hc1.lc hc1.ok.len hc1.ca la
    obtain ⟨hcz, hrg⟩ := hc1.ok.at_ rg e2
    walk_at "go"
    refine ⟨L, _, _, _, rfl, rfl, SqL.of hc1.cn, at_ref e1 rfl, ?_⟩
    refine ⟨c1, _, rfl, .inl (SqL.of e3), ?_⟩
    rw [List.length_map]
    walk_at "go"
    refine ite2 (fun e => ?_) (fun e => ?_)
    · walk_at "go"
      exact q _ s1
    have l0 : 0 < l1.length := by
      rcases Nat.eq_zero_or_pos l1.length with z | z
      · rw [z] at e
        exact absurd (by decide) e
      · exact z
    clear e
    walk_at "go"
    refine ⟨L, _, _, _, rfl, rfl, SqL.of hc1.cn, at_ref e1 rfl, ?_⟩
    obtain ⟨z, hz, ez⟩ := at_in (l := ds) (z := 0 + (k : Int)) (by omega) (by omega)
    walk_at "go"
    refine ⟨d, _, _, _, rfl, rfl, hd1, ez, ?_⟩
    walk_at "go"
    refine ⟨L, _, _, _, rfl, rfl, SqL.of hc1.cn, at_ref e1 rfl, ?_⟩
    refine ⟨c1, _, rfl, .inl (SqL.of e3), ?_⟩
    rw [List.length_map]
    walk_at "go"
    obtain ⟨a1, ha1, ea1⟩ := at_in (l := l1) (Int.emod_nonneg z (show (l1.length : Int) ≠ 0 by omega)) (Int.emod_lt_of_pos z (show 0 < (l1.length : Int) by omega))
    refine ⟨c1, _, _, _, rfl, rfl, SqL.of e3, ea1, ?_⟩
    obtain ⟨a1n, rfl⟩ := Int.eq_ofNat_of_zero_le (hrg a1 ha1).1
    have ain : a1n ∈ Cz rs prs an := (hcz a1n).mpr ha1
    have la1 := cz_lt ain
    walk_at "go"
    have ip : InN rs.length (an : Int) := ⟨by omega, by omega⟩
    have ia : InN rs.length (a1n : Int) := ⟨by omega, by omega⟩
    refine ⟨n, dx, _, rfl, hn, rfl, ?_⟩
    walk_at "go"
    refine ⟨n, rs, prs, _, _, rfl, hcA1, rg, by omega, fun u H1 hu s2 => ?_, fun x d hx nd => ?_, fun x d hx nd => ?_, fun x d hx nd => ?_⟩
    rotate_left
    · cases hx with
      | paper1 h => exact absurd ip h
      | paper2 h h2 => exact absurd ia h2
    · cases hx with
      | notup h h2 h3 => exact absurd ea (h3 ra)
    · cases hx with
      | noans r' h h2 h3 h4 => exact absurd ain h4
    cases hu with
    | ok r' qn tq u1 u2 u3 u4 u5 u6 u7 =>
    have u3 : Rz rs prs an = some (true, r') := u3
    have u5 : qn ∈ Cz rs prs a1n := u5
    have u7 : ∀ q' ∈ Cz rs prs a1n, ∀ u, Rz rs prs q' = some (true, u) → tq < u ∨ (tq = u ∧ qn ≤ q') := u7
    have hc2 := hc1.mono s2
    have ht2 := ht1.mono s2
    obtain ⟨c2, l2, f1, f2, f3⟩ := ca_get hc2.lc hc2.ok.len hc2.ca la1
    obtain ⟨hcz2, hrg2⟩ := hc2.ok.at_ rg f2
    have lq := cz_lt u5
    walk_at "go"
    refine ⟨L, _, _, _, rfl, rfl, SqL.of hc2.cn, at_ref f1 rfl, ?_⟩
    refine ⟨c2, _, rfl, .inl (SqL.of f3), rfl, all_flat _, ?_⟩
    rw [inV_ints, decide_eq_true ((hcz2 qn).mp u5)]
    walk_at "go"
    refine ⟨t, _, _, _, rfl, rfl, SqL.of ht2.t, at_0, ?_⟩
    walk_at "go"
    refine ⟨W, _, _, _, rfl, rfl, SqL.of ht2.w, at_vls (by omega) (by omega), ?_⟩
    refine ⟨wV_scal _ _, ?_⟩
    rw [(wV_up (Rz rs prs (qn : Int).toNat)).mpr ⟨tq, u6⟩]
    walk_at "go"
    refine ⟨t, _, _, _, rfl, rfl, SqL.of ht2.t, at_1, ?_⟩
    walk_at "go"
    refine ⟨R, _, _, _, rfl, rfl, SqL.of ht2.r, at_vls (by omega) (by omega), ?_⟩
    walk_at "go"
    refine ⟨t, _, _, _, rfl, rfl, SqL.of ht2.t, at_1, ?_⟩
    walk_at "go"
    refine ⟨R, _, _, _, rfl, rfl, SqL.of ht2.r, at_vls (by omega) (by omega), ?_⟩
    rw [Int.toNat_natCast, Int.toNat_natCast, u6, ea]
    have lt : tq < ra := by
      obtain ⟨tt, h1, _, ⟨q0, hq0, eq0⟩, _⟩ := reply_ok ea ain
      have := u7 q0 hq0 tt eq0
      omega
    walk_at "go"
    refine ite2 (fun e => ?_) (fun _ => ?_)
    · have e : (ra : Int) ≤ (tq : Int) := of_decide_eq_true e
      omega
    walk_at "go"
    exact ⟨s1.trans s2, qn, tq, _, _, _, lq, u6, by omega, rfl⟩
end
end Z
set_option pp.maxSteps 700
set_option Elab.async false
set_option linter.all false
set_option maxRecDepth 100000
set_option maxHeartbeats 4000000
namespace Z
open Ru
open PySem PySem.Spec PyProof.Rows L2
open C8 (pss_cut tCut)
local macro_rules | `(tactic| walk_at "num") => `(tactic| first | rfl | omega | decide | exact Nat.le_of_lt (small1000 (by simp)) | exact ⟨by omega, by omega⟩ | exact ⟨by omega, by omega, by omega⟩ | exact ⟨by decide, by decide, by decide⟩ | exact Or.inl ⟨by omega, by omega⟩ | exact Or.inr ⟨by omega, by omega⟩)
local macro_rules | `(tactic| walk_at "go") => `(tactic| repeat (first | refine ⟨_, rfl, ?_⟩ | refine ⟨_, _, rfl, rfl, ?_⟩ | refine ⟨_, _, rfl, ?_⟩ | (refine ⟨_, _, rfl, rfl, ?_, ?_⟩; focus walk_at "num") | refine Or.inl ⟨_, rfl, ?_⟩ | refine ⟨_, _, _, _, rfl, rfl, (by assumption), (by rfl), ?_⟩ | refine ⟨_, _, _, _, _, rfl, (by assumption), (by assumption), (by assumption), (by rfl), ?_⟩ | refine ⟨rfl, ?_⟩ | (refine And.intro ?_ ?_; focus walk_at "num")))
abbrev s_reached : Stmt := topS 22
abbrev N_reached : List Str := ["_law_counting_here", "_law_start", "_law_reached_here", "_law_turn", "_law_paper", "_law_one"]
abbrev P_reached : List Str := ["_law_counting_here", "_law_start"]
theorem sc_reached : FnScope N_reached P_reached (defScope s_reached) := ⟨rfl, rfl, rfl, by decide +kernel, rfl, by decide +kernel, by decide +kernel⟩
/-- papers that are not reached have no counting answer that is -/
def Closed (rs : List Int) (prs : List (Int × Int)) (ls : List Int) : Prop := ∀ p : Nat, p < rs.length → (p : Int) ∉ ls → ∀ q ∈ Cz rs prs p, (q : Int) ∉ ls
theorem any_in (l ls : List Int) : (l.map fun x => decide (x ∈ ls)).any id = true ↔ ∃ x ∈ l, x ∈ ls := by
  rw [List.any_map, List.any_eq_true]
  exact ⟨fun ⟨x, h1, h2⟩ => ⟨x, h1, of_decide_eq_true h2⟩, fun ⟨x, h1, h2⟩ => ⟨x, h1, decide_eq_true h2⟩⟩
section
variable {P : Program} {w : World} {K : PySem.W.Frag} {mg : Str → Option Value} {base : Heap} {f C CB CU CN CH : Addr} {fd : FuncData}
def spReached (K : PySem.W.Frag) : Sp := fun vs H Q _ => ∃ L rs prs cs cl, ∃ pn : Nat, vs = [.ref L, .int (pn : Int)] ∧ CLs H L rs prs cs cl ∧ Rg rs prs ∧ rs.length ≤ 1000 ∧ pn < rs.length ∧ ∀ D H' (ls : List Int), Same H H' → H' D = some (.lst (ls.map V.int)) → (pn : Int) ∈ ls → Closed rs prs ls → Q (.ref D) H'
theorem ok_reached (F : FnP K "_law_reached" s_reached f fd) (m_len : mg "len" = none) (m_range : mg "range" = none) (m_any : mg "any" = none) : FnOk P w K mg base CX0 1 f fd P_reached (spReached K) := by
  refine F.ok sc_reached (fun vs H Q E h => ?_) (fun cdv A outer s H vs Q E hr h => ?_)
  · obtain ⟨L, rs, prs, cs, cl, pn, rfl, _⟩ := h
    rfl
  · obtain ⟨L, rs, prs, cs, cl, pn, rfl, hc, rg, lr, lp, q⟩ := h
    refine ⟨_, PSs.nox (pss_cons (ps_set (i := 2) sc_reached.nd rfl (by first | exact .inl rfl | exact .inr rfl) (pe_lst (pa_cons (pv 1) pa_nil)))
      (pss_cons (ps_for PassesOwn.never rfl (pi_range1 (by rfl) m_range (pa_cons (pe_callB call_len_seq (by rfl) m_len PySem.boot_len (pa_cons (pv 0) pa_nil)) pa_nil)) (pg_name (i := 3) sc_reached.nd rfl (by first | exact .inl rfl | exact .inr rfl))
        (pss_one (ps_for PassesOwn.never rfl (pi_range1 (by rfl) m_range (pa_cons (pe_callB call_len_seq (by rfl) m_len PySem.boot_len (pa_cons (pv 0) pa_nil)) pa_nil)) (pg_name (i := 4) sc_reached.nd rfl (by first | exact .inl rfl | exact .inr rfl))
        (pss_one (ps_if (PW.pt (pw_and (pt_cmpR op_notIn_seq (pv 4) (pv 2) (by rfl)) (pw_and1 (pt_val (pe_callB (cr_any rfl) (by rfl) m_any (by decide +kernel) (pa_cons (pe_lc (own := [("_law_one", 5)]) (g := (gName 5)) (tt := tYes) (by rfl) sc_reached.nd (pi_list (pe_ix ix_list (pv 0) (pv 4) (fun _ _ => rfl))) (blkOk_by (own := [("_law_one", 5)]) (N := N_reached) (sc := defScope s_reached) (by decide +kernel)) (fun _ _ _ _ _ => (pg_name (i := 5) sc_reached.nd rfl (by first | exact .inl rfl | exact .inr rfl))) (fun _ _ _ _ _ => pts_nil) (fun _ _ _ _ _ => (pe_cmpR (op_in_seq_K (K := K) rfl) (pv 5) (pv 2) (by rfl)))) pa_nil)))))) (pss_one (ps_expr (pe_bm PySem.F.plainAttrs_list PySem.F.slot_list_append PySem.F.type_list_append mt_append (pv 2) (pa_cons (pv 4) pa_nil)))) pss_nil)))))
      (pss_one (ps_ret (pv 2))))), ?_⟩
    have llc := hc.lc
    walk_at "go"
    intro D nD
    have s0 := same_new (o := .lst [.int (pn : Int)]) nD
    have eD : (upd H D (.lst [.int (pn : Int)])) D = some (.lst (([(pn : Int)] : List Int).map V.int)) := upd_same
    generalize upd H D (.lst [.int (pn : Int)]) = H0 at s0 eD
    have hc0 := hc.mono s0
    walk_at "go"
    refine ⟨L, _, rfl, .inl (SqL.of hc0.cn), ?_⟩
    rw [List.length_map, llc]
    walk_at "go"
    refine for_gen (n := rs.length) (fun i σ J => Same H J ∧ (∃ ls : List Int, J D = some (.lst (ls.map V.int)) ∧ (pn : Int) ∈ ls ∧ ls.Nodup ∧ (∀ x ∈ ls, 0 ≤ x ∧ x < (rs.length : Int)) ∧ (Closed rs prs ls ∨ i + 1 ≤ ls.length)) ∧ ∃ v3 v4 v5, σ = [some (.ref L), some (.int (pn : Int)), some (.ref D), v3, v4, v5]) ⟨s0, ⟨[(pn : Int)], eD, List.mem_cons_self, by simp, fun x hx => by rw [List.mem_singleton.mp hx]; omega, .inr (Nat.le_refl _)⟩, _, _, _, rfl⟩ ?_ ?_ ?_ ?_
    · intro k σ J hk _
      show k < ((rs.length : Int)).toNat
      omega
    · intro σ J _
      show ((rs.length : Int)).toNat ≤ rs.length
      omega
    rotate_left
    · rintro σ J ⟨s1, ⟨ls, eL, hp, nd, hr', hcl⟩, v3, v4, v5, rfl⟩
      walk_at "go"
      refine q D J ls s1 eL hp (hcl.elim id fun h => ?_)
      have := nodup_len nd hr'
      omega
    rintro i σ J x J' hi ⟨s1, ⟨ls0, eL0, hp0, nd0, hr0, hcl0⟩, v3, v4, v5, rfl⟩ ⟨rfl, rfl⟩
    have hc1 := hc.mono s1
    walk_at "go"
    refine ⟨L, _, rfl, .inl (SqL.of hc1.cn), ?_⟩
    rw [List.length_map, llc]
    walk_at "go"
    refine for_gen (n := rs.length) (fun k σ J => Same H J ∧ (∃ ls : List Int, J D = some (.lst (ls.map V.int)) ∧ (pn : Int) ∈ ls ∧ ls.Nodup ∧ (∀ x ∈ ls, 0 ≤ x ∧ x < (rs.length : Int)) ∧ ((ls0.length < ls.length ∧ ¬ Closed rs prs ls0) ∨ (ls = ls0 ∧ ∀ p : Nat, p < k → (p : Int) ∉ ls → ∀ q ∈ Cz rs prs p, (q : Int) ∉ ls))) ∧ ∃ v3 v4 v5, σ = [some (.ref L), some (.int (pn : Int)), some (.ref D), v3, v4, v5]) ⟨s1, ⟨ls0, eL0, hp0, nd0, hr0, .inr ⟨rfl, fun p h => by omega⟩⟩, _, _, _, rfl⟩ ?_ ?_ ?_ ?_
    · intro k σ J hk _
      show k < ((rs.length : Int)).toNat
      omega
    · intro σ J _
      show ((rs.length : Int)).toNat ≤ rs.length
      omega
    rotate_left
    · rintro σ J ⟨s2, ⟨ls, eL, hp, nd, hr', hcl⟩, v3, v4, v5, rfl⟩
      refine ⟨s2, ⟨ls, eL, hp, nd, hr', ?_⟩, _, _, _, rfl⟩
      rcases hcl with ⟨h1, h2⟩ | ⟨rfl, h2⟩
      · have := hcl0.resolve_left h2
        exact .inr (by omega)
      · exact .inl h2
    rintro k σ J x J' hk ⟨s2, ⟨ls, eL, hp, nd, hr', hcl⟩, v3, v4, v5, rfl⟩ ⟨rfl, rfl⟩
    rw [Int.zero_add]
    have hc2 := hc.mono s2
    obtain ⟨c1, l1, e1, e2, e3⟩ := ca_get hc2.lc hc2.ok.len hc2.ca hk
    obtain ⟨hcz, hrg⟩ := hc2.ok.at_ rg e2
    have ll1 : l1.length ≤ 1000 := by
      have := nodup_len (hc2.ok.nod k l1 e2) hrg
      omega
    walk_at "go"
    refine ⟨D, _, rfl, .inl (SqL.of eL), rfl, all_flat _, ?_⟩
    rw [inV_ints]
    have memB : ∀ x : Int, x ∈ ls ∨ x ∉ ls := fun x => Classical.em _
    by_cases kin : (k : Int) ∈ ls
    · rw [decide_eq_true kin]
      walk_at "go"
      refine ⟨⟨ls, eL, hp, nd, hr', hcl.imp id fun h => ⟨h.1, fun p hp' hn => ?_⟩⟩, _, _, _, rfl⟩
      by_cases c : p = k
      · subst c
        exact absurd kin hn
      · exact h.2 p (by omega) hn
    rw [decide_eq_false kin]
    walk_at "go"
    refine ⟨L, _, _, _, rfl, rfl, SqL.of hc2.cn, at_ref e1 rfl, ?_⟩
    walk_at "go"
    refine ⟨⟨_, SqL.of e3⟩, fun B nB => ?_⟩
    refine lc_lstV (SqL.of e3) (fun x => .bl (decide (x ∈ ls))) (by omega) nB (fun _ => rfl) ?_ ?_
    · intro x J3 Q1 hx s3 q1
      walk_at "go"
      refine ⟨D, _, rfl, .inl (SqL.of (s3 _ _ eL)), rfl, all_flat _, ?_⟩
      rw [inV_ints]
      exact q1 _ (Same.refl _)
    intro J3 s3 eB
    have eL3 := s3 _ _ eL
    have sm3 := s2.trans s3
    rw [show (l1.map fun x => V.bl (decide (x ∈ ls))) = (l1.map fun x => decide (x ∈ ls)).map V.bl by rw [List.map_map]; rfl] at eB
    walk_at "go"
    refine ⟨B, _, rfl, SqL.of eB, _, rfl, ?_⟩
    have ai := any_in l1 ls
    cases e4 : (l1.map fun x => decide (x ∈ ls)).any id
    · refine ite2 (fun e2 => absurd e2 (by simp)) (fun _ => ?_)
      refine ⟨sm3, ⟨ls, eL3, hp, nd, hr', hcl.imp id fun h => ⟨h.1, fun p hp' hn q hq => ?_⟩⟩, _, _, _, rfl⟩
      by_cases c : p = k
      · subst c
        intro z
        rw [ai.mpr ⟨_, (hcz q).mp hq, z⟩] at e4
        cases e4
      · exact h.2 p (by omega) hn q hq
    · refine ite2 (fun _ => ?_) (fun e2 => absurd rfl e2)
      obtain ⟨y, hy1, hy2⟩ := ai.mp e4
      have yr := hrg y hy1
      obtain ⟨yn, rfl⟩ := Int.eq_ofNat_of_zero_le yr.1
      have lls := nodup_len nd hr'
      walk_at "go"
      refine ⟨.inl ⟨rfl, _, SqL.of eL3⟩, ?_⟩
      walk_at "go"
      refine ⟨_, _, _, rfl, rfl, eL3, by rw [List.length_map]; exact Nat.lt_of_lt_of_le (show ls.length < 2000 by omega) (by decide), ?_⟩
      refine ⟨Z.Same.mut sm3 nD, ⟨ls ++ [(k : Int)], by rw [upd_same, List.map_append]; rfl, List.mem_append_left _ hp, ?_, ?_, .inl ?_⟩, _, _, _, rfl⟩
      · exact List.nodup_append.mpr ⟨nd, by simp, fun a ha b hb e => kin (by rw [List.mem_singleton.mp hb] at e; exact e ▸ ha)⟩
      · intro x hx
        rcases List.mem_append.mp hx with h | h
        · exact hr' x h
        · rw [List.mem_singleton.mp h]
          omega
      · rw [List.length_append, List.length_singleton]
        rcases hcl with ⟨h1, h2⟩ | ⟨rfl, h2⟩
        · exact ⟨by omega, h2⟩
        · exact ⟨by omega, fun z => z k hk kin yn ((hcz yn).mpr hy1) hy2⟩
end
end Z
set_option pp.maxSteps 700
set_option Elab.async false
set_option linter.all false
set_option maxRecDepth 100000
set_option maxHeartbeats 4000000
namespace Z
open Ru
open PySem PySem.Spec PyProof.Rows L2
open C8 (pss_cut tCut)
local macro_rules | `(tactic| walk_at "num") => `(tactic| first | rfl | omega | decide | exact Nat.le_of_lt (small1000 (by simp)) | exact ⟨by omega, by omega⟩ | exact ⟨by omega, by omega, by omega⟩ | exact ⟨by decide, by decide, by decide⟩ | exact Or.inl ⟨by omega, by omega⟩ | exact Or.inr ⟨by omega, by omega⟩)
local macro_rules | `(tactic| walk_at "go") => `(tactic| repeat (first | refine ⟨_, rfl, ?_⟩ | refine ⟨_, _, rfl, rfl, ?_⟩ | refine ⟨_, _, rfl, ?_⟩ | (refine ⟨_, _, rfl, rfl, ?_, ?_⟩; focus walk_at "num") | refine Or.inl ⟨_, rfl, ?_⟩ | refine ⟨_, _, _, _, rfl, rfl, (by assumption), (by rfl), ?_⟩ | refine ⟨_, _, _, _, _, rfl, (by assumption), (by assumption), (by assumption), (by rfl), ?_⟩ | refine ⟨rfl, ?_⟩ | (refine And.intro ?_ ?_; focus walk_at "num")))
abbrev s_refuses : Stmt := topS 23
abbrev N_refuses : List Str := ["_law_case", "_law_rank", "_law_answering", "_law_answered_by", "_law_due_here", "e"]
abbrev P_refuses : List Str := ["_law_case", "_law_rank", "_law_answering", "_law_answered_by", "_law_due_here"]
theorem sc_refuses : FnScope N_refuses P_refuses (defScope s_refuses) := ⟨rfl, rfl, rfl, by decide +kernel, rfl, by decide +kernel, by decide +kernel⟩
abbrev s_faults : Stmt := topS 24
abbrev N_faults : List Str := ["_law_case", "_law_rank", "_law_answering", "_law_answered_by", "_law_draws_here", "_law_many", "_law_strange", "_law_one", "_law_other", "_law_number"]
abbrev P_faults : List Str := ["_law_case", "_law_rank", "_law_answering", "_law_answered_by", "_law_draws_here"]
theorem sc_faults : FnScope N_faults P_faults (defScope s_faults) := ⟨rfl, rfl, rfl, by decide +kernel, rfl, by decide +kernel, by decide +kernel⟩
section
variable {P : Program} {w : World} {K : PySem.W.Frag} {mg : Str → Option Value} {base : Heap} {f C CB CU CN CH : Addr} {fd : FuncData}
def spLRef (C : Addr) (K : PySem.W.Frag) : Sp := fun vs H Q _ => ∃ n rs prs x r1 r2 xs ys due, vs = [.ref n, .int x, .ref r1, .ref r2, .int due] ∧ CaseA C K H n rs prs ∧ Rg rs prs ∧ rs.length ≤ 900 ∧ prs.length ≤ 900 ∧ H r1 = some (.lst (xs.map V.int)) ∧ H r2 = some (.lst (ys.map V.int)) ∧ xs.length ≤ 20 ∧ ys.length ≤ 20 ∧ fBad (rs.length + 1) (xs ++ ys) = some due ∧ ∀ H', Same H H' → Q (.bl true) H'
theorem ok_refuses (F : FnP K "_law_refuses" s_refuses f fd) (m_isinstance : mg "isinstance" = none) (g_BadPaper : mg "BadPaper" = some (.ref CB)) (g_HouseError : mg "HouseError" = some (.ref CH)) (xf_BadPaper : XfC K CB) (no_BadPaper_number : PySem.W.findIn K (.ref CB) "number" = some none) (ecB : ExcC K CB) (teBB : PySem.W.exmOne K (.ref CB) (.ref CB) = some true) (kBH : PySem.W.kitOne K (.ref CB) (.ref CH) = some true) (me_with_paper : MetX P w K mg base 6 C "with_paper" (spWith C CB K)) : FnOk P w K mg base CX0 8 f fd P_refuses (spLRef C K) := by
  refine F.ok sc_refuses (fun vs H Q E h => ?_) (fun cdv A outer s H vs Q E hr h => ?_)
  · obtain ⟨n, rs, prs, x, r1, r2, xs, ys, due, rfl, _⟩ := h
    rfl
  · obtain ⟨n, rs, prs, x, r1, r2, xs, ys, due, rfl, hc, rg, lr, lps, h1, h2, lx, ly, hb, q⟩ := h
    obtain ⟨dx, tr, ta, ps, L, cs, cl, tR, tW, m, hc'⟩ := hc
    have hn := hc'.ob
    refine ⟨_, PSs.nox (pss_cons (L2N.ps_try_as (i := 5) rfl rfl sc_refuses.nd rfl rfl ⟨rfl, rfl, .inl g_BadPaper⟩ takes0N (fun W pn xe tk po => (pss_one (ps_expr (pe_meE me_with_paper (pv 0) (fun σ => L2N.passAt tk σ) hr (by decide) (pa_cons (pv 1) (pa_cons (pv 2) (pa_cons (pv 3) pa_nil)))))))
      (fun ex oe cls d pn hzn hf => (pss_one (ps_ret (pe_and (pe_callB (call_isX hzn.zc hf) (by rfl) m_isinstance (by decide +kernel) (pa_cons (pv 5) (pa_cons (pe_glob (by rfl) g_HouseError relv_ref) pa_nil))) (pe_one (pe_cmpR op_eq (pe_xf xf_BadPaper no_BadPaper_number hzn.zc hf (pv 5)) (pv 4) (nomark _))))))))
      (pss_one (ps_ret pe_bl))), ?_⟩
    walk_at "go"
    refine ⟨n, dx, _, rfl, hn, rfl, ?_⟩
    walk_at "go"
    refine ⟨n, rs, prs, x, r1, r2, xs, ys, rfl, ⟨dx, tr, ta, ps, L, cs, cl, tR, tW, m, hc'⟩, rg, lr, lps, h1, h2, lx, ly, (fun e => by rw [hb] at e; cases e), fun z d H' e s1 nd => ?_⟩
    rw [hb] at e
    cases e
    refine ⟨true, teBB, fun _ a' na => ?_, (fun z => by cases z)⟩
    walk_at "go"
    refine ⟨CB, d, _, .ref CH, .ref CH, true, rfl, rfl, ecB, upd_same, rfl, (fun u z => by cases z; rfl), kBH, ?_⟩
    walk_at "go"
    refine ⟨d, _, _, rfl, upd_same, rfl, ?_⟩
    walk_at "go"
    rw [decide_eq_true rfl]
    exact q _ (s1.trans (same_new nd))
def spLFaults (C : Addr) (K : PySem.W.Frag) : Sp := fun vs H Q _ => ∃ n rs prs x r1 r2 d, ∃ (xs ys ds : List Int), vs = [.ref n, .int x, .ref r1, .ref r2, .ref d] ∧ CaseA C K H n rs prs ∧ Rg rs prs ∧ rs.length ≤ 900 ∧ prs.length ≤ 900 ∧ H r1 = some (.lst (xs.map V.int)) ∧ H r2 = some (.lst (ys.map V.int)) ∧ xs.length ≤ 10 ∧ ys.length ≤ 10 ∧ SqL K H d (ds.map V.int) ∧ 5 ≤ ds.length ∧ ∀ H', Same H H' → Q (.bl true) H'
/-- a list with one number put in -/
theorem put_bad {n : Nat} {xs : List Int} {j : Nat} {b : Int} (h : isP n b = false) : ∃ y ∈ xs.take j ++ [b] ++ xs.drop j, isP n y = false := ⟨b, by simp, h⟩
theorem fBad_some {n : Nat} {l : List Int} (h : ∃ y ∈ l, isP n y = false) : fBad n l ≠ none := fun z => by
  obtain ⟨y, hy, e⟩ := h
  have := fBad_none z y hy
  unfold isP at e
  rw [decide_eq_true this] at e
  cases e
theorem ok_faults (F : FnP K "_law_faults" s_faults f fd) (cls : Cls K C) (n_ranks : NoAttr K C "ranks") (m_len : mg "len" = none) (m_int : mg "int" = none) (m_list : mg "list" = none) (c_refuses : Cal P w K mg base 8 "_law_refuses" (spLRef C K)) : FnOk P w K mg base CX0 9 f fd P_faults (spLFaults C K) := by
  refine F.ok sc_faults (fun vs H Q E h => ?_) (fun cdv A outer s H vs Q E hr h => ?_)
  · obtain ⟨n, rs, prs, x, r1, r2, d, xs, ys, ds, rfl, _⟩ := h
    rfl
  · obtain ⟨n, rs, prs, x, r1, r2, d, xs, ys, ds, rfl, hcA, rg, lr, lps, h1, h2, lx, ly, hd, ld, q⟩ := h
    obtain ⟨dx, tr, ta, ps, L, cs, cl, tR, tW, m, hc⟩ := hcA
    have hn := hc.ob
    refine ⟨_, PSs.nox (pss_cons (ps_set (i := 5) sc_faults.nd rfl (by first | exact .inl rfl | exact .inr rfl) (pe_callB call_len_seq (by rfl) m_len PySem.boot_len (pa_cons (pe_fld (pv 0) rfl) pa_nil)))
      (pss_cons (ps_set (i := 6) sc_faults.nd rfl (by first | exact .inl rfl | exact .inr rfl) (pe_lst (pa_cons (pe_op op_add (pv 5) pe_int) (pa_cons (pe_un un_neg pe_int) (pa_cons (pe_op op_sub (pe_op op_sub pe_int (pv 5)) pe_int) (pa_cons (pe_op op_pow pe_int pe_int) (pa_cons (pe_op op_add (pv 5) pe_int) pa_nil)))))))
      (pss_cons (ps_set (i := 7) sc_faults.nd rfl (by first | exact .inl rfl | exact .inr rfl) (pe_callTy call_list_of (by rfl) m_list (by decide +kernel) (pa_cons (pv 2) pa_nil)))
      (pss_cons (ps_set (i := 8) sc_faults.nd rfl (by first | exact .inl rfl | exact .inr rfl) (pe_callTy call_list_of (by rfl) m_list (by decide +kernel) (pa_cons (pv 3) pa_nil)))
      (pss_cut (ps_if (pt_cmpR op_lt (pe_op op_mod (pe_callTy call_int1 (by rfl) m_int (by decide +kernel) (pa_cons (pe_ix ix_list (pv 4) pe_int (fun _ _ => rfl)) pa_nil)) pe_int) pe_int (nomark _)) (pss_one (ps_expr (pe_bm PySem.F.plainAttrs_list PySem.F.slot_list_insert PySem.F.type_list_insert mt_insert (pv 7) (pa_cons (pe_op op_mod (pe_callTy call_int1 (by rfl) m_int (by decide +kernel) (pa_cons (pe_ix ix_list (pv 4) pe_int (fun _ _ => rfl)) pa_nil)) (pe_op op_add (pe_callB call_len_seq (by rfl) m_len PySem.boot_len (pa_cons (pv 7) pa_nil)) pe_int)) (pa_cons (pe_ix ix_list (pv 6) (pe_op op_mod (pe_callTy call_int1 (by rfl) m_int (by decide +kernel) (pa_cons (pe_ix ix_list (pv 4) pe_int (fun _ _ => rfl)) pa_nil)) pe_int) (fun _ _ => rfl)) pa_nil))))) pss_nil)
      (pss_cut (ps_if (pt_cmpR op_gt (pe_op op_mod (pe_callTy call_int1 (by rfl) m_int (by decide +kernel) (pa_cons (pe_ix ix_list (pv 4) pe_int (fun _ _ => rfl)) pa_nil)) pe_int) pe_int (nomark _)) (pss_one (ps_expr (pe_bm PySem.F.plainAttrs_list PySem.F.slot_list_insert PySem.F.type_list_insert mt_insert (pv 8) (pa_cons (pe_op op_mod (pe_callTy call_int1 (by rfl) m_int (by decide +kernel) (pa_cons (pe_ix ix_list (pv 4) pe_int (fun _ _ => rfl)) pa_nil)) (pe_op op_add (pe_callB call_len_seq (by rfl) m_len PySem.boot_len (pa_cons (pv 8) pa_nil)) pe_int)) (pa_cons (pe_ix ix_list (pv 6) (pe_op op_mod (pe_callTy call_int1 (by rfl) m_int (by decide +kernel) (pa_cons (pe_ix ix_list (pv 4) pe_int (fun _ _ => rfl)) pa_nil)) pe_int) (fun _ _ => rfl)) pa_nil))))) pss_nil)
      (pss_cons (ps_for PassesOwn.never rfl (pi_list (pe_op op_cat (pv 7) (pv 8))) (pg_name (i := 9) sc_faults.nd rfl (by first | exact .inl rfl | exact .inr rfl))
        (pss_one (ps_if (PW.pt (pw_or (pt_cmpR op_lt (pv 9) pe_int (nomark _)) (pw_or1 (pt_cmpR op_gt (pv 9) (pv 5) (nomark _))))) (pss_one (ps_ret (pe_cl c_refuses hr (by decide) (by rfl) (pa_cons (pv 0) (pa_cons (pv 1) (pa_cons (pv 7) (pa_cons (pv 8) (pa_cons (pv 9) pa_nil)))))))) pss_nil)))
      (pss_one (ps_ret pe_bl))))))))), ?_⟩
    walk_at "go"
    refine ⟨tr, _, rfl, .inr (SqT.of hc.rk), ?_⟩
    rw [List.length_map]
    walk_at "go"
    intro st nst
    have bl : ∀ x ∈ ([(rs.length : Int) + 1, -1, 0 - (rs.length : Int) - 2, (10 : Int) ^ (20 : Int).toNat, (rs.length : Int) + 2] : List Int), isP (rs.length + 1) x = false := by
      have e : (10 : Int) ^ (20 : Int).toNat = 100000000000000000000 := by decide
      rw [e]
      intro x hx
      simp only [List.mem_cons, List.not_mem_nil, or_false] at hx
      unfold isP
      refine decide_eq_false ?_
      omega
    generalize eH_ : upd H st _ = H1
    have s1 : Same H H1 := by rw [← eH_]; exact same_new nst
    have est : H1 st = some (.lst (([(rs.length : Int) + 1, -1, 0 - (rs.length : Int) - 2, (10 : Int) ^ (20 : Int).toNat, (rs.length : Int) + 2] : List Int).map V.int)) := by rw [← eH_]; exact upd_same
    clear eH_
    obtain ⟨sl, esl⟩ : ∃ sl : List Int, sl = [(rs.length : Int) + 1, -1, 0 - (rs.length : Int) - 2, (10 : Int) ^ (20 : Int).toNat, (rs.length : Int) + 2] := ⟨_, rfl⟩
    rw [← esl] at bl est
    have lsl : sl.length = 5 := by rw [esl]; rfl
    clear esl
    have mm : ∀ z : Int, 0 ≤ z % 5 ∧ z % 5 < sl.length := fun z => by
      rw [lsl]
      exact ⟨Int.emod_nonneg _ (by decide), Int.emod_lt_of_pos _ (by decide)⟩
    obtain ⟨d0, _, i0⟩ := at_in (l := ds) (z := 0) (by omega) (by omega)
    obtain ⟨d1, _, i1⟩ := at_in (l := ds) (z := 1) (by omega) (by omega)
    obtain ⟨d2, _, i2⟩ := at_in (l := ds) (z := 2) (by omega) (by omega)
    obtain ⟨d3, _, i3⟩ := at_in (l := ds) (z := 3) (by omega) (by omega)
    obtain ⟨d4, _, i4⟩ := at_in (l := ds) (z := 4) (by omega) (by omega)
    have h1' := s1 _ _ h1
    have h2' := s1 _ _ h2
    walk_at "go"
    refine ⟨r1, _, rfl, .inl (SqL.of h1'), fun o1 no1 => ?_⟩
    have s2 := s1.trans (same_new (o := .lst (xs.map V.int)) no1)
    have eo1 : (upd H1 o1 (.lst (xs.map V.int))) o1 = some (.lst (xs.map V.int)) := upd_same
    have est2 := (same_new (o := .lst (xs.map V.int)) no1) _ _ est
    have st1 : o1 ≠ st := fun e => by rw [e, est] at no1; cases no1
    have no1H := none_of s1 no1
    generalize upd H1 o1 (.lst (xs.map V.int)) = H2 at s2 eo1 est2
    walk_at "go"
    refine ⟨r2, _, rfl, .inl (SqL.of (s2 _ _ h2)), fun o2 no2 => ?_⟩
    have s3 := s2.trans (same_new (o := .lst (ys.map V.int)) no2)
    have eo2 : (upd H2 o2 (.lst (ys.map V.int))) o2 = some (.lst (ys.map V.int)) := upd_same
    have eo1' := (same_new (o := .lst (ys.map V.int)) no2) _ _ eo1
    have est3 := (same_new (o := .lst (ys.map V.int)) no2) _ _ est2
    have st2 : o2 ≠ st := fun e => by rw [e, est2] at no2; cases no2
    have o12 : o1 ≠ o2 := fun e => by rw [e] at eo1; rw [eo1] at no2; cases no2
    have no2H := none_of s2 no2
    generalize upd H2 o2 (.lst (ys.map V.int)) = H3 at s3 eo2 eo1' est3
    dsimp only [List.set]
    walk_at "go"
    refine ⟨fun σ J => ∃ (xs1 ys1 : List Int), Same H J ∧ J st = some (.lst (sl.map V.int)) ∧ J o1 = some (.lst (xs1.map V.int)) ∧ J o2 = some (.lst (ys1.map V.int)) ∧ xs1.length ≤ 11 ∧ ys1.length ≤ 10 ∧ (d0 % 3 < 2 → ∃ y ∈ xs1, isP (rs.length + 1) y = false) ∧ σ = [some (.ref n), some (.int x), some (.ref r1), some (.ref r2), some (.ref d), some (.int (rs.length : Int)), some (.ref st), some (.ref o1), some (.ref o2), none], ?_, ?_⟩
    · obtain ⟨xs1, ys1, s4, fst, f1, f2, l1, l2⟩ : ∃ (xs1 ys1 : List Int), Same H H3 ∧ H3 st = some (.lst (sl.map V.int)) ∧ H3 o1 = some (.lst (xs1.map V.int)) ∧ H3 o2 = some (.lst (ys1.map V.int)) ∧ xs1.length ≤ 10 ∧ ys1.length ≤ 10 := ⟨xs, ys, s3, est3, eo1', eo2, lx, ly⟩
      have hd4 := s4.seq hd
      walk_at "go"
      refine ⟨d, _, _, _, rfl, rfl, hd4, i0, ?_⟩
      walk_at "go"
      refine ite2 (fun e => ?_) (fun e => ?_)
      · walk_at "go"
        refine ⟨.inl ⟨rfl, _, SqL.of f1⟩, ?_⟩
        walk_at "go"
        refine ⟨d, _, _, _, rfl, rfl, hd4, i1, ?_⟩
        walk_at "go"
        refine ⟨o1, _, rfl, .inl (SqL.of f1), ?_⟩
        rw [List.length_map]
        walk_at "go"
        refine ⟨d, _, _, _, rfl, rfl, hd4, i2, ?_⟩
        walk_at "go"
        obtain ⟨b, hb, eb⟩ := at_in (mm d2).1 (mm d2).2
        refine ⟨st, _, _, _, rfl, rfl, SqL.of fst, eb, ?_⟩
        walk_at "go"
        have m0 := Int.emod_nonneg d1 (show ((xs1.length : Int) + 1) ≠ 0 by omega)
        have m1 := Int.emod_lt_of_pos d1 (show 0 < ((xs1.length : Int) + 1) by omega)
        refine ⟨o1, _, _, _, rfl, rfl, f1, by rw [List.length_map]; exact Nat.lt_of_lt_of_le (show xs1.length < 2000 by omega) (by decide), m0, by omega, ?_⟩
        generalize (d1 % ((xs1.length : Int) + 1)).toNat = j
        have eq : List.take j (List.map V.int xs1) ++ [V.int b] ++ List.drop j (List.map V.int xs1) = (xs1.take j ++ [b] ++ xs1.drop j).map V.int := by rw [List.map_append, List.map_append, List.map_take, List.map_drop]; rfl
        rw [eq]
        have ln : (xs1.take j ++ [b] ++ xs1.drop j).length ≤ 11 := by
          rw [List.length_append, List.length_append, List.length_singleton, List.length_take, List.length_drop]
          omega
        exact ⟨(xs1.take j ++ [b] ++ xs1.drop j), ys1, Z.Same.mut s4 no1H, by rw [upd_ne st1.symm]; exact fst, upd_same, by rw [upd_ne o12.symm]; exact f2, ln, l2, (fun _ => put_bad (bl b hb)), rfl⟩
      · have e : ¬ d0 % 3 < 2 := fun h => e (decide_eq_true h)
        exact ⟨xs1, ys1, s4, fst, f1, f2, by omega, l2, fun h => absurd h e, rfl⟩
    rintro σ J ⟨xs1, ys1, s4, fst, f1, f2, l1, l2, hbd, rfl⟩
    refine ⟨fun σ J => ∃ (xs1 ys1 : List Int), Same H J ∧ J st = some (.lst (sl.map V.int)) ∧ J o1 = some (.lst (xs1.map V.int)) ∧ J o2 = some (.lst (ys1.map V.int)) ∧ xs1.length ≤ 11 ∧ ys1.length ≤ 11 ∧ (∃ y ∈ xs1 ++ ys1, isP (rs.length + 1) y = false) ∧ σ = [some (.ref n), some (.int x), some (.ref r1), some (.ref r2), some (.ref d), some (.int (rs.length : Int)), some (.ref st), some (.ref o1), some (.ref o2), none], ?_, ?_⟩
    · have hd4 := s4.seq hd
      walk_at "go"
      refine ⟨d, _, _, _, rfl, rfl, hd4, i0, ?_⟩
      walk_at "go"
      refine ite2 (fun e => ?_) (fun e => ?_)
      · walk_at "go"
        refine ⟨.inl ⟨rfl, _, SqL.of f2⟩, ?_⟩
        walk_at "go"
        refine ⟨d, _, _, _, rfl, rfl, hd4, i3, ?_⟩
        walk_at "go"
        refine ⟨o2, _, rfl, .inl (SqL.of f2), ?_⟩
        rw [List.length_map]
        walk_at "go"
        refine ⟨d, _, _, _, rfl, rfl, hd4, i4, ?_⟩
        walk_at "go"
        obtain ⟨b, hb, eb⟩ := at_in (mm d4).1 (mm d4).2
        refine ⟨st, _, _, _, rfl, rfl, SqL.of fst, eb, ?_⟩
        walk_at "go"
        have m0 := Int.emod_nonneg d3 (show ((ys1.length : Int) + 1) ≠ 0 by omega)
        have m1 := Int.emod_lt_of_pos d3 (show 0 < ((ys1.length : Int) + 1) by omega)
        refine ⟨o2, _, _, _, rfl, rfl, f2, by rw [List.length_map]; exact Nat.lt_of_lt_of_le (show ys1.length < 2000 by omega) (by decide), m0, by omega, ?_⟩
        generalize (d3 % ((ys1.length : Int) + 1)).toNat = j
        have eq : List.take j (List.map V.int ys1) ++ [V.int b] ++ List.drop j (List.map V.int ys1) = (ys1.take j ++ [b] ++ ys1.drop j).map V.int := by rw [List.map_append, List.map_append, List.map_take, List.map_drop]; rfl
        rw [eq]
        have ln : (ys1.take j ++ [b] ++ ys1.drop j).length ≤ 11 := by
          rw [List.length_append, List.length_append, List.length_singleton, List.length_take, List.length_drop]
          omega
        exact ⟨xs1, (ys1.take j ++ [b] ++ ys1.drop j), Z.Same.mut s4 no2H, by rw [upd_ne st2.symm]; exact fst, by rw [upd_ne o12]; exact f1, upd_same, l1, ln, ((put_bad (bl b hb)).imp fun y h => ⟨List.mem_append_right _ h.1, h.2⟩), rfl⟩
      · have e : ¬ 0 < d0 % 3 := fun h => e (decide_eq_true h)
        exact ⟨xs1, ys1, s4, fst, f1, f2, l1, by omega, (hbd (by omega)).imp fun y h => ⟨List.mem_append_left _ h.1, h.2⟩, rfl⟩
    rintro σ J ⟨xs1, ys1, s4, fst, f1, f2, l1, l2, hbd, rfl⟩
    have fb := fBad_some hbd
    walk_at "go"
    refine ⟨o1, o2, _, _, rfl, rfl, f1, f2, by rw [List.length_map, List.length_map]; exact Nat.le_trans (show xs1.length + ys1.length ≤ 2000 by omega) (by decide), fun l3 nl3 => ?_⟩
    rw [← List.map_append]
    have s5 := s4.trans (same_new (o := .lst ((xs1 ++ ys1).map V.int)) nl3)
    have e3 : (upd J l3 (.lst ((xs1 ++ ys1).map V.int))) l3 = some (.lst ((xs1 ++ ys1).map V.int)) := upd_same
    have f1' := (same_new (o := .lst ((xs1 ++ ys1).map V.int)) nl3) _ _ f1
    have f2' := (same_new (o := .lst ((xs1 ++ ys1).map V.int)) nl3) _ _ f2
    generalize upd J l3 (.lst ((xs1 ++ ys1).map V.int)) = J2 at s5 e3 f1' f2'
    have hS : SqL K J2 l3 ((xs1 ++ ys1).map V.int) := SqL.of e3
    have hcA2 : CaseA C K J2 n rs prs := ⟨dx, tr, ta, ps, L, cs, cl, tR, tW, m, hc.mono s5⟩
    walk_at "go"
    refine ⟨⟨_, hS⟩, ?_⟩
    generalize hzs : xs1 ++ ys1 = zs at hS fb
    refine for_gen (n := zs.length) (fun k σ J => J = J2 ∧ fBad (rs.length + 1) zs = fBad (rs.length + 1) (zs.drop k) ∧ ∃ v9, σ = [some (.ref n), some (.int x), some (.ref r1), some (.ref r2), some (.ref d), some (.int (rs.length : Int)), some (.ref st), some (.ref o1), some (.ref o2), v9]) ⟨rfl, rfl, _, rfl⟩ ?_ ?_ ?_ ?_
    · rintro k σ J hk ⟨rfl, _⟩
      exact ⟨_, .int zs[k], hS, by rw [List.getElem?_map, List.getElem?_eq_getElem hk]; rfl⟩
    · rintro σ J ⟨rfl, _⟩
      exact ⟨_, hS, by rw [List.length_map]; exact Nat.le_refl _⟩
    · rintro k σ J u J' hk ⟨rfl, hb, v9, rfl⟩ ⟨rfl, hu⟩
      have hu := hu _ hS
      rw [List.getElem?_map, List.getElem?_eq_getElem hk] at hu
      cases hu
      rw [List.drop_eq_getElem_cons hk, fBad_cons] at hb
      generalize zs[k] = z at hb
      have bad_ : isP (rs.length + 1) z = false → spLRef C K [.ref n, .int x, .ref o1, .ref o2, .int z] J' Q E0 := fun h => by
        rw [if_neg (by rw [h]; decide)] at hb
        exact ⟨n, rs, prs, x, o1, o2, xs1, ys1, z, rfl, hcA2, rg, lr, lps, f1', f2', by omega, by omega, by rw [hzs]; exact hb, fun H' s6 => q H' (s5.trans s6)⟩
      walk_at "go"
      refine ite2 (fun e => ?_) (fun e => ?_)
      · have e : z < 0 := of_decide_eq_true e
        walk_at "go"
        exact bad_ (by unfold isP; exact decide_eq_false (by omega))
      have e : ¬ z < 0 := fun h => e (decide_eq_true h)
      walk_at "go"
      refine ite2 (fun e2 => ?_) (fun e2 => ?_)
      · have e2 : (rs.length : Int) < z := of_decide_eq_true e2
        walk_at "go"
        exact bad_ (by unfold isP; exact decide_eq_false (by omega))
      have e2 : ¬ (rs.length : Int) < z := fun h => e2 (decide_eq_true h)
      exact ⟨rfl, by rw [hb, if_pos (by unfold isP; exact decide_eq_true ⟨by omega, by omega⟩)], _, rfl⟩
    · rintro σ J ⟨rfl, hb, v9, rfl⟩
      rw [List.drop_length] at hb
      exact absurd hb fb
end
end Z
set_option Elab.async false
set_option linter.all false
set_option maxRecDepth 100000
set_option maxHeartbeats 4000000
namespace Z
open Ru PySem PySem.Spec PyProof.Rows L2
theorem fBad_of {n : Nat} {l : List Int} (h : ∀ x ∈ l, 0 ≤ x ∧ x < n) : fBad n l = none := by
  unfold fBad
  rw [List.find?_eq_none]
  intro x hx
  have : isP n x = true := by
    unfold isP
    exact decide_eq_true (h x hx)
  rw [this]
  decide
theorem CaseF.a {C : Addr} {K : PySem.W.Frag} {H0 H : Hp} {n : Addr} {rs : List Int} {prs : List (Int × Int)} (h : CaseF C K H0 H n rs prs) : CaseA C K H n rs prs := by
  obtain ⟨dx, tr, ta, ps, L, cs, cl, tR, tW, m, hc, _, _⟩ := h
  exact ⟨dx, tr, ta, ps, L, cs, cl, tR, tW, m, hc⟩
theorem CaseF.keep {C : Addr} {K : PySem.W.Frag} {H0 H H' : Hp} {n : Addr} {rs : List Int} {prs : List (Int × Int)} (h : CaseF C K H0 H n rs prs) (k : ∀ a o, H a = some o → ((∀ ys, o ≠ .lst ys) ∨ H0 a = none) → H' a = some o) : CaseA C K H' n rs prs := by
  obtain ⟨dx, tr, ta, ps, L, cs, cl, tR, tW, m, hc, hL, hcs⟩ := h
  exact ⟨dx, tr, ta, ps, L, cs, cl, tR, tW, m, k _ _ hc.ob (.inl nofun), k _ _ hc.rk (.inl nofun), ⟨k _ _ hc.an.sq (.inl nofun), hc.an.len, fun i p r h1 h2 => k _ _ (hc.an.at_ i p r h1 h2) (.inl nofun)⟩, k _ _ hc.cn (.inr hL), hc.lc, hc.ll, fun i c l h1 h2 => k _ _ (hc.ca i c l h1 h2) (.inr (hcs c (List.mem_of_getElem? h1))), hc.ok, hc.st, k _ _ hc.rn (.inl nofun), k _ _ hc.wn (.inl nofun)⟩
theorem more_mem {n : Nat} {prs : List (Int × Int)} {xs ys : List Int} {y : Int × Int} : y ∈ moreP n prs xs ys ↔ y ∈ prs ∨ (∃ u ∈ xs, y = ((n : Int), u)) ∨ ∃ u ∈ ys, y = (u, (n : Int)) := by
  unfold moreP
  rw [List.mem_append, List.mem_append, List.mem_map, List.mem_map]
  constructor
  · rintro (h | ⟨u, h, rfl⟩ | ⟨u, h, rfl⟩)
    · exact .inl h
    · exact .inr (.inl ⟨u, h, rfl⟩)
    · exact .inr (.inr ⟨u, h, rfl⟩)
  · rintro (h | ⟨u, h, rfl⟩ | ⟨u, h, rfl⟩)
    · exact .inl h
    · exact .inr (.inl ⟨u, h, rfl⟩)
    · exact .inr (.inr ⟨u, h, rfl⟩)
theorem more_rg {rs : List Int} {prs : List (Int × Int)} {x : Int} {xs ys : List Int} (rg : Rg rs prs) (hx : ∀ u ∈ xs, 0 ≤ u ∧ u < (rs.length : Int) + 1) (hy : ∀ u ∈ ys, 0 ≤ u ∧ u < (rs.length : Int) + 1) : Rg (rs ++ [x]) (moreP rs.length prs xs ys) := by
  intro y h
  have e : (rs ++ [x]).length = rs.length + 1 := by rw [List.length_append]; rfl
  rw [e]
  rcases more_mem.mp h with h | ⟨u, hu, rfl⟩ | ⟨u, hu, rfl⟩
  · have := rg y h
    omega
  · have := hx u hu
    dsimp only
    omega
  · have := hy u hu
    dsimp only
    omega
theorem getD_app {rs : List Int} {x : Int} {p : Nat} (h : p < rs.length) : (rs ++ [x]).getD p 0 = rs.getD p 0 := by
  rw [List.getD_eq_getElem?_getD, List.getElem?_append_left h, List.getD_eq_getElem?_getD]
theorem cz_iff {rs : List Int} {prs : List (Int × Int)} {p q : Nat} : q ∈ Cz rs prs p ↔ q < rs.length ∧ ((q : Int), (p : Int)) ∈ prs ∧ rs.getD p 0 ≤ rs.getD q 0 := by
  unfold Cz
  rw [List.mem_filter, List.mem_range, decide_eq_true_iff]
/-- what cannot be reached from the new paper keeps its ruling -/
theorem unreached {rs : List Int} {prs : List (Int × Int)} {x : Int} {xs ys ls : List Int} (hn : (rs.length : Int) ∈ ls) (hc : Closed (rs ++ [x]) (moreP rs.length prs xs ys) ls) {p : Nat} (hp : p < rs.length) (hl : (p : Int) ∉ ls) : Rz (rs ++ [x]) (moreP rs.length prs xs ys) p = Rz rs prs p := by
  have e : (rs ++ [x]).length = rs.length + 1 := by rw [List.length_append]; rfl
  unfold Rz
  rw [e]
  have key : ∀ p : Nat, (p < rs.length ∧ (p : Int) ∉ ls) → (∀ q, q ∈ Cz (rs ++ [x]) (moreP rs.length prs xs ys) p ↔ q ∈ Cz rs prs p) ∧ ∀ q ∈ Cz (rs ++ [x]) (moreP rs.length prs xs ys) p, q < rs.length ∧ (q : Int) ∉ ls := by
    rintro p ⟨h1, h2⟩
    have a : ∀ q ∈ Cz (rs ++ [x]) (moreP rs.length prs xs ys) p, q < rs.length ∧ (q : Int) ∉ ls := fun q hq => by
      have z := hc p (by omega) h2 q hq
      have l := cz_lt hq
      have ne : q ≠ rs.length := fun c => z (by rw [c]; exact hn)
      exact ⟨by omega, z⟩
    refine ⟨fun q => ⟨fun hq => ?_, fun hq => ?_⟩, a⟩
    · have l := (a q hq).1
      obtain ⟨_, m, g⟩ := cz_iff.mp hq
      rw [getD_app h1, getD_app l] at g
      refine cz_iff.mpr ⟨l, ?_, g⟩
      rcases more_mem.mp m with m | ⟨u, _, m⟩ | ⟨u, _, m⟩
      · exact m
      · have := congrArg Prod.fst m
        dsimp only at this
        omega
      · have := congrArg Prod.snd m
        dsimp only at this
        omega
    · obtain ⟨l, m, g⟩ := cz_iff.mp hq
      exact cz_iff.mpr ⟨by omega, more_mem.mpr (.inl m), by rw [getD_app h1, getD_app l]; exact g⟩
  rw [rnd_loc key (rs.length + 1) p ⟨hp, hl⟩]
  exact rnd_final (n := rs.length) (fun p _ q hq => cz_lt hq) (Nat.le_succ _) p hp
/-- the law's lists count what the program's lists count -/
theorem ClOk.ofS {rs : List Int} {prs : List (Int × Int)} {cl : List (List Int)} (h1 : cl.length = rs.length) (h : ∀ (p : Nat) l, cl[p]? = some l → CntS rs prs p l) : ClOk rs prs cl := ⟨h1, fun p l e => (h p l e).2, fun p l e => (h p l e).1⟩
theorem map_snd_zip' {ps : List Addr} {prs : List (Int × Int)} (h : ps.length = prs.length) : (ps.zip prs).map Prod.snd = prs := List.map_snd_zip (by rw [h]; exact Nat.le_refl _)
theorem scal_ww (z : Option (Bool × Nat)) : scal (wV z) (wV z) = true := by
  rcases z with _ | ⟨b, r⟩
  · rfl
  · cases b <;> rfl
theorem scal_rr (z : Option (Bool × Nat)) : scal (rV z) (rV z) = true := by
  rcases z with _ | ⟨b, r⟩ <;> rfl
end Z
set_option pp.maxSteps 700
set_option Elab.async false
set_option linter.all false
set_option maxRecDepth 100000
set_option maxHeartbeats 4000000
namespace Z
open Ru
open PySem PySem.Spec PyProof.Rows L2
open C8 (pss_cut tCut)
local macro_rules | `(tactic| walk_at "num") => `(tactic| first | rfl | omega | decide | exact Nat.le_of_lt (small1000 (by simp)) | exact ⟨by omega, by omega⟩ | exact ⟨by omega, by omega, by omega⟩ | exact ⟨by decide, by decide, by decide⟩ | exact Or.inl ⟨by omega, by omega⟩ | exact Or.inr ⟨by omega, by omega⟩)
local macro_rules | `(tactic| walk_at "go") => `(tactic| repeat (first | refine ⟨_, rfl, ?_⟩ | refine ⟨_, _, rfl, rfl, ?_⟩ | refine ⟨_, _, rfl, ?_⟩ | (refine ⟨_, _, rfl, rfl, ?_, ?_⟩; focus walk_at "num") | refine Or.inl ⟨_, rfl, ?_⟩ | refine ⟨_, _, _, _, rfl, rfl, (by assumption), (by rfl), ?_⟩ | refine ⟨_, _, _, _, _, rfl, (by assumption), (by assumption), (by assumption), (by rfl), ?_⟩ | refine ⟨rfl, ?_⟩ | (refine And.intro ?_ ?_; focus walk_at "num")))
abbrev s_grows : Stmt := topS 25
abbrev N_grows : List Str := ["_law_case", "_law_ranks_here", "_law_pairs_here", "_law_told", "_law_draws_here", "_law_new", "_law_k", "_law_answering", "_law_answered_by", "_law_rank", "_law_one", "_law_other", "_law_grown", "_law_number", "_law_more", "_law_counting_here", "_law_later", "_law_reached_here", "_law_paper", "_law_answer"]
abbrev P_grows : List Str := ["_law_case", "_law_ranks_here", "_law_pairs_here", "_law_told", "_law_draws_here"]
theorem sc_grows : FnScope N_grows P_grows (defScope s_grows) := ⟨rfl, rfl, rfl, by decide +kernel, rfl, by decide +kernel, by decide +kernel⟩
section
variable {P : Program} {w : World} {K : PySem.W.Frag} {mg : Str → Option Value} {base : Heap} {f C CB CU CN CH : Addr} {fd : FuncData}
theorem cut_from (xs : List V) (i : Nat) : cutV xs (some (i : Int)) none = xs.drop i := by
  unfold cutV
  rw [HT.sIx_nat, HT.sIx_none]
  by_cases h : i ≤ xs.length
  · rw [Nat.min_eq_left h, List.take_of_length_le (by rw [List.length_drop]; omega)]
  · rw [Nat.min_eq_right (by omega), List.drop_of_length_le (Nat.le_refl _), List.drop_of_length_le (by omega)]
    simp
def spGrows (C : Addr) (K : PySem.W.Frag) : Sp := fun vs H Q _ => ∃ n r a t d rs prs pp W R, ∃ ds : List Int, vs = [.ref n, .ref r, .ref a, .ref t, .ref d] ∧ CaseA C K H n rs prs ∧ Rg rs prs ∧ H r = some (.lst (rs.map V.int)) ∧ PrB true false H a pp prs ∧ Told H t (Rz rs prs) rs.length W R ∧ rs.length ≤ 19 ∧ prs.length ≤ 300 ∧ SqL K H d (ds.map V.int) ∧ 20 ≤ ds.length ∧ ∀ H', Same H H' → Q (.bl true) H'
theorem ok_grows (F : FnP K "_law_grows" s_grows f fd) (cls : Cls K C) (m_len : mg "len" = none) (m_range : mg "range" = none) (m_int : mg "int" = none) (m_list : mg "list" = none) (m_any : mg "any" = none) (me_with_paper : MetX P w K mg base 6 C "with_paper" (spWith C CB K)) (me_ruling : Met P w K mg base 1 C "ruling" (spRuling C K)) (me_settled : Met P w K mg base 1 C "settled" (spSettled C K)) (c_counting : Cal P w K mg base 1 "_law_counting" (spCounting K)) (c_law_ruled : Cal P w K mg base 1 "_law_ruled" (spLRuled K)) (c_tells : Cal P w K mg base 2 "_law_tells" (spTells C K)) (c_reached : Cal P w K mg base 1 "_law_reached" (spReached K)) (c_reply : Cal P w K mg base 6 "_law_reply" (spLReply C K)) (c_due : Cal P w K mg base 1 "_law_due" (spDue K)) (c_faults : Cal P w K mg base 9 "_law_faults" (spLFaults C K)) : FnOk P w K mg base CX0 10 f fd P_grows (spGrows C K) := by
  refine F.ok sc_grows (fun vs H Q E h => ?_) (fun cdv A outer s H vs Q E hr h => ?_)
  · obtain ⟨n, r, a, t, d, rs, prs, pp, W, R, ds, rfl, _⟩ := h
    rfl
  · obtain ⟨n, r, a, t, d, rs, prs, pp, W, R, ds, rfl, hcA, rg, hR, hP, ht, lr, lp, hd, ld, q⟩ := h
    refine ⟨_, PSs.nox (pss_cons (ps_set (i := 5) sc_grows.nd rfl (by first | exact .inl rfl | exact .inr rfl) (pe_callB call_len_seq (by rfl) m_len PySem.boot_len (pa_cons (pv 1) pa_nil)))
      (pss_cons (ps_setLc (i := 7) (own := [("_law_k", 6)]) (g := (gName 6)) (tt := tYes) (by rfl) sc_grows.nd rfl rfl (sw_true rfl rfl rfl (by decide +kernel)) (pi_range1 (by rfl) m_range (pa_cons (pe_op op_mod (pe_callTy call_int1 (by rfl) m_int (by decide +kernel) (pa_cons (pe_ix ix_list (pv 4) pe_int (fun _ _ => rfl)) pa_nil)) pe_int) pa_nil)) (blkOk_by (own := [("_law_k", 6)]) (N := N_grows) (sc := defScope s_grows) (by decide +kernel)) (fun _ _ _ _ _ => (pg_name (i := 6) sc_grows.nd rfl (by first | exact .inl rfl | exact .inr rfl))) (fun _ _ _ _ _ => pts_nil) (fun _ _ _ _ _ => (pe_op op_mod (pe_callTy call_int1 (by rfl) m_int (by decide +kernel) (pa_cons (pe_ix (ix_list_K (K := K) rfl) (pv 4) (pv 6) (fun _ _ => rfl)) pa_nil)) (pe_op op_add (pv 5) pe_int))))
      (pss_cons (ps_setLc (i := 8) (own := [("_law_k", 6)]) (g := (gName 6)) (tt := tYes) (by rfl) sc_grows.nd rfl rfl (sw_true rfl rfl rfl (by decide +kernel)) (pi_range1 (by rfl) m_range (pa_cons (pe_op op_mod (pe_callTy call_int1 (by rfl) m_int (by decide +kernel) (pa_cons (pe_ix ix_list (pv 4) pe_int (fun _ _ => rfl)) pa_nil)) pe_int) pa_nil)) (blkOk_by (own := [("_law_k", 6)]) (N := N_grows) (sc := defScope s_grows) (by decide +kernel)) (fun _ _ _ _ _ => (pg_name (i := 6) sc_grows.nd rfl (by first | exact .inl rfl | exact .inr rfl))) (fun _ _ _ _ _ => pts_nil) (fun _ _ _ _ _ => (pe_op op_mod (pe_callTy call_int1 (by rfl) m_int (by decide +kernel) (pa_cons (pe_ix (ix_list_K (K := K) rfl) (pv 4) (pe_op op_add pe_int (pv 6)) (fun _ _ => rfl)) pa_nil)) (pe_op op_add (pv 5) pe_int))))
      (pss_cut (ps_set (i := 9) sc_grows.nd rfl (by first | exact .inl rfl | exact .inr rfl) (pe_ix ix_list (pe_lst (pa_cons pe_int (pa_cons pe_int (pa_cons pe_int (pa_cons (pe_un un_neg pe_int) (pa_cons (pe_op op_mul pe_int (pe_op op_pow pe_int pe_int)) (pa_cons (pe_ifExp (pt_cmpR op_gt (pv 5) pe_int (nomark _)) (pe_ix ix_list (pv 1) (pe_op op_mod (pe_callTy call_int1 (by rfl) m_int (by decide +kernel) (pa_cons (pe_op op_fdiv (pe_ix ix_list (pv 4) pe_int (fun _ _ => rfl)) pe_int) pa_nil)) (pv 5)) (fun _ _ => rfl)) pe_int) pa_nil))))))) (pe_op op_mod (pe_callTy call_int1 (by rfl) m_int (by decide +kernel) (pa_cons (pe_ix ix_list (pv 4) pe_int (fun _ _ => rfl)) pa_nil)) pe_int) (fun _ _ => rfl)))
      (pss_cons (ps_set (i := 10) sc_grows.nd rfl (by first | exact .inl rfl | exact .inr rfl) (pe_callTy call_list_of (by rfl) m_list (by decide +kernel) (pa_cons (pv 7) pa_nil)))
      (pss_cons (ps_set (i := 11) sc_grows.nd rfl (by first | exact .inl rfl | exact .inr rfl) (pe_callTy call_list_of (by rfl) m_list (by decide +kernel) (pa_cons (pv 8) pa_nil)))
      (pss_cons (ps_set (i := 12) sc_grows.nd rfl (by first | exact .inl rfl | exact .inr rfl) (pe_meE me_with_paper (pv 0) (fun _ => passS0) hr (by decide) (pa_cons (pv 9) (pa_cons (pv 10) (pa_cons (pv 11) pa_nil)))))
      (pss_cons (ps_if (PW.pt (pw_or (pt_cmpR (op_neD hr.units) (pv 10) (pv 7) (nomark _)) (pw_or1 (pt_cmpR (op_neD hr.units) (pv 11) (pv 8) (nomark _))))) (pss_one (ps_ret pe_bl)) pss_nil)
      (pss_cons (ps_expr (pe_bm0 PySem.F.plainAttrs_list PySem.F.slot_list_clear PySem.F.type_list_clear mt_clear (pv 10)))
      (pss_cons (ps_expr (pe_bm PySem.F.plainAttrs_list PySem.F.slot_list_append PySem.F.type_list_append mt_append (pv 11) (pa_cons pe_int pa_nil)))
      (pss_cons (ps_set (i := 14) sc_grows.nd rfl (by first | exact .inl rfl | exact .inr rfl) (pe_op op_cat (pe_op op_cat (pv 2) (pe_lc (own := [("_law_number", 13)]) (g := (gName 13)) (tt := tYes) (by rfl) sc_grows.nd (pi_list (pv 7)) (blkOk_by (own := [("_law_number", 13)]) (N := N_grows) (sc := defScope s_grows) (by decide +kernel)) (fun _ _ _ _ _ => (pg_name (i := 13) sc_grows.nd rfl (by first | exact .inl rfl | exact .inr rfl))) (fun _ _ _ _ _ => pts_nil) (fun _ _ _ _ _ => (pe_tup (pa_cons (pv 5) (pa_cons (pv 13) pa_nil)))))) (pe_lc (own := [("_law_number", 13)]) (g := (gName 13)) (tt := tYes) (by rfl) sc_grows.nd (pi_list (pv 8)) (blkOk_by (own := [("_law_number", 13)]) (N := N_grows) (sc := defScope s_grows) (by decide +kernel)) (fun _ _ _ _ _ => (pg_name (i := 13) sc_grows.nd rfl (by first | exact .inl rfl | exact .inr rfl))) (fun _ _ _ _ _ => pts_nil) (fun _ _ _ _ _ => (pe_tup (pa_cons (pv 13) (pa_cons (pv 5) pa_nil)))))))
      (pss_cons (ps_set (i := 15) sc_grows.nd rfl (by first | exact .inl rfl | exact .inr rfl) (pe_cl c_counting hr (by decide) (by rfl) (pa_cons (pe_op op_cat (pv 1) (pe_lst (pa_cons (pv 9) pa_nil))) (pa_cons (pv 14) pa_nil))))
      (pss_cons (ps_set (i := 16) sc_grows.nd rfl (by first | exact .inl rfl | exact .inr rfl) (pe_cl c_law_ruled hr (by decide) (by rfl) (pa_cons (pv 15) pa_nil)))
      (pss_cons (ps_if (PW.pt (pw_or (pt_not (pt_val (pe_cl c_tells hr (by decide) (by rfl) (pa_cons (pv 12) (pa_cons (pe_op op_cat (pv 1) (pe_lst (pa_cons (pv 9) pa_nil))) (pa_cons (pv 14) (pa_cons (pv 16) pa_nil))))))) (pw_or1 (pt_not (pt_val (pe_cl c_tells hr (by decide) (by rfl) (pa_cons (pv 0) (pa_cons (pv 1) (pa_cons (pv 2) (pa_cons (pv 3) pa_nil)))))))))) (pss_one (ps_ret pe_bl)) pss_nil)
      (pss_cons (ps_set (i := 17) sc_grows.nd rfl (by first | exact .inl rfl | exact .inr rfl) (pe_cl c_reached hr (by decide) (by rfl) (pa_cons (pv 15) (pa_cons (pv 5) pa_nil))))
      (pss_cons (ps_for PassesOwn.never rfl (pi_range1 (by rfl) m_range (pa_cons (pv 5) pa_nil)) (pg_name (i := 18) sc_grows.nd rfl (by first | exact .inl rfl | exact .inr rfl))
        (pss_one (ps_if (pt_cmpR op_notIn_seq (pv 18) (pv 17) (by rfl)) (pss_one (ps_if (PW.pt (pw_or (pt_cmpR op_ne (pe_ix ix_tup (pe_me0 me_ruling (pv 12) hr (by decide)) (pv 18) (fun _ _ => rfl)) (pe_ix ix_tup (pe_me0 me_ruling (pv 0) hr (by decide)) (pv 18) (fun _ _ => rfl)) (nomark _)) (pw_or1 (pt_cmpR op_ne (pe_ix ix_tup (pe_me0 me_settled (pv 12) hr (by decide)) (pv 18) (fun _ _ => rfl)) (pe_ix ix_tup (pe_me0 me_settled (pv 0) hr (by decide)) (pv 18) (fun _ _ => rfl)) (nomark _))))) (pss_one (ps_ret pe_bl)) pss_nil)) pss_nil)))
      (pss_cons (ps_for PassesOwn.never rfl (pi_range2 (by rfl) m_range (pa_cons (pe_un un_neg pe_int) (pa_cons (pe_op op_add (pv 5) pe_int) pa_nil))) (pg_name (i := 19) sc_grows.nd rfl (by first | exact .inl rfl | exact .inr rfl))
        (pss_one (ps_if (pt_cmpR (op_neD hr.units) (pe_cl c_reply hr (by decide) (by rfl) (pa_cons (pv 12) (pa_cons (pv 5) (pa_cons (pv 19) pa_nil)))) (pe_cl c_due hr (by decide) (by rfl) (pa_cons (pv 16) (pa_cons (pv 15) (pa_cons (pv 5) (pa_cons (pv 19) pa_nil))))) (nomark _)) (pss_one (ps_ret pe_bl)) pss_nil)))
      (pss_one (ps_ret (pe_and (pe_cl c_faults hr (by decide) (by rfl) (pa_cons (pv 0) (pa_cons (pv 9) (pa_cons (pv 7) (pa_cons (pv 8) (pa_cons (pe_slice sl_list (pv 4) (po_some pe_int) po_none) pa_nil)))))) (pe_one (pe_cl c_tells hr (by decide) (by rfl) (pa_cons (pv 0) (pa_cons (pv 1) (pa_cons (pv 2) (pa_cons (pv 3) pa_nil)))))))))))))))))))))))))), ?_⟩
    have get : ∀ k : Nat, k < 20 → ∃ x, x ∈ ds ∧ atI (ds.map V.int) (k : Int) = some (.int x) := fun k hk => at_in (by omega) (by omega)
    have dr : ∀ k : Int, 0 ≤ k → k < 20 → atI (ds.map V.int) k = some (.int (ds.getD k.toNat 0)) := fun k h0 h1 => by
      obtain ⟨j, rfl⟩ := Int.eq_ofNat_of_zero_le h0
      have hj : j < ds.length := by omega
      exact at_of (j := j) rfl (by rw [List.getElem?_map, List.getElem?_eq_getElem hj, Int.toNat_natCast, List.getD_eq_getElem?_getD, List.getElem?_eq_getElem hj]; rfl)
    walk_at "go"
    refine ⟨r, _, rfl, .inl (SqL.of hR), ?_⟩
    rw [List.length_map]
    walk_at "go"
    refine ⟨d, _, _, _, rfl, rfl, hd, dr 8 (by decide) (by decide), ?_⟩
    walk_at "go"
    intro A nA
    have gm : ∀ z : Int, 0 ≤ z % ((rs.length : Int) + 1) ∧ z % ((rs.length : Int) + 1) < (rs.length : Int) + 1 := fun z => ⟨Int.emod_nonneg _ (by omega), Int.emod_lt_of_pos _ (by omega)⟩
    refine lc_rng (K := K) (n := (ds.getD (8 : Int).toNat 0 % 5).toNat) (fun k => ds.getD k 0 % ((rs.length : Int) + 1)) (by omega) nA (fun _ => rfl) ?_ ?_
    · intro k J1 Q1 hk s1 q1
      walk_at "go"
      refine ⟨d, _, _, _, rfl, rfl, s1.seq hd, dr (0 + (k : Int)) (by omega) (by omega), ?_⟩
      walk_at "go"
      rw [show (0 + (k : Int)).toNat = k by omega]
      exact q1 _ (Same.refl _)
    intro J1 s1 eA
    obtain ⟨xs, exs, lx, hx⟩ : ∃ xs : List Int, xs = (List.range (ds.getD (8 : Int).toNat 0 % 5).toNat).map (fun k => ds.getD k 0 % ((rs.length : Int) + 1)) ∧ xs.length ≤ 4 ∧ ∀ x ∈ xs, 0 ≤ x ∧ x < (rs.length : Int) + 1 := ⟨_, rfl, by rw [List.length_map, List.length_range]; omega, fun x hx => by
      obtain ⟨k, _, rfl⟩ := List.mem_map.mp hx
      exact gm _⟩
    rw [← exs] at eA
    clear exs
    have hd1 := s1.seq hd
    walk_at "go"
    refine ⟨d, _, _, _, rfl, rfl, hd1, dr 9 (by decide) (by decide), ?_⟩
    walk_at "go"
    intro B nB
    refine lc_rng (K := K) (n := (ds.getD (9 : Int).toNat 0 % 5).toNat) (fun k => ds.getD (4 + k) 0 % ((rs.length : Int) + 1)) (by omega) nB (fun _ => rfl) ?_ ?_
    · intro k J2 Q1 hk s2 q1
      walk_at "go"
      refine ⟨d, _, _, _, rfl, rfl, s2.seq hd1, dr (4 + (0 + (k : Int))) (by omega) (by omega), ?_⟩
      walk_at "go"
      rw [show (4 + (0 + (k : Int))).toNat = 4 + k by omega]
      exact q1 _ (Same.refl _)
    intro J2 s2 eB
    obtain ⟨ys, eys, ly, hy⟩ : ∃ ys : List Int, ys = (List.range (ds.getD (9 : Int).toNat 0 % 5).toNat).map (fun k => ds.getD (4 + k) 0 % ((rs.length : Int) + 1)) ∧ ys.length ≤ 4 ∧ ∀ x ∈ ys, 0 ≤ x ∧ x < (rs.length : Int) + 1 := ⟨_, rfl, by rw [List.length_map, List.length_range]; omega, fun x hx => by
      obtain ⟨k, _, rfl⟩ := List.mem_map.mp hx
      exact gm _⟩
    rw [← eys] at eB
    clear eys
    have eA2 := s2 _ _ eA
    have s12 := s1.trans s2
    have hd2 := s12.seq hd
    have hR2 := s12 _ _ hR
    clear s1 s2 hd1 eA
    dsimp only [List.set]
    walk_at "go"
    refine ⟨fun σ J => ∃ x : Int, Same H J ∧ J A = some (.lst (xs.map V.int)) ∧ J B = some (.lst (ys.map V.int)) ∧ σ = [some (.ref n), some (.ref r), some (.ref a), some (.ref t), some (.ref d), some (.int (rs.length : Int)), none, some (.ref A), some (.ref B), some (.int x), none, none, none, none, none, none, none, none, none, none], ?_, ?_⟩
    · have fin : ∀ y : Int, ∃ x : Int, atI [V.int 7, V.int 0, V.int 2, V.int (-3), V.int (2 * (10 : Int) ^ (40 : Int).toNat), V.int y] (ds.getD (10 : Int).toNat 0 % 6) = some (.int x) := fun y => by
        obtain ⟨x, _, e⟩ := at_in (l := [7, 0, 2, -3, 2 * (10 : Int) ^ (40 : Int).toNat, y]) (z := ds.getD (10 : Int).toNat 0 % 6) (by omega) (by show _ < (6 : Int); omega)
        exact ⟨x, e⟩
      walk_at "go"
      refine ite2 (fun e => ?_) (fun e => ?_)
      · have e' : (0 : Int) < (rs.length : Int) := of_decide_eq_true e
        walk_at "go"
        refine ⟨d, _, _, _, rfl, rfl, hd2, dr 10 (by decide) (by decide), ?_⟩
        walk_at "go"
        obtain ⟨y, _, ey⟩ := at_in (l := rs) (Int.emod_nonneg (ds.getD (10 : Int).toNat 0 / 6) (show (rs.length : Int) ≠ 0 by omega)) (Int.emod_lt_of_pos (ds.getD (10 : Int).toNat 0 / 6) (show 0 < (rs.length : Int) by omega))
        refine ⟨r, _, _, _, rfl, rfl, SqL.of hR2, ey, ?_⟩
        walk_at "go"
        intro p np
        walk_at "go"
        refine ⟨d, _, _, _, rfl, rfl, (same_new np).seq hd2, dr 10 (by decide) (by decide), ?_⟩
        walk_at "go"
        obtain ⟨x, ex⟩ := fin y
        refine ⟨p, _, _, _, rfl, rfl, SqL.of upd_same, ex, ?_⟩
        exact ⟨x, s12.trans (same_new np), (same_new np) _ _ eA2, (same_new np) _ _ eB, rfl⟩
      · walk_at "go"
        intro p np
        walk_at "go"
        refine ⟨d, _, _, _, rfl, rfl, (same_new np).seq hd2, dr 10 (by decide) (by decide), ?_⟩
        walk_at "go"
        obtain ⟨x, ex⟩ := fin 1
        refine ⟨p, _, _, _, rfl, rfl, SqL.of upd_same, ex, ?_⟩
        exact ⟨x, s12.trans (same_new np), (same_new np) _ _ eA2, (same_new np) _ _ eB, rfl⟩
    rintro σ J ⟨x, s1, eA, eB, rfl⟩
    have no0 : ∀ {o : Addr}, J o = none → H o = none := fun h => none_of s1 h
    walk_at "go"
    refine ⟨A, _, rfl, .inl (SqL.of eA), fun o1 no1 => ?_⟩
    have s2 := same_new (o := .lst (xs.map V.int)) no1
    have eo1 : (upd J o1 (.lst (xs.map V.int))) o1 = some (.lst (xs.map V.int)) := upd_same
    have Ao1 : A ≠ o1 := ne_of_none eA no1
    have Bo1 : B ≠ o1 := ne_of_none eB no1
    replace eA := s2 _ _ eA
    replace eB := s2 _ _ eB
    have s3 := s1.trans s2
    have n1H := none_of s1 no1
    generalize upd J o1 (.lst (xs.map V.int)) = J1 at s3 eo1 eA eB
    clear s2
    walk_at "go"
    refine ⟨B, _, rfl, .inl (SqL.of eB), fun o2 no2 => ?_⟩
    have s2 := same_new (o := .lst (ys.map V.int)) no2
    have eo2 : (upd J1 o2 (.lst (ys.map V.int))) o2 = some (.lst (ys.map V.int)) := upd_same
    have Ao2 : A ≠ o2 := ne_of_none eA no2
    have Bo2 : B ≠ o2 := ne_of_none eB no2
    replace eA := s2 _ _ eA
    replace eB := s2 _ _ eB
    have o12 : o1 ≠ o2 := ne_of_none eo1 no2
    replace eo1 := s2 _ _ eo1
    have s4 := s3.trans s2
    have n2H := none_of s3 no2
    generalize upd J1 o2 (.lst (ys.map V.int)) = J2 at s4 eo1 eo2 eA eB
    clear s2 s3
    obtain ⟨dx, tr, ta, ps, L, cs, cl, tR, tW, m, hc⟩ := hcA
    have hcA : CaseA C K H n rs prs := ⟨dx, tr, ta, ps, L, cs, cl, tR, tW, m, hc⟩
    have hn2 := s4 _ _ hc.ob
    dsimp only [List.set]
    walk_at "go"
    refine ⟨n, dx, _, rfl, hn2, rfl, ?_⟩
    walk_at "go"
    have bn : fBad (rs.length + 1) (xs ++ ys) = none := fBad_of fun u hu => by
      rcases List.mem_append.mp hu with h | h
      · have := hx u h
        omega
      · have := hy u h
        omega
    refine ⟨n, rs, prs, x, o1, o2, xs, ys, rfl, hcA.mono s4, rg, by omega, by omega, eo1, eo2, by omega, by omega, fun _ g J3 s5 hg => ?_, (fun z d H' e => by rw [bn] at e; cases e)⟩
    have eo1' := s5 _ _ eo1
    have eo2' := s5 _ _ eo2
    have eA' := s5 _ _ eA
    have eB' := s5 _ _ eB
    walk_at "go"
    refine ⟨_, _, dp_ints (b := true) (SqL.of eo1'), dp_ints (b := true) (SqL.of eA'), shaped_ints _ _, shaped_ints _ _, ?_⟩
    rw [eqv_ints, decide_eq_true rfl]
    walk_at "go"
    refine ⟨_, _, dp_ints (b := true) (SqL.of eo2'), dp_ints (b := true) (SqL.of eB'), shaped_ints _ _, shaped_ints _ _, ?_⟩
    rw [eqv_ints, decide_eq_true rfl]
    walk_at "go"
    refine ⟨.inl ⟨rfl, _, SqL.of eo1'⟩, ?_⟩
    walk_at "go"
    refine ⟨_, _, rfl, rfl, eo1', ?_⟩
    walk_at "go"
    have eo2b : (upd J3 o1 (.lst [])) o2 = some (.lst (ys.map V.int)) := by rw [upd_ne o12.symm]; exact eo2'
    refine ⟨.inl ⟨rfl, _, SqL.of eo2b⟩, ?_⟩
    walk_at "go"
    refine ⟨_, _, _, rfl, rfl, eo2b, by rw [List.length_map]; exact Nat.lt_of_lt_of_le (show ys.length < 2000 by omega) (by decide), ?_⟩
    have s6 : Same H (upd (upd J3 o1 (.lst [])) o2 (.lst (ys.map V.int ++ [V.int 0]))) := Z.Same.mut (Z.Same.mut (s4.trans s5) n1H) n2H
    have eA4 : (upd (upd J3 o1 (.lst [])) o2 (.lst (ys.map V.int ++ [V.int 0]))) A = some (.lst (xs.map V.int)) := by rw [upd_ne Ao2, upd_ne Ao1]; exact eA'
    have eB4 : (upd (upd J3 o1 (.lst [])) o2 (.lst (ys.map V.int ++ [V.int 0]))) B = some (.lst (ys.map V.int)) := by rw [upd_ne Bo2, upd_ne Bo1]; exact eB'
    have hg4 : CaseA C K (upd (upd J3 o1 (.lst [])) o2 (.lst (ys.map V.int ++ [V.int 0]))) g (rs ++ [x]) (moreP rs.length prs xs ys) := hg.keep fun b o e h => by
      have b1 : b ≠ o1 := fun z => by
        rw [z] at e h
        rcases h with h | h
        · rw [eo1'] at e
          exact h _ (Option.some.inj e).symm
        · rw [eo1] at h
          cases h
      have b2 : b ≠ o2 := fun z => by
        rw [z] at e h
        rcases h with h | h
        · rw [eo2'] at e
          exact h _ (Option.some.inj e).symm
        · rw [eo2] at h
          cases h
      rw [upd_ne b2, upd_ne b1]
      exact e
    generalize upd (upd J3 o1 (.lst [])) o2 (.lst (ys.map V.int ++ [V.int 0])) = J4 at s6 eA4 eB4 hg4
    clear eA eB eA' eB' eo1 eo2 eo1' eo2' eo2b hg s5
    have rg' := more_rg (x := x) rg hx hy
    have ln' : (rs ++ [x]).length = rs.length + 1 := by rw [List.length_append]; rfl
    have hzP := hP.z
    have ezP := map_snd_zip' hP.len
    generalize pp.zip prs = zp at hzP ezP
    have lzp : zp.length = prs.length := by rw [← ezP, List.length_map]
    have hz4 := hzP.mono s6
    dsimp only [List.set]
    walk_at "go"
    refine ⟨⟨_, SqL.of eA4⟩, fun D nD => ?_⟩
    refine lc_prs (fun y => ((rs.length : Int), y)) (SqL.of eA4) (by omega) nD (fun _ => rfl) ?_ ?_
    · intro y J5 Q1 hy s7 q1
      walk_at "go"
      exact q1
    intro J5 z1 s7 hz1 ez1
    have lz1 : z1.length = xs.length := by
      have := congrArg List.length ez1
      rwa [List.length_map, List.length_map] at this
    have hz5 := hz4.mono s7
    have eB5 := s7 _ _ eB4
    walk_at "go"
    refine ⟨a, D, _, _, rfl, rfl, hz5.sq, hz1.sq, by rw [List.length_map, List.length_map]; exact Nat.le_trans (show zp.length + z1.length ≤ 2000 by omega) (by decide), fun M1 nM1 => ?_⟩
    rw [← List.map_append]
    have s8 := s7.trans (same_new (o := .lst ((zp ++ z1).map fun z => V.ref z.1)) nM1)
    have hm1 : PrZ (upd J5 M1 (.lst ((zp ++ z1).map fun z => V.ref z.1))) M1 (zp ++ z1) := ⟨upd_same, fun z h => (same_new nM1) _ _ ((List.mem_append.mp h).elim (hz5.at_ z) (hz1.at_ z))⟩
    generalize upd J5 M1 (.lst ((zp ++ z1).map fun z => V.ref z.1)) = J6 at s8 hm1
    clear s7 hz1 hz5 eB5 nD nM1
    have eB6 := s8 _ _ eB4
    walk_at "go"
    refine ⟨⟨_, SqL.of eB6⟩, fun D nD => ?_⟩
    refine lc_prs (fun y => (y, (rs.length : Int))) (SqL.of eB6) (by omega) nD (fun _ => rfl) ?_ ?_
    · intro y J5 Q1 hy s7 q1
      walk_at "go"
      exact q1
    intro J7 z2 s9 hz2 ez2
    have lz2 : z2.length = ys.length := by
      have := congrArg List.length ez2
      rwa [List.length_map, List.length_map] at this
    have hm1' := hm1.mono s9
    have lm1 : (zp ++ z1).length = prs.length + xs.length := by rw [List.length_append]; omega
    refine ⟨M1, D, _, _, rfl, rfl, hm1'.sq, hz2.sq, by rw [List.length_map, List.length_map]; exact Nat.le_trans (show (zp ++ z1).length + z2.length ≤ 2000 by omega) (by decide), fun M nM => ?_⟩
    rw [← List.map_append]
    have s10 := s6.trans (s8.trans (s9.trans (same_new (o := .lst ((zp ++ z1 ++ z2).map fun z => V.ref z.1)) nM)))
    have s46 := s8.trans (s9.trans (same_new (o := .lst ((zp ++ z1 ++ z2).map fun z => V.ref z.1)) nM))
    have hM : PrZ (upd J7 M (.lst ((zp ++ z1 ++ z2).map fun z => V.ref z.1))) M (zp ++ z1 ++ z2) := ⟨upd_same, fun z h => (same_new nM) _ _ ((List.mem_append.mp h).elim (hm1'.at_ z) (hz2.at_ z))⟩
    have hg8 := hg4.mono s46
    have eA8 := s46 _ _ eA4
    have eB8 := s46 _ _ eB4
    generalize upd J7 M (.lst ((zp ++ z1 ++ z2).map fun z => V.ref z.1)) = J8 at s10 hM hg8 eA8 eB8
    have eM : (zp ++ z1 ++ z2).map Prod.snd = moreP rs.length prs xs ys := by rw [List.map_append, List.map_append, ezP, ez1, ez2, List.append_assoc]; rfl
    have lM : (zp ++ z1 ++ z2).length ≤ 400 := by rw [List.length_append]; omega
    generalize zp ++ z1 ++ z2 = zm at hM eM lM
    clear hm1 hm1' hz2 s9 s8 s46 nD nM eB6 ez1 ez2 lz1 lz2 hg4 hz4 s6 eA4 eB4 lm1 hzP ezP lzp
    have hMp := hM.pr
    rw [eM] at hMp
    have lmp : (moreP rs.length prs xs ys).length ≤ 400 := by rw [← eM, List.length_map]; exact lM
    clear eM hM lM
    generalize zm.map Prod.fst = pm at hMp
    have hR8 := s10 _ _ hR
    dsimp only [List.set]
    walk_at "go"
    intro b1 nb1
    have sb := same_new (o := .lst [.int x]) nb1
    refine ⟨r, b1, _, _, rfl, rfl, sb _ _ hR8, upd_same, by rw [List.length_map]; exact Nat.le_trans (show rs.length + 1 ≤ 2000 by omega) (by decide), fun r1 nr1 => ?_⟩
    rw [show rs.map V.int ++ [V.int x] = (rs ++ [x]).map V.int by rw [List.map_append]; rfl]
    have sb2 := sb.trans (same_new (o := .lst ((rs ++ [x]).map V.int)) nr1)
    have er1 : (upd (upd J8 b1 (.lst [.int x])) r1 (.lst ((rs ++ [x]).map V.int))) r1 = some (.lst ((rs ++ [x]).map V.int)) := upd_same
    have s11 := s10.trans sb2
    replace hMp := hMp.mono sb2
    replace hg8 := hg8.mono sb2
    replace eA8 := sb2 _ _ eA8
    replace eB8 := sb2 _ _ eB8
    generalize upd (upd J8 b1 (.lst [.int x])) r1 (.lst ((rs ++ [x]).map V.int)) = J9 at s11 er1 hMp hg8 eA8 eB8
    clear sb sb2 nb1 nr1 s10 hR8
    walk_at "go"
    refine ⟨r1, M, _, _, _, rfl, SqL.of er1, hMp, by omega, by omega, rg', fun L1 J10 cs1 cl1 s12 eL1 lc1 lcl1 hca1 hok1 => ?_⟩
    have ok1 : ClOk (rs ++ [x]) (moreP rs.length prs xs ys) cl1 := ClOk.ofS lcl1 hok1
    have s13 := s11.trans s12
    replace hMp := hMp.mono s12
    replace hg8 := hg8.mono s12
    replace eA8 := s12 _ _ eA8
    replace eB8 := s12 _ _ eB8
    clear er1 s12 s11
    walk_at "go"
    refine ⟨L1, cs1, cl1, rfl, eL1, by omega, by omega, fun i c l h1 h2 => ⟨hca1 i c l h1 h2, ?_, ?_⟩, fun t1 tw1 tr1 J11 s14 et1 etw1 etr1 => ?_⟩
    · have := nodup_len (ok1.nod i l h2) (ok1.at_ rg' h2).2
      omega
    · rw [lcl1]
      exact (ok1.at_ rg' h2).2
    have ht1 : Told J11 t1 (Rz (rs ++ [x]) (moreP rs.length prs xs ys)) (rs ++ [x]).length tw1 tr1 := by
      rw [lcl1] at etw1 etr1
      have rz := ok1.rnd rg' (rs ++ [x]).length
      rw [vls_congr fun p hp => by rw [rz p hp]] at etw1 etr1
      exact ⟨et1, etw1, etr1⟩
    have hcl : CLs J11 L1 (rs ++ [x]) (moreP rs.length prs xs ys) cs1 cl1 := ⟨s14 _ _ eL1, lc1, fun i c l h1 h2 => s14 _ _ (hca1 i c l h1 h2), ok1⟩
    have s15 := s13.trans s14
    replace hMp := hMp.mono s14
    replace hg8 := hg8.mono s14
    replace eA8 := s14 _ _ eA8
    replace eB8 := s14 _ _ eB8
    have hR11 := s15 _ _ hR
    clear eL1 hca1 et1 etw1 etr1 s14 s13
    dsimp only [List.set]
    walk_at "go"
    intro b2 nb2
    have sb := same_new (o := .lst [.int x]) nb2
    refine ⟨r, b2, _, _, rfl, rfl, sb _ _ hR11, upd_same, by rw [List.length_map]; exact Nat.le_trans (show rs.length + 1 ≤ 2000 by omega) (by decide), fun r2 nr2 => ?_⟩
    rw [show rs.map V.int ++ [V.int x] = (rs ++ [x]).map V.int by rw [List.map_append]; rfl]
    have sb2 := sb.trans (same_new (o := .lst ((rs ++ [x]).map V.int)) nr2)
    have er2 : (upd (upd J11 b2 (.lst [.int x])) r2 (.lst ((rs ++ [x]).map V.int))) r2 = some (.lst ((rs ++ [x]).map V.int)) := upd_same
    have s16 := s15.trans sb2
    replace hMp := hMp.mono sb2
    replace hg8 := hg8.mono sb2
    replace eA8 := sb2 _ _ eA8
    replace eB8 := sb2 _ _ eB8
    replace ht1 := ht1.mono sb2
    replace hcl := hcl.mono sb2
    generalize upd (upd J11 b2 (.lst [.int x])) r2 (.lst ((rs ++ [x]).map V.int)) = J12 at s16 er2 hMp hg8 eA8 eB8 ht1 hcl
    clear sb sb2 nb2 nr2 s15 hR11
    dsimp only [List.set]
    walk_at "go"
    refine ⟨g, r2, M, t1, rs ++ [x], _, _, tw1, tr1, rfl, hg8, rg', er2, hMp, ht1, by omega, by omega, fun J13 s17 => ?_⟩
    have s18 := s16.trans s17
    replace hg8 := hg8.mono s17
    replace eA8 := s17 _ _ eA8
    replace eB8 := s17 _ _ eB8
    replace ht1 := ht1.mono s17
    replace hcl := hcl.mono s17
    clear hMp er2 s17 s16
    walk_at "go"
    refine ⟨n, r, a, t, rs, prs, pp, W, R, rfl, hcA.mono s18, rg, s18 _ _ hR, hP.mono s18, ht.mono s18, by omega, by omega, fun J14 s19 => ?_⟩
    have s20 := s18.trans s19
    replace hg8 := hg8.mono s19
    replace eA8 := s19 _ _ eA8
    replace eB8 := s19 _ _ eB8
    replace ht1 := ht1.mono s19
    replace hcl := hcl.mono s19
    clear s19 s18
    walk_at "go"
    refine ⟨L1, rs ++ [x], _, cs1, cl1, rs.length, rfl, hcl, rg', by omega, by omega, fun U J15 ls s21 eU hnl hclo => ?_⟩
    have s22 := s20.trans s21
    replace hg8 := hg8.mono s21
    replace eA8 := s21 _ _ eA8
    replace eB8 := s21 _ _ eB8
    replace ht1 := ht1.mono s21
    replace hcl := hcl.mono s21
    clear s21 s20
    obtain ⟨dxg, trg, tag, psg, Lg, csg, clg, tRg, tWg, mg', hcg⟩ := hg8
    have hc15 := hc.mono s22
    have okg : ClOk (rs ++ [x]) (moreP rs.length prs xs ys) clg := ClOk.of hcg.ll hcg.ok
    have fing := okg.stop rg' hcg.st
    have ok : ClOk rs prs cl := ClOk.of hc.ll hc.ok
    have fin := ok.stop rg hc.st
    dsimp only [List.set]
    walk_at "go"
    refine for_gen (n := rs.length) (fun k σ J => J = J15 ∧ ∃ v18, σ = [some (.ref n), some (.ref r), some (.ref a), some (.ref t), some (.ref d), some (.int (rs.length : Int)), none, some (.ref A), some (.ref B), some (.int x), some (.ref o1), some (.ref o2), some (.ref g), none, some (.ref M), some (.ref L1), some (.ref t1), some (.ref U), v18, none]) ⟨rfl, _, rfl⟩ ?_ ?_ ?_ ?_
    · intro k σ J hk _
      show k < ((rs.length : Int)).toNat
      omega
    · intro σ J _
      show ((rs.length : Int)).toNat ≤ rs.length
      omega
    · rintro k σ J x' J' hk ⟨rfl, v18, rfl⟩ ⟨rfl, rfl⟩
      rw [Int.zero_add]
      walk_at "go"
      refine ⟨U, _, rfl, .inl (SqL.of eU), rfl, all_flat _, ?_⟩
      rw [inV_ints]
      by_cases kin : (k : Int) ∈ ls
      · rw [decide_eq_true kin]
        walk_at "go"
        exact ⟨_, rfl⟩
      rw [decide_eq_false kin]
      have un := unreached hnl hclo hk kin
      have hn15 := hc15.ob
      have hng := hcg.ob
      have k1 : (k : Int) < ((rs ++ [x]).length : Nat) := by omega
      have k0 : (0 : Int) ≤ (k : Int) := by omega
      have eqk : rnd (Cn clg) mg' k = rnd (Cn cl) m k := by rw [fing k (by omega), fin k hk, un]
      walk_at "go"
      refine ⟨g, dxg, _, rfl, hng, rfl, g, _, _, dxg, trg, tag, psg, Lg, clg, tRg, tWg, mg', rfl, hcg.wk, ?_⟩
      walk_at "go"
      refine ⟨tWg, _, _, _, rfl, rfl, SqT.of hcg.wn, at_vls k0 k1, ?_⟩
      walk_at "go"
      refine ⟨n, dx, _, rfl, hn15, rfl, n, _, _, dx, tr, ta, ps, L, cl, tR, tW, m, rfl, hc15.wk, ?_⟩
      walk_at "go"
      refine ⟨tW, _, _, _, rfl, rfl, SqT.of hc15.wn, at_vls k0 (by omega), ?_⟩
      rw [Int.toNat_natCast, eqk]
      refine ⟨scal_ww _, ?_⟩
      rw [decide_eq_true rfl]
      walk_at "go"
      refine ⟨g, dxg, _, rfl, hng, rfl, g, _, _, dxg, trg, tag, psg, Lg, clg, tRg, tWg, mg', rfl, hcg.wk, ?_⟩
      walk_at "go"
      refine ⟨tRg, _, _, _, rfl, rfl, SqT.of hcg.rn, at_vls k0 k1, ?_⟩
      walk_at "go"
      refine ⟨n, dx, _, rfl, hn15, rfl, n, _, _, dx, tr, ta, ps, L, cl, tR, tW, m, rfl, hc15.wk, ?_⟩
      walk_at "go"
      refine ⟨tR, _, _, _, rfl, rfl, SqT.of hc15.rn, at_vls k0 (by omega), ?_⟩
      rw [Int.toNat_natCast, eqk]
      refine ⟨scal_rr _, ?_⟩
      rw [decide_eq_true rfl]
      walk_at "go"
      exact ⟨_, rfl⟩
    rintro σ J ⟨rfl, v18, rfl⟩
    have hcgA : CaseA C K J g (rs ++ [x]) (moreP rs.length prs xs ys) := ⟨dxg, trg, tag, psg, Lg, csg, clg, tRg, tWg, mg', hcg⟩
    walk_at "go"
    refine for_gen (n := rs.length + 3) (fun k σ J2 => Same J J2 ∧ ∃ v19, σ = [some (.ref n), some (.ref r), some (.ref a), some (.ref t), some (.ref d), some (.int (rs.length : Int)), none, some (.ref A), some (.ref B), some (.int x), some (.ref o1), some (.ref o2), some (.ref g), none, some (.ref M), some (.ref L1), some (.ref t1), some (.ref U), v18, v19]) ⟨Same.refl _, _, rfl⟩ ?_ ?_ ?_ ?_
    · intro k σ J hk _
      show k < ((rs.length : Int) + 2 - -1).toNat
      omega
    · intro σ J _
      show ((rs.length : Int) + 2 - -1).toNat ≤ rs.length + 3
      omega
    · rintro k σ J2 x' J' hk ⟨s23, v19, rfl⟩ ⟨rfl, rfl⟩
      dsimp only [List.set]
      walk_at "go"
      refine ⟨g, rs ++ [x], _, _, _, rfl, hcgA.mono s23, rg', by omega, fun l1 H1 x1 s24 hx1 e1 => ?_⟩
      walk_at "go"
      have s25 := s23.trans s24
      refine ⟨t1, L1, _, _, rs ++ [x], _, cs1, cl1, tw1, tr1, rfl, ht1.mono s25, hcl.mono s25, rg', by omega, fun l2 H2 x2 s26 hx2 e2 => ?_⟩
      obtain rfl := hx1.uniq hx2
      refine ⟨_, _, dp_rep (s26 _ _ e1), dp_rep e2, shaped_rep _ _, shaped_rep _ _, ?_⟩
      rw [eqv_same (shaped_rep _ _)]
      walk_at "go"
      exact ⟨s25.trans s26, _, rfl⟩
    rintro σ J2 ⟨s23, v19, rfl⟩
    have s24 := s22.trans s23
    have hd24 := s24.seq hd
    walk_at "go"
    refine ⟨d, _, rfl, hd24, fun d2 nd2 => ?_⟩
    have ec : cutV (ds.map V.int) (some (11 : Int)) none = (ds.drop 11).map V.int := by rw [show (11 : Int) = ((11 : Nat) : Int) from rfl, cut_from, List.map_drop]
    rw [ec]
    have s25 := s24.trans (same_new (o := .lst ((ds.drop 11).map V.int)) nd2)
    have ed2 : (upd J2 d2 (.lst ((ds.drop 11).map V.int))) d2 = some (.lst ((ds.drop 11).map V.int)) := upd_same
    have eA25 := (same_new (o := .lst ((ds.drop 11).map V.int)) nd2) _ _ (s23 _ _ eA8)
    have eB25 := (same_new (o := .lst ((ds.drop 11).map V.int)) nd2) _ _ (s23 _ _ eB8)
    generalize upd J2 d2 (.lst ((ds.drop 11).map V.int)) = J3 at s25 ed2 eA25 eB25
    walk_at "go"
    refine ⟨n, rs, prs, x, A, B, d2, xs, ys, ds.drop 11, rfl, hcA.mono s25, rg, by omega, by omega, eA25, eB25, by omega, by omega, SqL.of ed2, by rw [List.length_drop]; omega, fun J4 s26 => ?_⟩
    have s27 := s25.trans s26
    walk_at "go"
    exact ⟨n, r, a, t, rs, prs, pp, W, R, rfl, hcA.mono s27, rg, s27 _ _ hR, hP.mono s27, ht.mono s27, by omega, by omega, fun J5 s28 => q _ (s27.trans s28)⟩
end
end Z
set_option pp.maxSteps 700
set_option Elab.async false
set_option linter.all false
set_option maxRecDepth 100000
set_option maxHeartbeats 4000000
namespace Z
open Ru
open PySem PySem.Spec PyProof.Rows L2
open C8 (pss_cut tCut)
local macro_rules | `(tactic| walk_at "num") => `(tactic| first | rfl | omega | decide | exact Nat.le_of_lt (small1000 (by simp)) | exact ⟨by omega, by omega⟩ | exact ⟨by omega, by omega, by omega⟩ | exact ⟨by decide, by decide, by decide⟩ | exact Or.inl ⟨by omega, by omega⟩ | exact Or.inr ⟨by omega, by omega⟩)
local macro_rules | `(tactic| walk_at "go") => `(tactic| repeat (first | refine ⟨_, rfl, ?_⟩ | refine ⟨_, _, rfl, rfl, ?_⟩ | refine ⟨_, _, rfl, ?_⟩ | (refine ⟨_, _, rfl, rfl, ?_, ?_⟩; focus walk_at "num") | refine Or.inl ⟨_, rfl, ?_⟩ | refine ⟨_, _, _, _, rfl, rfl, (by assumption), (by rfl), ?_⟩ | refine ⟨_, _, _, _, _, rfl, (by assumption), (by assumption), (by assumption), (by rfl), ?_⟩ | refine ⟨rfl, ?_⟩ | (refine And.intro ?_ ?_; focus walk_at "num")))
abbrev s_law : Stmt := topS 26
abbrev N_law : List Str := ["_law_script", "_law_shape", "_law_many", "_law_extra", "_law_ranks_here", "_law_pairs_here", "_law_counting_here", "_law_told", "_law_case", "_law_draws_here", "_law_paper"]
abbrev P_law : List Str := ["_law_script"]
theorem sc_law : FnScope N_law P_law (defScope s_law) := ⟨rfl, rfl, rfl, by decide +kernel, rfl, by decide +kernel, by decide +kernel⟩
section
variable {P : Program} {w : World} {K : PySem.W.Frag} {mg : Str → Option Value} {base : Heap} {f C CB CU CN CH : Addr} {fd : FuncData}
def spLaw (K : PySem.W.Frag) : Sp := fun vs H Q _ => ∃ (s : Addr) (ns : List Int), vs = [.ref s] ∧ SqL K H s (ns.map V.int) ∧ ns.length ≤ 63 ∧ ∀ H', Q (.bl true) H'
theorem ok_law (F : FnP K "law" s_law f fd) (cls : Cls K C) (m_int : mg "int" = none) (m_range : mg "range" = none) (c_cell : Cal P w K mg base 1 "_law_cell" (spCell K)) (c_draws : Cal P w K mg base 1 "_law_draws" spDraws) (c_ranks : Cal P w K mg base 1 "_law_ranks" (spRanks K)) (c_pairs : Cal P w K mg base 2 "_law_pairs" (spPairs K)) (k_Case : MakX P w K mg base 4 "Case" C (spCase C CB K)) (c_counting : Cal P w K mg base 1 "_law_counting" (spCounting K)) (c_law_ruled : Cal P w K mg base 1 "_law_ruled" (spLRuled K)) (c_tells : Cal P w K mg base 2 "_law_tells" (spTells C K)) (c_replies : Cal P w K mg base 7 "_law_replies" (spReplies C K)) (c_dispute : Cal P w K mg base 6 "_law_dispute" (spDisp C K)) (c_grows : Cal P w K mg base 10 "_law_grows" (spGrows C K)) : FnOk P w K mg base CX0 11 f fd P_law (spLaw K) := by
  refine F.ok sc_law (fun vs H Q E h => ?_) (fun cdv A outer s H vs Q E hr h => ?_)
  · obtain ⟨s, ns, rfl, _⟩ := h
    rfl
  · obtain ⟨s, ns, rfl, hS, ls, q⟩ := h
    refine ⟨_, PSs.nox (pss_cons (ps_set (i := 1) sc_law.nd rfl (by first | exact .inl rfl | exact .inr rfl) (pe_cl c_draws hr (by decide) (by rfl) (pa_cons (pe_cl c_cell hr (by decide) (by rfl) (pa_cons (pv 0) (pa_cons pe_int pa_nil))) (pa_cons pe_int pa_nil))))
      (pss_cons (ps_set (i := 2) sc_law.nd rfl (by first | exact .inl rfl | exact .inr rfl) (pe_op op_mod (pe_callTy call_int1 (by rfl) m_int (by decide +kernel) (pa_cons (pe_ix ix_list (pv 1) pe_int (fun _ _ => rfl)) pa_nil)) pe_int))
      (pss_cons (ps_set (i := 3) sc_law.nd rfl (by first | exact .inl rfl | exact .inr rfl) (pe_op op_mod (pe_callTy call_int1 (by rfl) m_int (by decide +kernel) (pa_cons (pe_ix ix_list (pv 1) pe_int (fun _ _ => rfl)) pa_nil)) pe_int))
      (pss_cut (ps_if (pt_cmpR op_eq (pe_op op_mod (pe_callTy call_int1 (by rfl) m_int (by decide +kernel) (pa_cons (pe_ix ix_list (pv 1) pe_int (fun _ _ => rfl)) pa_nil)) pe_int) pe_int (nomark _)) (pss_one (ps_set (i := 3) sc_law.nd rfl (by first | exact .inl rfl | exact .inr rfl) (pe_op op_mod (pe_callTy call_int1 (by rfl) m_int (by decide +kernel) (pa_cons (pe_ix ix_list (pv 1) pe_int (fun _ _ => rfl)) pa_nil)) pe_int))) pss_nil)
      (pss_cons (ps_set (i := 4) sc_law.nd rfl (by first | exact .inl rfl | exact .inr rfl) (pe_cl c_ranks hr (by decide) (by rfl) (pa_cons (pe_cl c_draws hr (by decide) (by rfl) (pa_cons (pe_cl c_cell hr (by decide) (by rfl) (pa_cons (pv 0) (pa_cons pe_int pa_nil))) (pa_cons pe_int pa_nil))) (pa_cons (pv 2) (pa_cons (pe_op op_mod (pe_callTy call_int1 (by rfl) m_int (by decide +kernel) (pa_cons (pe_ix ix_list (pv 1) pe_int (fun _ _ => rfl)) pa_nil)) pe_int) pa_nil)))))
      (pss_cons (ps_set (i := 5) sc_law.nd rfl (by first | exact .inl rfl | exact .inr rfl) (pe_cl c_pairs hr (by decide) (by rfl) (pa_cons (pv 0) (pa_cons (pv 2) (pa_cons (pe_op op_mod (pe_callTy call_int1 (by rfl) m_int (by decide +kernel) (pa_cons (pe_ix ix_list (pv 1) pe_int (fun _ _ => rfl)) pa_nil)) pe_int) (pa_cons (pv 3) pa_nil))))))
      (pss_cons (ps_set (i := 6) sc_law.nd rfl (by first | exact .inl rfl | exact .inr rfl) (pe_cl c_counting hr (by decide) (by rfl) (pa_cons (pv 4) (pa_cons (pv 5) pa_nil))))
      (pss_cons (ps_set (i := 7) sc_law.nd rfl (by first | exact .inl rfl | exact .inr rfl) (pe_cl c_law_ruled hr (by decide) (by rfl) (pa_cons (pv 6) pa_nil)))
      (pss_cons (ps_set (i := 8) sc_law.nd rfl (by first | exact .inl rfl | exact .inr rfl) (pe_mkE k_Case (fun _ => passS0) hr (by decide) (by rfl) (pa_cons (pv 4) (pa_cons (pv 5) pa_nil))))
      (pss_cons (ps_if (PW.pt (pw_or (pt_not (pt_val (pe_cl c_tells hr (by decide) (by rfl) (pa_cons (pv 8) (pa_cons (pv 4) (pa_cons (pv 5) (pa_cons (pv 7) pa_nil))))))) (pw_or1 (pt_not (pt_val (pe_cl c_replies hr (by decide) (by rfl) (pa_cons (pv 8) (pa_cons (pv 7) (pa_cons (pv 6) pa_nil))))))))) (pss_one (ps_ret pe_bl)) pss_nil)
      (pss_cons (ps_set (i := 9) sc_law.nd rfl (by first | exact .inl rfl | exact .inr rfl) (pe_cl c_draws hr (by decide) (by rfl) (pa_cons (pe_cl c_cell hr (by decide) (by rfl) (pa_cons (pv 0) (pa_cons pe_int pa_nil))) (pa_cons pe_int pa_nil))))
      (pss_cons (ps_for PassesOwn.never rfl (pi_range1 (by rfl) m_range (pa_cons (pv 2) pa_nil)) (pg_name (i := 10) sc_law.nd rfl (by first | exact .inl rfl | exact .inr rfl))
        (pss_one (ps_if (PW.pt (pw_and (pt_cmpR op_eq (pe_ix ix_list (pe_ix ix_list (pv 7) pe_int (fun _ _ => rfl)) (pv 10) (fun _ _ => rfl)) pe_str (nomark _)) (pw_and1 (pt_not (pt_val (pe_cl c_dispute hr (by decide) (by rfl) (pa_cons (pv 8) (pa_cons (pv 7) (pa_cons (pv 6) (pa_cons (pv 10) (pa_cons (pe_slice sl_list (pv 9) (po_some (pv 10)) po_none) pa_nil))))))))))) (pss_one (ps_ret pe_bl)) pss_nil)))
      (pss_one (ps_ret (pe_and (pe_cl c_grows hr (by decide) (by rfl) (pa_cons (pv 8) (pa_cons (pv 4) (pa_cons (pv 5) (pa_cons (pv 7) (pa_cons (pe_slice sl_list (pv 9) (po_some pe_int) po_none) pa_nil)))))) (pe_one (pe_cl c_replies hr (by decide) (by rfl) (pa_cons (pv 8) (pa_cons (pv 7) (pa_cons (pv 6) pa_nil)))))))))))))))))))), ?_⟩
    walk_at "go"
    refine ⟨s, ns, 0, rfl, hS, ?_⟩
    walk_at "go"
    intro d ds nd dr
    obtain ⟨dl, db⟩ := dr
    obtain ⟨d0, d1, d2, d3, d4, d5, rfl⟩ : ∃ d0 d1 d2 d3 d4 d5, ds = [d0, d1, d2, d3, d4, d5] := by
      match ds, dl with
      | [d0, d1, d2, d3, d4, d5], _ => exact ⟨_, _, _, _, _, _, rfl⟩
    have s1 := same_new (o := .lst ([d0, d1, d2, d3, d4, d5].map V.int)) nd
    have ed : (upd H d (.lst ([d0, d1, d2, d3, d4, d5].map V.int))) d = some (.lst ([d0, d1, d2, d3, d4, d5].map V.int)) := upd_same
    generalize upd H d (.lst ([d0, d1, d2, d3, d4, d5].map V.int)) = H1 at s1 ed
    have sd : SqL K H1 d [V.int d0, V.int d1, V.int d2, V.int d3, V.int d4, V.int d5] := SqL.of ed
    obtain ⟨n, en, ln⟩ : ∃ n : Nat, d0 % 20 = (n : Int) ∧ n ≤ 19 := ⟨(d0 % 20).toNat, by omega, by omega⟩
    have hS1 := s1.seq hS
    walk_at "go"
    refine ⟨fun σ J => ∃ ex : Nat, ex ≤ 60 ∧ J = H1 ∧ σ = [some (.ref s), some (.ref d), some (.int (n : Int)), some (.int (ex : Int)), none, none, none, none, none, none, none], ?_, ?_⟩
    · walk_at "go"
      refine ite2 (fun e => ?_) (fun e => ?_)
      · walk_at "go"
        exact ⟨(d3 % 61).toNat, by omega, rfl, by rw [← en, show (((d3 % 61).toNat : Nat) : Int) = d3 % 61 by omega]; rfl⟩
      · walk_at "go"
        exact ⟨(d1 % 9).toNat, by omega, rfl, by rw [← en, show (((d1 % 9).toNat : Nat) : Int) = d1 % 9 by omega]; rfl⟩
    rintro σ J ⟨ex, lex, rfl, rfl⟩
    walk_at "go"
    refine ⟨s, ns, 1, rfl, hS1, ?_⟩
    walk_at "go"
    intro da dsa nda dra
    have s2 := s1.trans (same_new (o := .lst (dsa.map V.int)) nda)
    have sd2 := (same_new (o := .lst (dsa.map V.int)) nda).seq sd
    have eda : (upd J da (.lst (dsa.map V.int))) da = some (.lst (dsa.map V.int)) := upd_same
    generalize upd J da (.lst (dsa.map V.int)) = H2 at s2 sd2 eda
    walk_at "go"
    refine ⟨da, dsa, n, d4 % 4, rfl, SqL.of eda, by rw [dra.1]; exact Nat.le_trans ln (by decide), by omega, dra.2, fun r rs H3 s3 er lr => ?_⟩
    have s4 := s2.trans s3
    have hS3 := s4.seq hS
    have sd3 := s3.seq sd2
    walk_at "go"
    refine ⟨s, ns, n, ex, d5 % 6, rfl, hS3, ls, by omega, lex, fun a zs H4 s5 hz lz pz => ?_⟩
    have s6 := s4.trans s5
    have er4 := s5 _ _ er
    have zpr := hz.pr
    have rg : Rg rs (zs.map Prod.snd) := fun x hx => by
      obtain ⟨z, h, rfl⟩ := List.mem_map.mp hx
      rw [lr]
      exact pz z h
    obtain ⟨prs, eprs⟩ : ∃ prs, prs = zs.map Prod.snd := ⟨_, rfl⟩
    obtain ⟨ps, eps⟩ : ∃ ps, ps = zs.map Prod.fst := ⟨_, rfl⟩
    have lprs : prs.length ≤ 200 := by rw [eprs, List.length_map]; exact lz
    rw [← eprs, ← eps] at zpr
    rw [← eprs] at rg
    have hS4 := s6.seq hS
    clear hz pz lz eprs eps sd3 sd2 hS3 hS1 eda
    dsimp only [List.set]
    walk_at "go"
    refine ⟨r, a, rs, ps, prs, rfl, SqL.of er4, zpr, by omega, by omega, rg, fun L H5 cs cl s7 eL lc lcl hca hok => ?_⟩
    have ok : ClOk rs prs cl := ClOk.ofS lcl hok
    have hS5 := s7.seq hS4
    walk_at "go"
    refine ⟨L, cs, cl, rfl, eL, by omega, by omega, fun i c l h1 h2 => ⟨hca i c l h1 h2, ?_, ?_⟩, fun t tw tr H6 s8 et etw etr => ?_⟩
    · have := nodup_len (ok.nod i l h2) (ok.at_ rg h2).2
      omega
    · rw [lcl]
      exact (ok.at_ rg h2).2
    have ht : Told H6 t (Rz rs prs) rs.length tw tr := by
      rw [lcl] at etw etr
      have rz := ok.rnd rg rs.length
      rw [vls_congr fun p hp => by rw [rz p hp]] at etw etr
      exact ⟨et, etw, etr⟩
    have hcl : CLs H6 L rs prs cs cl := ⟨s8 _ _ eL, lc, fun i c l h1 h2 => s8 _ _ (hca i c l h1 h2), ok⟩
    have hS6 := s8.seq hS5
    have er6 := s8 _ _ (s7 _ _ er4)
    have zpr6 := (zpr.mono s7).mono s8
    clear eL hca et etw etr s8 s7 er4 zpr hS5 hS4
    dsimp only [List.set]
    walk_at "go"
    intro n1 dx nn1 ndx ne1
    have sn : Same H6 (upd (upd H6 dx (.own n1)) n1 (.ins C dx [])) := (same_new ndx).trans (same_new (by rw [upd_ne ne1.symm]; exact nn1))
    refine ⟨true, true, false, n1, dx, r, a, rs, ps, prs, rfl, upd_same, sn _ _ er6, zpr6.mono sn, by omega, by omega, fun _ H7 sb7 hcF => ?_, fun z hz => by rw [badN_of rg] at hz; cases hz⟩
    have s9 : Same H6 H7 := made_same nn1 ndx sb7
    have hcA := hcF.a
    have ht7 := ht.mono s9
    have hcl7 := hcl.mono s9
    have hS7 := s9.seq hS6
    have er7 := s9 _ _ er6
    have zpr7 := zpr6.mono s9
    clear ht hcl hS6 er6 zpr6 sn sb7 hcF s9
    walk_at "go"
    refine ⟨n1, r, a, t, rs, prs, ps, tw, tr, rfl, hcA, rg, er7, zpr7, ht7, by omega, by omega, fun H8 s10 => ?_⟩
    replace hcA := hcA.mono s10
    replace ht7 := ht7.mono s10
    replace hcl7 := hcl7.mono s10
    replace hS7 := s10.seq hS7
    replace er7 := s10 _ _ er7
    replace zpr7 := zpr7.mono s10
    walk_at "go"
    refine ⟨n1, t, L, rs, prs, cs, cl, tw, tr, rfl, hcA, ht7, hcl7, rg, by omega, fun H9 s11 => ?_⟩
    replace hcA := hcA.mono s11
    replace ht7 := ht7.mono s11
    replace hcl7 := hcl7.mono s11
    replace hS7 := s11.seq hS7
    replace er7 := s11 _ _ er7
    replace zpr7 := zpr7.mono s11
    clear s10 s11
    walk_at "go"
    refine ⟨s, ns, 2, rfl, hS7, ?_⟩
    walk_at "go"
    intro e es ne er_
    have s12 := same_new (o := .lst (es.map V.int)) ne
    have ee : (upd H9 e (.lst (es.map V.int))) e = some (.lst (es.map V.int)) := upd_same
    replace hcA := hcA.mono s12
    replace ht7 := ht7.mono s12
    replace hcl7 := hcl7.mono s12
    replace er7 := s12 _ _ er7
    replace zpr7 := zpr7.mono s12
    generalize upd H9 e (.lst (es.map V.int)) = H10 at ee hcA ht7 hcl7 er7 zpr7
    have les : es.length = 40 := er_.1
    clear s12 hS7 ne er_
    dsimp only [List.set]
    walk_at "go"
    refine for_gen (n := n) (fun k σ J => Same H10 J ∧ ∃ v10, σ = [some (.ref s), some (.ref d), some (.int (n : Int)), some (.int (ex : Int)), some (.ref r), some (.ref a), some (.ref L), some (.ref t), some (.ref n1), some (.ref e), v10]) ⟨Same.refl _, _, rfl⟩ ?_ ?_ ?_ ?_
    · intro k σ J hk _
      show k < ((n : Int)).toNat
      omega
    · intro σ J _
      show ((n : Int)).toNat ≤ n
      omega
    · rintro k σ J x J' hk ⟨s13, v10, rfl⟩ ⟨rfl, rfl⟩
      rw [Int.zero_add]
      have ht8 := ht7.mono s13
      have k0 : (0 : Int) ≤ (k : Int) := by omega
      walk_at "go"
      refine ⟨t, _, _, _, rfl, rfl, SqL.of ht8.t, at_0, ?_⟩
      walk_at "go"
      refine ⟨tw, _, _, _, rfl, rfl, SqL.of ht8.w, at_vls k0 (by omega), ?_⟩
      refine ⟨wV_scal _ _, ?_⟩
      rw [Int.toNat_natCast]
      have eup := wV_up (Rz rs prs k)
      cases eu : decide (wV (Rz rs prs k) = V.str "upheld")
      · walk_at "go"
        exact ⟨_, rfl⟩
      · obtain ⟨rk, erk⟩ := eup.mp eu
        walk_at "go"
        refine ⟨e, _, rfl, SqL.of (s13 _ _ ee), fun e2 ne2 => ?_⟩
        rw [cut_from, ← List.map_drop]
        have s14 := s13.trans (same_new (o := .lst ((es.drop k).map V.int)) ne2)
        have ee2 : (upd J' e2 (.lst ((es.drop k).map V.int))) e2 = some (.lst ((es.drop k).map V.int)) := upd_same
        generalize upd J' e2 (.lst ((es.drop k).map V.int)) = J2 at s14 ee2
        walk_at "go"
        refine ⟨n1, t, L, e2, rs, prs, cs, cl, tw, tr, es.drop k, k, rk, rfl, hcA.mono s14, ht7.mono s14, hcl7.mono s14, rg, by omega, SqL.of ee2, by rw [List.length_drop]; omega, by omega, erk, fun J3 s15 => ?_⟩
        walk_at "go"
        exact ⟨s14.trans s15, _, rfl⟩
    · rintro σ J ⟨s13, v10, rfl⟩
      walk_at "go"
      refine ⟨e, _, rfl, SqL.of (s13 _ _ ee), fun e2 ne2 => ?_⟩
      have ec : cutV (es.map V.int) (some (20 : Int)) none = (es.drop 20).map V.int := by rw [show (20 : Int) = ((20 : Nat) : Int) from rfl, cut_from, List.map_drop]
      rw [ec]
      have s14 := s13.trans (same_new (o := .lst ((es.drop 20).map V.int)) ne2)
      have ee2 : (upd J e2 (.lst ((es.drop 20).map V.int))) e2 = some (.lst ((es.drop 20).map V.int)) := upd_same
      generalize upd J e2 (.lst ((es.drop 20).map V.int)) = J2 at s14 ee2
      walk_at "go"
      refine ⟨n1, r, a, t, e2, rs, prs, ps, tw, tr, es.drop 20, rfl, hcA.mono s14, rg, s14 _ _ er7, zpr7.mono s14, ht7.mono s14, by omega, by omega, SqL.of ee2, by rw [List.length_drop]; omega, fun J3 s15 => ?_⟩
      have s16 := s14.trans s15
      walk_at "go"
      exact ⟨n1, t, L, rs, prs, cs, cl, tw, tr, rfl, hcA.mono s16, ht7.mono s16, hcl7.mono s16, rg, by omega, fun J4 _ => q J4⟩
end
end Z
set_option pp.maxSteps 700
set_option Elab.async false
set_option linter.all false
set_option maxRecDepth 100000
set_option maxHeartbeats 4000000
set_option maxHeartbeats 0
namespace Z
open PySem PySem.Spec PyProof.Rows L2 Ru
def d_check_paper : He.DefD := ⟨("check_paper", none), "check_paper", "check_paper", defArgs s_check_paper, defBody s_check_paper, defScope s_check_paper, [], []⟩
def d_counting_answers : He.DefD := ⟨("counting_answers", none), "counting_answers", "counting_answers", defArgs s_counting_answers, defBody s_counting_answers, defScope s_counting_answers, [], []⟩
def d_ruled : He.DefD := ⟨("ruled", none), "ruled", "ruled", defArgs s_ruled, defBody s_ruled, defScope s_ruled, [], []⟩
def d_Case___init__ : He.DefD := ⟨("Case", some "__init__"), "__init__", "Case.__init__", defArgs s_Case___init__, defBody s_Case___init__, defScope s_Case___init__, [], []⟩
def d_Case_ruling : He.DefD := ⟨("Case", some "ruling"), "ruling", "Case.ruling", defArgs s_Case_ruling, defBody s_Case_ruling, defScope s_Case_ruling, [], []⟩
def d_Case_settled : He.DefD := ⟨("Case", some "settled"), "settled", "Case.settled", defArgs s_Case_settled, defBody s_Case_settled, defScope s_Case_settled, [], []⟩
def d_Case_reply : He.DefD := ⟨("Case", some "reply"), "reply", "Case.reply", defArgs s_Case_reply, defBody s_Case_reply, defScope s_Case_reply, [], []⟩
def d_Case_with_paper : He.DefD := ⟨("Case", some "with_paper"), "with_paper", "Case.with_paper", defArgs s_Case_with_paper, defBody s_Case_with_paper, defScope s_Case_with_paper, [], []⟩
def d_cell : He.DefD := ⟨("_law_cell", none), "_law_cell", "_law_cell", defArgs s_cell, defBody s_cell, defScope s_cell, [], []⟩
def d_draws : He.DefD := ⟨("_law_draws", none), "_law_draws", "_law_draws", defArgs s_draws, defBody s_draws, defScope s_draws, [], []⟩
def d_ranks : He.DefD := ⟨("_law_ranks", none), "_law_ranks", "_law_ranks", defArgs s_ranks, defBody s_ranks, defScope s_ranks, [], []⟩
def d_pairs : He.DefD := ⟨("_law_pairs", none), "_law_pairs", "_law_pairs", defArgs s_pairs, defBody s_pairs, defScope s_pairs, [], []⟩
def d_counting : He.DefD := ⟨("_law_counting", none), "_law_counting", "_law_counting", defArgs s_counting, defBody s_counting, defScope s_counting, [], []⟩
def d_law_ruled : He.DefD := ⟨("_law_ruled", none), "_law_ruled", "_law_ruled", defArgs s_law_ruled, defBody s_law_ruled, defScope s_law_ruled, [], []⟩
def d_tells : He.DefD := ⟨("_law_tells", none), "_law_tells", "_law_tells", defArgs s_tells, defBody s_tells, defScope s_tells, [], []⟩
def d_due : He.DefD := ⟨("_law_due", none), "_law_due", "_law_due", defArgs s_due, defBody s_due, defScope s_due, [], []⟩
def d_reply : He.DefD := ⟨("_law_reply", none), "_law_reply", "_law_reply", defArgs s_reply, defBody s_reply, defScope s_reply, [], []⟩
def d_replies : He.DefD := ⟨("_law_replies", none), "_law_replies", "_law_replies", defArgs s_replies, defBody s_replies, defScope s_replies, [], []⟩
def d_dispute : He.DefD := ⟨("_law_dispute", none), "_law_dispute", "_law_dispute", defArgs s_dispute, defBody s_dispute, defScope s_dispute, [], []⟩
def d_reached : He.DefD := ⟨("_law_reached", none), "_law_reached", "_law_reached", defArgs s_reached, defBody s_reached, defScope s_reached, [], []⟩
def d_refuses : He.DefD := ⟨("_law_refuses", none), "_law_refuses", "_law_refuses", defArgs s_refuses, defBody s_refuses, defScope s_refuses, [], []⟩
def d_faults : He.DefD := ⟨("_law_faults", none), "_law_faults", "_law_faults", defArgs s_faults, defBody s_faults, defScope s_faults, [], []⟩
def d_grows : He.DefD := ⟨("_law_grows", none), "_law_grows", "_law_grows", defArgs s_grows, defBody s_grows, defScope s_grows, [], []⟩
def d_law : He.DefD := ⟨("law", none), "law", "law", defArgs s_law, defBody s_law, defScope s_law, [], []⟩
abbrev s_BadPaper___init__ : Stmt := inClass (topS 2) 0
theorem xn_BadPaper {P : Program} {w : World} {K : PySem.W.Frag} {mg : Str → Option Value} {base : Heap} {fl : Str} (h1 : supObs K "BadPaper" = supVal "BadPaper.__init__" s_BadPaper___init__) (h : ExnF K (He.ga K "BadPaper") "BadPaper.__init__" "number" fl) (hfl : ((P.main.file : Str) == fl) = true) (htop : (P.main.scope.names.lookup ("super" : Str)).isSome = false) (g : mg "BadPaper" = some (.ref (He.ga K "BadPaper"))) (m_super : mg "super" = none) : Exn P w K mg base "BadPaper" (He.ga K "BadPaper") "number" := by
  obtain ⟨c, cc, fd, kV, doc, pm, ct, an, hfd, S, hcd⟩ := sup_of h1 h.sup hfl htop
  refine ⟨S.oex, g, He.ma K _ "__init__", fd, ["self", "number"], h.ini, h.ty, ?_, ?_⟩
  · exact exn_ok (v := "number") (F := ⟨"__init__", "BadPaper.__init__", defArgs s_BadPaper___init__, defBody s_BadPaper___init__, defScope s_BadPaper___init__, [("__class__", cc)], c⟩) hfd S hcd (NdefX.nscope_by (sc := defScope s_BadPaper___init__) (by decide +kernel)) rfl rfl rfl (show (defScope s_BadPaper___init__).names.lookup ("super" : Str) = some .globalImplicit by decide +kernel) m_super h.no (by decide) (by decide) rfl (fun _ _ _ _ _ => rfl) (fun _ _ _ _ _ => rfl) (fun _ _ _ _ _ => rfl) (fun _ _ _ _ _ => rfl)
  · subst hfd
    exact Binds.all fun us hl => match us, hl with | [_, _], _ => rfl
abbrev s_NotUpheld___init__ : Stmt := inClass (topS 4) 0
theorem xn_NotUpheld {P : Program} {w : World} {K : PySem.W.Frag} {mg : Str → Option Value} {base : Heap} {fl : Str} (h1 : supObs K "NotUpheld" = supVal "NotUpheld.__init__" s_NotUpheld___init__) (h : ExnF K (He.ga K "NotUpheld") "NotUpheld.__init__" "number" fl) (hfl : ((P.main.file : Str) == fl) = true) (htop : (P.main.scope.names.lookup ("super" : Str)).isSome = false) (g : mg "NotUpheld" = some (.ref (He.ga K "NotUpheld"))) (m_super : mg "super" = none) : Exn P w K mg base "NotUpheld" (He.ga K "NotUpheld") "number" := by
  obtain ⟨c, cc, fd, kV, doc, pm, ct, an, hfd, S, hcd⟩ := sup_of h1 h.sup hfl htop
  refine ⟨S.oex, g, He.ma K _ "__init__", fd, ["self", "number"], h.ini, h.ty, ?_, ?_⟩
  · exact exn_ok (v := "number") (F := ⟨"__init__", "NotUpheld.__init__", defArgs s_NotUpheld___init__, defBody s_NotUpheld___init__, defScope s_NotUpheld___init__, [("__class__", cc)], c⟩) hfd S hcd (NdefX.nscope_by (sc := defScope s_NotUpheld___init__) (by decide +kernel)) rfl rfl rfl (show (defScope s_NotUpheld___init__).names.lookup ("super" : Str) = some .globalImplicit by decide +kernel) m_super h.no (by decide) (by decide) rfl (fun _ _ _ _ _ => rfl) (fun _ _ _ _ _ => rfl) (fun _ _ _ _ _ => rfl) (fun _ _ _ _ _ => rfl)
  · subst hfd
    exact Binds.all fun us hl => match us, hl with | [_, _], _ => rfl
abbrev s_NoAnswer___init__ : Stmt := inClass (topS 3) 0
theorem xn_NoAnswer {P : Program} {w : World} {K : PySem.W.Frag} {mg : Str → Option Value} {base : Heap} {fl : Str} (h1 : supObs K "NoAnswer" = supVal "NoAnswer.__init__" s_NoAnswer___init__) (h : ExnF K (He.ga K "NoAnswer") "NoAnswer.__init__" "number" fl) (hfl : ((P.main.file : Str) == fl) = true) (htop : (P.main.scope.names.lookup ("super" : Str)).isSome = false) (g : mg "NoAnswer" = some (.ref (He.ga K "NoAnswer"))) (m_super : mg "super" = none) : Exn P w K mg base "NoAnswer" (He.ga K "NoAnswer") "number" := by
  obtain ⟨c, cc, fd, kV, doc, pm, ct, an, hfd, S, hcd⟩ := sup_of h1 h.sup hfl htop
  refine ⟨S.oex, g, He.ma K _ "__init__", fd, ["self", "number"], h.ini, h.ty, ?_, ?_⟩
  · exact exn_ok (v := "number") (F := ⟨"__init__", "NoAnswer.__init__", defArgs s_NoAnswer___init__, defBody s_NoAnswer___init__, defScope s_NoAnswer___init__, [("__class__", cc)], c⟩) hfd S hcd (NdefX.nscope_by (sc := defScope s_NoAnswer___init__) (by decide +kernel)) rfl rfl rfl (show (defScope s_NoAnswer___init__).names.lookup ("super" : Str) = some .globalImplicit by decide +kernel) m_super h.no (by decide) (by decide) rfl (fun _ _ _ _ _ => rfl) (fun _ _ _ _ _ => rfl) (fun _ _ _ _ _ => rfl) (fun _ _ _ _ _ => rfl)
  · subst hfd
    exact Binds.all fun us hl => match us, hl with | [_, _], _ => rfl
def xns : List (PySem.W.Frag → SupV) := [fun K => supObs K "BadPaper", fun K => supObs K "NotUpheld", fun K => supObs K "NoAnswer"]
def exPr (K : PySem.W.Frag) : List Bool := []
def xvs : List SupV := [supVal "BadPaper.__init__" s_BadPaper___init__, supVal "NotUpheld.__init__" s_NotUpheld___init__, supVal "NoAnswer.__init__" s_NoAnswer___init__]
def exXn (fl : Str) (K : PySem.W.Frag) : List Bool := [exnB fl "BadPaper.__init__" "number" K (He.ga K "BadPaper"), exnB fl "NotUpheld.__init__" "number" K (He.ga K "NotUpheld"), exnB fl "NoAnswer.__init__" "number" K (He.ga K "NoAnswer")]
def fn : List He.DefD := [d_check_paper, d_counting_answers, d_ruled, d_Case___init__, d_Case_ruling, d_Case_settled, d_Case_reply, d_Case_with_paper, d_cell, d_draws, d_ranks, d_pairs, d_counting, d_law_ruled, d_tells, d_due, d_reply, d_replies, d_dispute, d_reached, d_refuses, d_faults, d_grows, d_law]
def fa : List He.Fa := [.glo "check_paper", .glo "counting_answers", .glo "ruled", .glo "_law_cell", .glo "_law_draws", .glo "_law_ranks", .glo "_law_pairs", .glo "_law_counting", .glo "_law_ruled", .glo "_law_tells", .glo "_law_due", .glo "_law_reply", .glo "_law_replies", .glo "_law_dispute", .glo "_law_reached", .glo "_law_refuses", .glo "_law_faults", .glo "_law_grows", .glo "law", .free "ValueError", .free "abs", .free "all", .free "any", .free "bool", .free "enumerate", .free "int", .free "isinstance", .free "len", .free "list", .free "min", .free "range", .free "sorted", .free "super", .free "tuple", .glo "Case", .cls "Case", .mkr "Case", .noat "Case" "ranks", .noat "Case" "answers", .noat "Case" "kept_counting", .noat "Case" "kept_rounds", .noat "Case" "kept_words", .meth "Case" "ruling", .meth "Case" "settled", .meth "Case" "reply", .meth "Case" "with_paper", .glo "HouseError", .glo "BadPaper", .glo "NotUpheld", .glo "NoAnswer"]
def loose : List Str := [("HouseError" : Str), ("BadPaper" : Str), ("NoAnswer" : Str), ("NotUpheld" : Str), ("check_paper" : Str), ("counting_answers" : Str), ("ruled" : Str), ("Case" : Str), ("_law_cell" : Str), ("_law_draws" : Str), ("_law_ranks" : Str), ("_law_pairs" : Str), ("_law_counting" : Str), ("_law_ruled" : Str), ("_law_tells" : Str), ("_law_due" : Str), ("_law_reply" : Str), ("_law_replies" : Str), ("_law_dispute" : Str), ("_law_reached" : Str), ("_law_refuses" : Str), ("_law_faults" : Str), ("_law_grows" : Str)]
def fl : Str := PySem.Challenge.pw_signedpacts_k92_whole_dispute_replies.main.file
def exF0 (K : PySem.W.Frag) (a b : Addr) : Bool := decide (PySem.W.exmOne K (.ref a) (.ref b) = some false)
def exL0 (K : PySem.W.Frag) : List Bool := [isB K (He.ga K "Case"), exmB K (He.ga K "BadPaper") (He.ga K "BadPaper"), exF0 K (He.ga K "NotUpheld") (He.ga K "BadPaper"), exmB K (He.ga K "NotUpheld") (He.ga K "NotUpheld"),
  exF0 K (He.ga K "NoAnswer") (He.ga K "BadPaper"), exF0 K (He.ga K "NoAnswer") (He.ga K "NotUpheld"), exmB K (He.ga K "NoAnswer") (He.ga K "NoAnswer"), kitVB K (He.ga K "BadPaper") (.ref (He.ga K "HouseError")) true]
def ex (K : PySem.W.Frag) : Bool := (exL0 K).all id && ((exXn fl K).all id && (exPr K).all id)
abbrev R : PySem.W.OpenRow := PySem.W.OpenLaw.row PySem.Challenge.rw_signedpacts_k92_whole_dispute_replies
abbrev hk : PySem.W.Hook := hookY 5 fa fn xns xvs ex
def ob (s : PySem.W.SharedT) : He.AlD × (List SupV × Bool) := obY 5 fa fn xns ex (HandSHeadRun.getT s)
theorem ob_eq (s : PySem.W.SharedT) : ob s = hk.obs s.abs := obY_eq (HandSHeadRun.getT_eq s)
theorem run (w : World) : HandSHeadRun.RunEq R (PySem.W.view R.prog [26]) hk ob 8000 loose w := by
  intro os
  kernel_rfl
theorem facts {P : Program} {w : World} {K : PySem.W.Frag} {h : Heap} {mg : Str → Option Value} {f : Addr} (X : K.In h) (G : h.Ns mainGlobals mg) (hfa : mg ("law" : Str) = some (.ref f)) (c : He.SaysD fa fn K) (cs : xns.map (fun f => f K) = xvs) (cx : ex K = true) (hfl : ((P.main.file : Str) == fl) = true) (htop : (P.main.scope.names.lookup ("super" : Str)).isSome = false) :
    ∃ fd : FuncData, (∀ (s : Shared) (v : Value), BindsTo s fd ⟨[v], []⟩ [("_law_script", v)]) ∧ ∀ base : Heap, K.In base → base.Ns mainGlobals mg → FnOk P w K mg base CX0 11 f fd ["_law_script"] (spLaw K) := by
  obtain ⟨cx, cy⟩ := He.ba cx
  obtain ⟨cy, cp⟩ := He.ba cy
  obtain ⟨fd_check_paper, F_check_paper⟩ := c.def_ 0 (d := d_check_paper) rfl
  have F_check_paper : FnP K "check_paper" s_check_paper _ fd_check_paper := F_check_paper
  have g_check_paper := He.glo_ok X G (c.fact 0 (f := .glo "check_paper") rfl)
  have b_check_paper : Binds K fd_check_paper P_check_paper [] := F_check_paper.bindsN fun _ _ _ _ _ _ us hl => match us, hl with | [_, _], _ => rfl
  obtain ⟨fd_counting_answers, F_counting_answers⟩ := c.def_ 1 (d := d_counting_answers) rfl
  have F_counting_answers : FnP K "counting_answers" s_counting_answers _ fd_counting_answers := F_counting_answers
  have g_counting_answers := He.glo_ok X G (c.fact 1 (f := .glo "counting_answers") rfl)
  have b_counting_answers : Binds K fd_counting_answers P_counting_answers [] := F_counting_answers.bindsN fun _ _ _ _ _ _ us hl => match us, hl with | [_, _], _ => rfl
  obtain ⟨fd_ruled, F_ruled⟩ := c.def_ 2 (d := d_ruled) rfl
  have F_ruled : FnP K "ruled" s_ruled _ fd_ruled := F_ruled
  have g_ruled := He.glo_ok X G (c.fact 2 (f := .glo "ruled") rfl)
  have b_ruled : Binds K fd_ruled P_ruled [] := F_ruled.bindsN fun _ _ _ _ _ _ us hl => match us, hl with | [_], _ => rfl
  obtain ⟨fd_Case___init__, F_Case___init__⟩ := c.def_ 3 (d := d_Case___init__) rfl
  have F_Case___init__ : FnM K "__init__" "Case.__init__" s_Case___init__ (He.ma K (He.ga K "Case") "__init__") fd_Case___init__ := F_Case___init__
  have b_Case___init__ : Binds K fd_Case___init__ P_Case___init__ [] := F_Case___init__.bindsN fun _ _ _ _ _ _ us hl => match us, hl with | [_, _, _], _ => rfl
  obtain ⟨fd_Case_ruling, F_Case_ruling⟩ := c.def_ 4 (d := d_Case_ruling) rfl
  have F_Case_ruling : FnM K "ruling" "Case.ruling" s_Case_ruling (He.ma K (He.ga K "Case") "ruling") fd_Case_ruling := F_Case_ruling
  have b_Case_ruling : Binds K fd_Case_ruling P_Case_ruling [] := F_Case_ruling.bindsN fun _ _ _ _ _ _ us hl => match us, hl with | [_], _ => rfl
  obtain ⟨fd_Case_settled, F_Case_settled⟩ := c.def_ 5 (d := d_Case_settled) rfl
  have F_Case_settled : FnM K "settled" "Case.settled" s_Case_settled (He.ma K (He.ga K "Case") "settled") fd_Case_settled := F_Case_settled
  have b_Case_settled : Binds K fd_Case_settled P_Case_settled [] := F_Case_settled.bindsN fun _ _ _ _ _ _ us hl => match us, hl with | [_], _ => rfl
  obtain ⟨fd_Case_reply, F_Case_reply⟩ := c.def_ 6 (d := d_Case_reply) rfl
  have F_Case_reply : FnM K "reply" "Case.reply" s_Case_reply (He.ma K (He.ga K "Case") "reply") fd_Case_reply := F_Case_reply
  have b_Case_reply : Binds K fd_Case_reply P_Case_reply [] := F_Case_reply.bindsN fun _ _ _ _ _ _ us hl => match us, hl with | [_, _, _], _ => rfl
  obtain ⟨fd_Case_with_paper, F_Case_with_paper⟩ := c.def_ 7 (d := d_Case_with_paper) rfl
  have F_Case_with_paper : FnM K "with_paper" "Case.with_paper" s_Case_with_paper (He.ma K (He.ga K "Case") "with_paper") fd_Case_with_paper := F_Case_with_paper
  have b_Case_with_paper : Binds K fd_Case_with_paper P_Case_with_paper [] := F_Case_with_paper.bindsN fun _ _ _ _ _ _ us hl => match us, hl with | [_, _, _, _], _ => rfl
  obtain ⟨fd_cell, F_cell⟩ := c.def_ 8 (d := d_cell) rfl
  have F_cell : FnP K "_law_cell" s_cell _ fd_cell := F_cell
  have g_cell := He.glo_ok X G (c.fact 3 (f := .glo "_law_cell") rfl)
  have b_cell : Binds K fd_cell P_cell [] := F_cell.bindsN fun _ _ _ _ _ _ us hl => match us, hl with | [_, _], _ => rfl
  obtain ⟨fd_draws, F_draws⟩ := c.def_ 9 (d := d_draws) rfl
  have F_draws : FnP K "_law_draws" s_draws _ fd_draws := F_draws
  have g_draws := He.glo_ok X G (c.fact 4 (f := .glo "_law_draws") rfl)
  have b_draws : Binds K fd_draws P_draws [] := F_draws.bindsN fun _ _ _ _ _ _ us hl => match us, hl with | [_, _], _ => rfl
  obtain ⟨fd_ranks, F_ranks⟩ := c.def_ 10 (d := d_ranks) rfl
  have F_ranks : FnP K "_law_ranks" s_ranks _ fd_ranks := F_ranks
  have g_ranks := He.glo_ok X G (c.fact 5 (f := .glo "_law_ranks") rfl)
  have b_ranks : Binds K fd_ranks P_ranks [] := F_ranks.bindsN fun _ _ _ _ _ _ us hl => match us, hl with | [_, _, _], _ => rfl
  obtain ⟨fd_pairs, F_pairs⟩ := c.def_ 11 (d := d_pairs) rfl
  have F_pairs : FnP K "_law_pairs" s_pairs _ fd_pairs := F_pairs
  have g_pairs := He.glo_ok X G (c.fact 6 (f := .glo "_law_pairs") rfl)
  have b_pairs : Binds K fd_pairs P_pairs [] := F_pairs.bindsN fun _ _ _ _ _ _ us hl => match us, hl with | [_, _, _, _], _ => rfl
  obtain ⟨fd_counting, F_counting⟩ := c.def_ 12 (d := d_counting) rfl
  have F_counting : FnP K "_law_counting" s_counting _ fd_counting := F_counting
  have g_counting := He.glo_ok X G (c.fact 7 (f := .glo "_law_counting") rfl)
  have b_counting : Binds K fd_counting P_counting [] := F_counting.bindsN fun _ _ _ _ _ _ us hl => match us, hl with | [_, _], _ => rfl
  obtain ⟨fd_law_ruled, F_law_ruled⟩ := c.def_ 13 (d := d_law_ruled) rfl
  have F_law_ruled : FnP K "_law_ruled" s_law_ruled _ fd_law_ruled := F_law_ruled
  have g_law_ruled := He.glo_ok X G (c.fact 8 (f := .glo "_law_ruled") rfl)
  have b_law_ruled : Binds K fd_law_ruled P_law_ruled [] := F_law_ruled.bindsN fun _ _ _ _ _ _ us hl => match us, hl with | [_], _ => rfl
  obtain ⟨fd_tells, F_tells⟩ := c.def_ 14 (d := d_tells) rfl
  have F_tells : FnP K "_law_tells" s_tells _ fd_tells := F_tells
  have g_tells := He.glo_ok X G (c.fact 9 (f := .glo "_law_tells") rfl)
  have b_tells : Binds K fd_tells P_tells [] := F_tells.bindsN fun _ _ _ _ _ _ us hl => match us, hl with | [_, _, _, _], _ => rfl
  obtain ⟨fd_due, F_due⟩ := c.def_ 15 (d := d_due) rfl
  have F_due : FnP K "_law_due" s_due _ fd_due := F_due
  have g_due := He.glo_ok X G (c.fact 10 (f := .glo "_law_due") rfl)
  have b_due : Binds K fd_due P_due [] := F_due.bindsN fun _ _ _ _ _ _ us hl => match us, hl with | [_, _, _, _], _ => rfl
  obtain ⟨fd_reply, F_reply⟩ := c.def_ 16 (d := d_reply) rfl
  have F_reply : FnP K "_law_reply" s_reply _ fd_reply := F_reply
  have g_reply := He.glo_ok X G (c.fact 11 (f := .glo "_law_reply") rfl)
  have b_reply : Binds K fd_reply P_reply [] := F_reply.bindsN fun _ _ _ _ _ _ us hl => match us, hl with | [_, _, _], _ => rfl
  obtain ⟨fd_replies, F_replies⟩ := c.def_ 17 (d := d_replies) rfl
  have F_replies : FnP K "_law_replies" s_replies _ fd_replies := F_replies
  have g_replies := He.glo_ok X G (c.fact 12 (f := .glo "_law_replies") rfl)
  have b_replies : Binds K fd_replies P_replies [] := F_replies.bindsN fun _ _ _ _ _ _ us hl => match us, hl with | [_, _, _], _ => rfl
  obtain ⟨fd_dispute, F_dispute⟩ := c.def_ 18 (d := d_dispute) rfl
  have F_dispute : FnP K "_law_dispute" s_dispute _ fd_dispute := F_dispute
  have g_dispute := He.glo_ok X G (c.fact 13 (f := .glo "_law_dispute") rfl)
  have b_dispute : Binds K fd_dispute P_dispute [] := F_dispute.bindsN fun _ _ _ _ _ _ us hl => match us, hl with | [_, _, _, _, _], _ => rfl
  obtain ⟨fd_reached, F_reached⟩ := c.def_ 19 (d := d_reached) rfl
  have F_reached : FnP K "_law_reached" s_reached _ fd_reached := F_reached
  have g_reached := He.glo_ok X G (c.fact 14 (f := .glo "_law_reached") rfl)
  have b_reached : Binds K fd_reached P_reached [] := F_reached.bindsN fun _ _ _ _ _ _ us hl => match us, hl with | [_, _], _ => rfl
  obtain ⟨fd_refuses, F_refuses⟩ := c.def_ 20 (d := d_refuses) rfl
  have F_refuses : FnP K "_law_refuses" s_refuses _ fd_refuses := F_refuses
  have g_refuses := He.glo_ok X G (c.fact 15 (f := .glo "_law_refuses") rfl)
  have b_refuses : Binds K fd_refuses P_refuses [] := F_refuses.bindsN fun _ _ _ _ _ _ us hl => match us, hl with | [_, _, _, _, _], _ => rfl
  obtain ⟨fd_faults, F_faults⟩ := c.def_ 21 (d := d_faults) rfl
  have F_faults : FnP K "_law_faults" s_faults _ fd_faults := F_faults
  have g_faults := He.glo_ok X G (c.fact 16 (f := .glo "_law_faults") rfl)
  have b_faults : Binds K fd_faults P_faults [] := F_faults.bindsN fun _ _ _ _ _ _ us hl => match us, hl with | [_, _, _, _, _], _ => rfl
  obtain ⟨fd_grows, F_grows⟩ := c.def_ 22 (d := d_grows) rfl
  have F_grows : FnP K "_law_grows" s_grows _ fd_grows := F_grows
  have g_grows := He.glo_ok X G (c.fact 17 (f := .glo "_law_grows") rfl)
  have b_grows : Binds K fd_grows P_grows [] := F_grows.bindsN fun _ _ _ _ _ _ us hl => match us, hl with | [_, _, _, _, _], _ => rfl
  obtain ⟨fd_law, F_law⟩ := c.def_ 23 (d := d_law) rfl
  have F_law : FnP K "law" s_law _ fd_law := F_law
  have g_law := He.glo_ok X G (c.fact 18 (f := .glo "law") rfl)
  have m_ValueError := He.free_ok X G (c.fact 19 (f := .free "ValueError") rfl)
  have m_abs := He.free_ok X G (c.fact 20 (f := .free "abs") rfl)
  have m_all := He.free_ok X G (c.fact 21 (f := .free "all") rfl)
  have m_any := He.free_ok X G (c.fact 22 (f := .free "any") rfl)
  have m_bool := He.free_ok X G (c.fact 23 (f := .free "bool") rfl)
  have m_enumerate := He.free_ok X G (c.fact 24 (f := .free "enumerate") rfl)
  have m_int := He.free_ok X G (c.fact 25 (f := .free "int") rfl)
  have m_isinstance := He.free_ok X G (c.fact 26 (f := .free "isinstance") rfl)
  have m_len := He.free_ok X G (c.fact 27 (f := .free "len") rfl)
  have m_list := He.free_ok X G (c.fact 28 (f := .free "list") rfl)
  have m_min := He.free_ok X G (c.fact 29 (f := .free "min") rfl)
  have m_range := He.free_ok X G (c.fact 30 (f := .free "range") rfl)
  have m_sorted := He.free_ok X G (c.fact 31 (f := .free "sorted") rfl)
  have m_super := He.free_ok X G (c.fact 32 (f := .free "super") rfl)
  have m_tuple := He.free_ok X G (c.fact 33 (f := .free "tuple") rfl)
  have g_Case := He.glo_ok X G (c.fact 34 (f := .glo "Case") rfl)
  have cls_Case := He.cls_ok (c.fact 35 (f := .cls "Case") rfl)
  have mk_Case := He.mkr_ok (c.fact 36 (f := .mkr "Case") rfl)
  have n_Case_ranks := He.noat_ok (c.fact 37 (f := .noat "Case" "ranks") rfl)
  have n_Case_answers := He.noat_ok (c.fact 38 (f := .noat "Case" "answers") rfl)
  have n_Case_kept_counting := He.noat_ok (c.fact 39 (f := .noat "Case" "kept_counting") rfl)
  have n_Case_kept_rounds := He.noat_ok (c.fact 40 (f := .noat "Case" "kept_rounds") rfl)
  have n_Case_kept_words := He.noat_ok (c.fact 41 (f := .noat "Case" "kept_words") rfl)
  have me_Case_ruling := He.meth_ok (c.fact 42 (f := .meth "Case" "ruling") rfl)
  have me_Case_settled := He.meth_ok (c.fact 43 (f := .meth "Case" "settled") rfl)
  have me_Case_reply := He.meth_ok (c.fact 44 (f := .meth "Case" "reply") rfl)
  have me_Case_with_paper := He.meth_ok (c.fact 45 (f := .meth "Case" "with_paper") rfl)
  have g_HouseError := He.glo_ok X G (c.fact 46 (f := .glo "HouseError") rfl)
  have g_BadPaper := He.glo_ok X G (c.fact 47 (f := .glo "BadPaper") rfl)
  have g_NotUpheld := He.glo_ok X G (c.fact 48 (f := .glo "NotUpheld") rfl)
  have g_NoAnswer := He.glo_ok X G (c.fact 49 (f := .glo "NoAnswer") rfl)
  have f_BadPaper := exnB_ok (all_at cy 0)
  have x_BadPaper : ∀ base : Heap, Exn P w K mg base "BadPaper" (He.ga K "BadPaper") "number" := fun base => xn_BadPaper (y_at cs 0) f_BadPaper hfl htop g_BadPaper m_super
  have f_NotUpheld := exnB_ok (all_at cy 1)
  have x_NotUpheld : ∀ base : Heap, Exn P w K mg base "NotUpheld" (He.ga K "NotUpheld") "number" := fun base => xn_NotUpheld (y_at cs 1) f_NotUpheld hfl htop g_NotUpheld m_super
  have f_NoAnswer := exnB_ok (all_at cy 2)
  have x_NoAnswer : ∀ base : Heap, Exn P w K mg base "NoAnswer" (He.ga K "NoAnswer") "number" := fun base => xn_NoAnswer (y_at cs 2) f_NoAnswer hfl htop g_NoAnswer m_super
  have isC := isB_ok cls_Case (all_at cx 0)
  have teBB := of_decide_eq_true (all_at cx 1)
  have teUB := of_decide_eq_true (all_at cx 2)
  have teUU := of_decide_eq_true (all_at cx 3)
  have teNB := of_decide_eq_true (all_at cx 4)
  have teNU := of_decide_eq_true (all_at cx 5)
  have teNN := of_decide_eq_true (all_at cx 6)
  have kBH := of_decide_eq_true (all_at cx 7)
  have e := hfa.symm.trans g_law
  cases e
  have b := FunD.bindsA (ps := ["_law_script"]) F_law fun _ _ _ _ _ _ us hl => match us, hl with | [_], _ => rfl
  refine ⟨fd_law, fun s v => b s [v] rfl, fun base _ _ => ?_⟩
  have c_cell : Cal P w K mg base 1 "_law_cell" (spCell K) := cal_of F_cell g_cell b_cell (ok_cell F_cell m_len m_int)
  have c_draws : Cal P w K mg base 1 "_law_draws" spDraws := cal_of F_draws g_draws b_draws (ok_draws F_draws m_int m_abs m_range)
  have c_check_paper : CalX P w K mg base 3 "check_paper" (spChkP (He.ga K "BadPaper")) := ⟨_, _, _, ok_check_paper F_check_paper (x_BadPaper base), g_check_paper, F_check_paper.kp, b_check_paper⟩
  have c_counting_answers : Cal P w K mg base 1 "counting_answers" (spCntA K) := cal_of F_counting_answers g_counting_answers b_counting_answers (ok_counting_answers F_counting_answers m_list m_sorted)
  have c_ruled : Cal P w K mg base 1 "ruled" (spRuled K) := cal_of F_ruled g_ruled b_ruled (ok_ruled F_ruled m_len m_range m_enumerate m_all m_any m_tuple)
  have k_Case : MakX P w K mg base 4 "Case" (He.ga K "Case") (spCase (He.ga K "Case") (He.ga K "BadPaper") K) := ⟨_, _, _, mk_Case, ok_init F_Case___init__ cls_Case n_Case_ranks n_Case_answers n_Case_kept_counting n_Case_kept_rounds n_Case_kept_words m_len m_tuple c_check_paper c_counting_answers c_ruled, g_Case, b_Case___init__⟩
  have me_ruling : Met P w K mg base 1 (He.ga K "Case") "ruling" (spRuling (He.ga K "Case") K) := ⟨_, _, _, cls_Case, me_Case_ruling, ok_ruling F_Case_ruling cls_Case n_Case_kept_words, b_Case_ruling⟩
  have me_settled : Met P w K mg base 1 (He.ga K "Case") "settled" (spSettled (He.ga K "Case") K) := ⟨_, _, _, cls_Case, me_Case_settled, ok_settled F_Case_settled cls_Case n_Case_kept_rounds, b_Case_settled⟩
  have me_reply : MetX P w K mg base 4 (He.ga K "Case") "reply" (spReply (He.ga K "Case") (He.ga K "BadPaper") (He.ga K "NotUpheld") (He.ga K "NoAnswer") K) := ⟨_, _, _, cls_Case, me_Case_reply, ok_mreply F_Case_reply cls_Case n_Case_ranks n_Case_kept_counting n_Case_kept_rounds n_Case_kept_words m_len m_min c_check_paper (x_NotUpheld base) (x_NoAnswer base), b_Case_reply⟩
  have me_with_paper : MetX P w K mg base 6 (He.ga K "Case") "with_paper" (spWith (He.ga K "Case") (He.ga K "BadPaper") K) := ⟨_, _, _, cls_Case, me_Case_with_paper, ok_with_paper F_Case_with_paper cls_Case n_Case_ranks n_Case_answers m_len m_list m_tuple c_check_paper k_Case, b_Case_with_paper⟩
  have c_ranks : Cal P w K mg base 1 "_law_ranks" (spRanks K) := cal_of F_ranks g_ranks b_ranks (ok_ranks F_ranks m_range m_int)
  have c_counting : Cal P w K mg base 1 "_law_counting" (spCounting K) := cal_of F_counting g_counting b_counting (ok_counting F_counting)
  have c_pairs : Cal P w K mg base 2 "_law_pairs" (spPairs K) := cal_of F_pairs g_pairs b_pairs (ok_pairs F_pairs m_range m_len m_int c_cell c_draws)
  have c_law_ruled : Cal P w K mg base 1 "_law_ruled" (spLRuled K) := cal_of F_law_ruled g_law_ruled b_law_ruled (ok_law_ruled F_law_ruled m_len m_range m_all m_any)
  have c_tells : Cal P w K mg base 2 "_law_tells" (spTells (He.ga K "Case") K) := cal_of F_tells g_tells b_tells (ok_tells F_tells isC m_isinstance g_Case cls_Case n_Case_ranks n_Case_answers m_tuple me_ruling me_settled)
  have c_due : Cal P w K mg base 1 "_law_due" (spDue K) := cal_of F_due g_due b_due (ok_due F_due m_len)
  have c_reply : Cal P w K mg base 6 "_law_reply" (spLReply (He.ga K "Case") K) := cal_of F_reply g_reply b_reply (ok_reply F_reply m_isinstance m_int m_bool m_ValueError g_BadPaper g_NotUpheld g_NoAnswer g_HouseError f_BadPaper.xf f_NotUpheld.xf f_NoAnswer.xf f_BadPaper.no f_NotUpheld.no f_NoAnswer.no teBB teUB teUU teNB teNU teNN me_reply)
  have c_replies : Cal P w K mg base 7 "_law_replies" (spReplies (He.ga K "Case") K) := cal_of F_replies g_replies b_replies (ok_replies F_replies m_len m_range c_reply c_due)
  have c_dispute : Cal P w K mg base 6 "_law_dispute" (spDisp (He.ga K "Case") K) := cal_of F_dispute g_dispute b_dispute (ok_dispute F_dispute m_len m_range m_int me_reply)
  have c_reached : Cal P w K mg base 1 "_law_reached" (spReached K) := cal_of F_reached g_reached b_reached (ok_reached F_reached m_len m_range m_any)
  have c_refuses : Cal P w K mg base 8 "_law_refuses" (spLRef (He.ga K "Case") K) := cal_of F_refuses g_refuses b_refuses (ok_refuses F_refuses m_isinstance g_BadPaper g_HouseError f_BadPaper.xf f_BadPaper.no f_BadPaper.ec teBB kBH me_with_paper)
  have c_faults : Cal P w K mg base 9 "_law_faults" (spLFaults (He.ga K "Case") K) := cal_of F_faults g_faults b_faults (ok_faults F_faults cls_Case n_Case_ranks m_len m_int m_list c_refuses)
  have c_grows : Cal P w K mg base 10 "_law_grows" (spGrows (He.ga K "Case") K) := cal_of F_grows g_grows b_grows (ok_grows F_grows cls_Case m_len m_range m_int m_list m_any me_with_paper me_ruling me_settled c_counting c_law_ruled c_tells c_reached c_reply c_due c_faults)
  exact ok_law F_law cls_Case m_int m_range c_cell c_draws c_ranks c_pairs k_Case c_counting c_law_ruled c_tells c_replies c_dispute c_grows
end Z
open PySem PySem.W PySem.Calls PyProof.Rows
theorem PySem.Challenge.cw_signedpacts_k92_whole_dispute_replies_holds : PySem.Challenge.rw_signedpacts_k92_whole_dispute_replies.Holds := by
  w_on; o_law
  refine HandSHeadRun.head_any (r := OpenLaw.row PySem.Challenge.rw_signedpacts_k92_whole_dispute_replies) (q := view (OpenLaw.row PySem.Challenge.rw_signedpacts_k92_whole_dispute_replies).prog [26]) (H := Z.hk) (ob := Z.ob) (M := 8000) (loose := Z.loose) (d := HandSHeadRun.topDef (OpenLaw.row PySem.Challenge.rw_signedpacts_k92_whole_dispute_replies).prog 26) (kwd := []) Z.ob_eq
    (by kernel_rfl) (fun s => by kernel_rfl) Z.run (by kernel_rfl) (by kernel_rfl) (by kernel_rfl) (by rfl) (by first | assumption | decide +kernel) (by decide +kernel) ⟨rfl, rfl, rfl, rfl, rfl, by decide +kernel⟩ ?hw ?hc
  case hw => w_witness2
  case hc =>
    refine L2.walk_ofE (l := PySem.Challenge.rw_signedpacts_k92_whole_dispute_replies) (n := 63) (k := 11) (x := "_law_script") (CX := L2.CX0) rfl (by decide) (by kernel_rfl) ⟨rfl, by decide, by decide⟩ ?F (fun _ _ _ _ z => z)
    intro w mg fa h Y G hmg0
    obtain ⟨K, KX, c, cs, cx⟩ := Y
    have hmg : mg ("law" : PySem.Str) = some (.ref fa) := by
      have e : (HandSHeadRun.topDef (OpenLaw.row PySem.Challenge.rw_signedpacts_k92_whole_dispute_replies).prog 26).name = ("law" : PySem.Str) := by kernel_rfl
      rw [← e]
      exact hmg0
    obtain ⟨fd, hb, hF⟩ := Z.facts (P := (PySem.Challenge.rw_signedpacts_k92_whole_dispute_replies).prog) (w := w) KX G hmg c cs cx (by kernel_rfl) (by kernel_rfl)
    exact ⟨K, fd, Z.spLaw K, KX, hb, fun H a ns hl _ hS => ⟨a, ns, rfl, hS, hl, fun _ => rfl⟩, hF⟩
