import PyProof.Rows.All
import Wide.All
import OpenK.AllK
import Wide.FinOn
import HandS.ForMost
import HandS.Zip
import HandS.TupMul
import HandS.Codes
import KE.GoesMore
import KE.GoesEnum
import HandS.Defaults
import HandS.IsInst
import HandS.Wide
import HandS.WideBits
import HandS.NoneIn
import HandS.OwnEq
import HandS.Star
import HandS.SetTxtIn
import HandS.ExcInit
import HandS.ExcField
import HandS.ExcIs
import HandS.Nested
import HandS.ClsMeth
import HandS.HeadHook1
import KE.KSuper
import KE.KExcSuper
import HandS.WordsExc
import HandS.ExcInitHot
import KE.KExcIs
import HandS.HeadHook2
import HandS.Property
import KE.KOpsOwn
import HandS.TupAny
import KE.KEqDeep
import HandS.Conv
import HandS.Head0
import HandS.Head1
import HandS.Head2
import HandS.HeadEnd
import PySem.Challenge.RW_signedpacts_k63_whole_ring_and_pace
set_option Elab.async false
set_option linter.all false
set_option maxRecDepth 100000
set_option maxHeartbeats 4000000
namespace Z
open PySem PySem.Spec PyProof.Rows L2
/-! ### zip over two sequences, each a list (true) or a tuple (false) -/
def SqK (b : Bool) (K : PySem.W.Frag) (H : Hp) (a : Addr) (xs : List V) : Prop := match b with
  | true => SqL K H a xs
  | false => SqT K H a xs
def ItK (b : Bool) (h : Heap) (it l : Addr) (i : Nat) : Prop := match b with
  | true => h.IsListIter it l i
  | false => h.IsTupleIter it l i
def IsK (b : Bool) (h : Heap) (l : Addr) (xs : Array Value) : Prop := match b with
  | true => h.IsList l xs
  | false => h.IsTuple l xs
theorem ItK.at' {b : Bool} {h h' : Heap} {it l : Addr} {i : Nat} (x : ItK b h it l i) (k : ∀ o, h.get? it = some o → h'.get? it = some o) : ItK b h' it l i := by
  cases b
  · exact Heap.IsTupleIter.at x k
  · exact Heap.IsListIter.at x k
theorem ItK.obj {b : Bool} {h : Heap} {it l : Addr} {i : Nat} (x : ItK b h it l i) : ∃ o, h.get? it = some o ∧ ∀ v, o.data ≠ .cell v := by
  cases b
  · obtain ⟨o, e, _, d⟩ := (show h.IsTupleIter it l i from x)
    exact ⟨o, e, fun v q => by rw [d] at q; cases q⟩
  · obtain ⟨o, e, _, d⟩ := (show h.IsListIter it l i from x)
    exact ⟨o, e, fun v q => by rw [d] at q; cases q⟩
theorem sqk_is {X : Cx} {pins : List (Addr × Obj)} {σ : L2.St} {H : Hp} {s : Shared} {b : Bool} {a : Addr} {xs : List V} (I : Inv X pins σ H s) (h : SqK b X.K H a xs) :
    ∃ its : List Value, Vals xs its ∧ IsK b s.heap a its.toArray ∧ a < s.heap.objs.size := by
  cases b
  · obtain ⟨its, r, p, _⟩ := I.tuple h
    obtain ⟨o, ho, _⟩ := id p
    exact ⟨its, r, p, Heap.lt_size ho⟩
  · obtain ⟨its, r, p, _⟩ := I.list h
    exact ⟨its, r, p.isList, p.lt⟩
theorem sqk_inj {X : Cx} {pins : List (Addr × Obj)} {σ : L2.St} {H : Hp} {s : Shared} {b : Bool} {a : Addr} {xs ys : List V} (I : Inv X pins σ H s) (h : SqK b X.K H a xs) (h' : SqK b X.K H a ys) : xs = ys := by
  cases b
  · exact I.tuple_inj h h'
  · exact I.list_inj h h'
theorem drawsK {prog : Program} {w : World} {A : Around} (b : Bool) (hh : A.handled = none) (it l : Addr) (hne : l ≠ it) (items : Array Value) :
    Draws prog w A it [it, l] items.size (fun i v => items[i]? = some v) (fun i h => ItK b h it l i ∧ IsK b h l items) := by
  cases b
  · exact Draws.tuple hh it l hne items
  · exact Draws.list hh it l hne items
def ItzM (p q : Bool) (K : PySem.W.Frag) (a b : Addr) : It :=
  ⟨fun i H => ∃ (xs ys : List V) (x y : V), SqK p K H a xs ∧ SqK q K H b ys ∧ xs[i]? = some x ∧ ys[i]? = some y,
   fun i H v H' => ∃ T x y, v = .ref T ∧ H T = none ∧ H' = upd H T (.tup [x, y]) ∧ (∀ xs, SqK p K H a xs → xs[i]? = some x) ∧ (∀ ys, SqK q K H b ys → ys[i]? = some y),
   fun i H => ∃ xs ys : List V, SqK p K H a xs ∧ SqK q K H b ys ∧ (xs.length ≤ i ∨ ys.length ≤ i) ∧ i ≤ xs.length ∧ i ≤ ys.length⟩
theorem zsep {z TI TO i1 i2 a b : Addr} (D : ZipApart z TI TO i1 i2 a b) : ZipSep2 z TI TO i1 i2 [i1, a] [i2, b] where
  TIz := D.TIz
  TOz := D.TOz
  TITO := D.TITO
  TIi1 := D.TIi1
  mem1 := List.mem_cons_self
  zf1 := fun h => by rcases List.mem_cons.mp h with e | h; exact D.i1z e.symm; exact D.l1z (List.mem_singleton.mp h).symm
  Tf1 := fun h => by rcases List.mem_cons.mp h with e | h; exact D.TOi1 e; exact D.l1TO (List.mem_singleton.mp h).symm
  TIi2 := D.TIi2
  mem2 := List.mem_cons_self
  zf2 := fun h => by rcases List.mem_cons.mp h with e | h; exact D.i2z e.symm; exact D.l2z (List.mem_singleton.mp h).symm
  Tf2 := fun h => by rcases List.mem_cons.mp h with e | h; exact D.TOi2 e; exact D.l2TO (List.mem_singleton.mp h).symm
  sep1_2 := fun h => by rcases List.mem_cons.mp h with e | h; exact D.i12 e; exact D.l2i1 (List.mem_singleton.mp h).symm
  sep2_1 := fun h => by rcases List.mem_cons.mp h with e | h; exact D.i12 e.symm; exact D.l1i2 (List.mem_singleton.mp h).symm
theorem five {c z TI TO i1 i2 : Addr} {Pr : Addr → Prop} (hc : c ∈ [z, TI, TO, i1, i2]) (a : Pr z) (b : Pr TI) (d : Pr TO) (e : Pr i1) (f : Pr i2) : Pr c := by
  have q : c = z ∨ c = TI ∨ c = TO ∨ c = i1 ∨ c = i2 := by simpa using hc
  rcases q with rfl | rfl | rfl | rfl | rfl <;> assumption
theorem turn_zipM {p q : Bool} {P : Program} {w : World} {K : PySem.W.Frag} {elts : List Expr} {kk : Nat} {tpos : Pos} {a b z TI TO i1 i2 : Addr} (D : ZipApart z TI TO i1 i2 a b) :
    Turn P w K (.Tuple elts kk tpos) (ItzM p q K a b) [z, TI, TO, i1, i2] z (fun i h => IsZip h z TI TO .none ∧ IsTupOf2 h TI (.ref i1) (.ref i2) ∧ (∃ x y, IsTupOf2 h TO x y) ∧ ItK p h i1 a i ∧ ItK q h i2 b i) where
  mem := by simp
  obj := fun i h st c hc => by
    obtain ⟨hz, hI, ⟨x, y, hO⟩, h1, h2⟩ := st
    exact five (Pr := fun c => ∃ o, h.get? c = some o ∧ ∀ v, o.data ≠ .cell v) hc ⟨_, hz, fun v q => nomatch q⟩ ⟨_, hI, fun v q => nomatch q⟩ ⟨_, hO, fun v q => nomatch q⟩ h1.obj h2.obj
  keep := fun i h h' st k => by
    obtain ⟨hz, hI, ⟨x, y, hO⟩, h1, h2⟩ := st
    exact ⟨k z (by simp) _ hz, k TI (by simp) _ hI, ⟨x, y, k TO (by simp) _ hO⟩, h1.at' (fun o e => k i1 (by simp) o e), h2.at' (fun o e => k i2 (by simp) o e)⟩
  item := by
    intro X hP hw hK hc i pins s σ H E I hf st hg
    subst hP hw hK
    obtain ⟨hz, hI, ⟨x0, y0, hO⟩, h1, h2⟩ := st
    obtain ⟨xs, ys, x, y, qx, qy, ex, ey⟩ := hg
    obtain ⟨us, rx, kx, _⟩ := sqk_is I qx
    obtain ⟨vs, ry, ky, _⟩ := sqk_is I qy
    obtain ⟨u, eu, ru⟩ := rx.get ex
    obtain ⟨v, ev, rv⟩ := ry.get ey
    have hzl : z < s.heap.objs.size := Heap.lt_size hz
    have lu : i < us.toArray.size := by simpa using (List.getElem?_eq_some_iff.mp eu).1
    have lv : i < vs.toArray.size := by simpa using (List.getElem?_eq_some_iff.mp ev).1
    have hh : X.A.in1.handled = none := I.ok.hd hc
    refine wpAny_pyNext_zipD2_item (zsep D) (drawsK p hh i1 a D.l1i1 us.toArray) (drawsK q hh i2 b D.l2i2 vs.toArray) hz hI hO ⟨h1, kx⟩ ⟨h2, ky⟩ lu lv fun m1 m2 g tk p1 p2 gz gO g1 g2 gT gs gk => ?_
    have e1 : m1 = u := by
      have t1 : us.toArray[i]? = some u := by simpa using eu
      exact Option.some.inj (p1.symm.trans t1)
    have e2 : m2 = v := by
      have t1 : vs.toArray[i]? = some v := by simpa using ev
      exact Option.some.inj (p2.symm.trans t1)
    subst e1 e2
    refine ⟨_, rfl, wpAny_letOwnedTupleGo_zip (s := { s with heap := g, toks := tk }) gz fun g' gz' sb => ?_⟩
    have gT' : g'.get? s.heap.objs.size = some { cls := .type "tuple", data := .seq #[m1, m2] } := (sb.2 _ (Nat.ne_of_gt hzl)).trans gT
    have nw : ObjOk X.prog X.w (upd H s.heap.objs.size (.tup [x, y])) g' s.heap.objs.size (.tup [x, y]) := ⟨by show 2 ≤ sizeLine; decide, [m1, m2], .cons ru (.cons rv .nil), ⟨_, gT', rfl, _, rfl⟩⟩
    have I1 : Inv X pins σ (upd H s.heap.objs.size (.tup [x, y])) { s with heap := g', toks := tk } :=
      I.turnedNew (t' := tk) (ch := [z, TI, TO, i1, i2]) (fun c o nb e => (sb.2 c (fun w => nb (by simp [w]))).trans (gk c o (fun w => nb (by simp [w])) (fun w => nb (by simp [w])) (fun w => nb (by simp [w])) (fun w => nb (by simp [w])) e)) hf (Nat.le_refl _) nw
    refine ⟨.ref s.heap.objs.size, _, I1, rfl, ⟨_, x, y, rfl, I.hok.fresh (Nat.le_refl _), rfl, fun l hl => by rw [sqk_inj I hl qx]; exact ex, fun l hl => by rw [sqk_inj I hl qy]; exact ey⟩, ⟨gz', ?_, ⟨m1, m2, ?_⟩, ?_, ?_⟩, fun c hcm => ?_⟩
    · exact (sb.2 _ D.TIz).trans (gk _ _ D.TIz D.TITO D.TIi1 D.TIi2 hI)
    · exact (sb.2 _ D.TOz).trans gO
    · exact ItK.at' g1.1 (fun o e => (sb.2 _ D.i1z).trans e)
    · exact ItK.at' g2.1 (fun o e => (sb.2 _ D.i2z).trans e)
    · have lt : c < s.heap.objs.size := by
        obtain ⟨o1, q1, _⟩ := h1.obj
        obtain ⟨o2, q2, _⟩ := h2.obj
        exact five (Pr := fun c => c < s.heap.objs.size) hcm hzl (Heap.lt_size hI) (Heap.lt_size hO) (Heap.lt_size q1) (Heap.lt_size q2)
      rw [upd_ne (Nat.ne_of_lt lt)]
      exact (hf c hcm).1
  done := by
    intro X hP hw hK hc i pins s σ H E I hf st hg
    subst hP hw hK
    obtain ⟨hz, hI, ⟨x0, y0, hO⟩, h1, h2⟩ := st
    obtain ⟨xs, ys, qx, qy, hend, le1, le2⟩ := hg
    obtain ⟨us, rx, kx, _⟩ := sqk_is I qx
    obtain ⟨vs, ry, ky, _⟩ := sqk_is I qy
    have l1 := rx.length
    have l2 := ry.length
    have n1 : us.toArray.size = us.length := by simp
    have n2 : vs.toArray.size = vs.length := by simp
    have hh : X.A.in1.handled = none := I.ok.hd hc
    refine wpAny_pyNext_zipD2_end (i := i) (zsep D) (drawsK p hh i1 a D.l1i1 us.toArray) (drawsK q hh i2 b D.l2i2 vs.toArray) hz hI hO ⟨h1, kx⟩ ⟨h2, ky⟩ (by omega) (by omega) (by omega) fun g tk gk => ?_
    exact ⟨rfl, I.turnedL (t' := tk) (ch := [z, TI, TO, i1, i2]) (fun c o nb e => gk c o (fun w => nb (by simp [w])) (fun w => nb (by simp [w])) (fun w => nb (by simp [w])) (fun w => nb (by simp [w])) e) hf⟩
  self := fun A i s Q E st h => wpAny_pyIter_zip st.1 h
def iZipM (K : PySem.W.Frag) (ta : TA) : TI := fun σ H R => ta σ H fun vs H1 => ∃ p q a b xs ys, vs = [.ref a, .ref b] ∧ SqK p K H1 a xs ∧ SqK q K H1 b ys ∧ R (ItzM p q K a b) H1
theorem begK {p : Bool} {h : Heap} {a : Addr} {xs : Array Value} (k : IsK p h a xs) : ∃ o Hp', Begins (.ref a) o Hp' ∧ Hp' h ∧ ∀ h' it, h'.get? it = some o → ItK p h' it a 0 := by
  cases p
  · exact ⟨_, _, begins_tuple a xs, k, fun h' it e => ⟨_, e, rfl, rfl⟩⟩
  · exact ⟨_, _, begins_list a xs, k, fun h' it e => ⟨_, e, rfl, rfl⟩⟩
theorem pi_zipM {X : Cx} {e e2 : Expr} {ta : TA} {p pos tpos : Pos} {elts : List Expr} {kk : Nat} (hg : Gl X "zip") (hm : X.mg "zip" = none) (ha : PA X [e, e2] ta)
    (hs : starEach [e, e2] X.env = (false, eval e X.env) :: starEach [e2] X.env := by rfl) (hpl : (backTo pos (starEach [e2] X.env)).any (·.1) = false := by rfl) :
    PI X (.Tuple elts kk tpos) (.Call (.Name "zip" p) [e, e2] [] pos) (iZipM X.K ta) := by
  constructor
  intro pins s σ H R I h
  refine Call_ (ld_blt I hg hm PyProof.Rows.boot_zip (PyProof.Rows.callWith_type1 (thn (ha.run pos pins s σ H _ I h) fun us s1 ⟨vs, H1, I1, r1, q1⟩ => ?_) hs hpl))
  obtain ⟨k1, k2, a, b, xs, ys, ex, qx, qy, q⟩ := q1
  subst ex
  obtain ⟨u, v, rfl, ru, rv⟩ := Vals.two r1
  cases ru
  cases rv
  obtain ⟨i1, _, p1, lt1⟩ := sqk_is I1 qx
  obtain ⟨i2, _, p2, lt2⟩ := sqk_is I1 qy
  obtain ⟨o1, G1, B1, g1, w1⟩ := begK p1
  obtain ⟨o2, G2, B2, g2, w2⟩ := begK p2
  refine zip_begins2 B1 B2 g1 g2 fun h' hz hI hO e1 e2 hsz hk => wpAny_pyIter_zip hz ?_
  have I2 : Inv X pins σ H1 { s1 with heap := h' } := I1.kept (t' := s1.toks) hk
  refine ⟨s1.heap.objs.size + 4, [s1.heap.objs.size + 4, s1.heap.objs.size + 2, s1.heap.objs.size + 3, s1.heap.objs.size, s1.heap.objs.size + 1], _, _, H1, rfl, I2, turn_zipM (PySem.W.ktu_apart s1.heap.objs.size a b lt1 lt2), ⟨hz, hI, ⟨_, _, hO⟩, w1 _ _ e1, w2 _ _ e2⟩, fun c hcm => ?_, q⟩
  have hle : s1.heap.objs.size ≤ c := five (Pr := fun c => s1.heap.objs.size ≤ c) hcm (Nat.le_add_right _ _) (Nat.le_add_right _ _) (Nat.le_add_right _ _) (Nat.le_refl _) (Nat.le_add_right _ _)
  exact I1.fpOk hle (I1.hok.fresh hle)
end Z
set_option Elab.async false
set_option linter.all false
set_option maxRecDepth 100000
set_option maxHeartbeats 4000000
namespace Z
open PySem PySem.Spec PyProof.Rows L2
/-! ### (v,) * k for 0 ≤ k -/
theorem tmul0 (l : Addr) (v : Value) (n : Nat) (dd : Option Addr) (sl : Array (Option Value)) (u : Tok) :
    Meets (Builtin.«tuple.__mul__» ⟨[.ref l, .int 0 u], []⟩) (fun _ R s => s.heap.get? l = some { cls := .type "tuple", dict := dd, data := .seq #[v] n, slots := sl } ∧
      R (.ok (.ret (Value.ref s.heap.objs.size))) { s with heap := s.heap.push { cls := Value.type "tuple", data := Data.seq #[] }, toks := s.toks }) :=
  .of_wp fun prog w A R s h => by
    obtain ⟨hp, g, d, tk, os⟩ := s
    obtain ⟨hl, h⟩ := h
    have f1 := AutoSeq1.idx_int
    wp_walk using AutoSeq1.wpAny_loadPart' hl
    exact ⟨_, rfl, h⟩
theorem tmul1 (l : Addr) (items : Array Value) (n : Nat) (dd : Option Addr) (sl : Array (Option Value)) (u : Tok) :
    Meets (Builtin.«tuple.__mul__» ⟨[.ref l, .int 1 u], []⟩) (fun _ R s => s.heap.get? l = some { cls := .type "tuple", dict := dd, data := .seq items n, slots := sl } ∧ R (.ok (.ret (Value.ref l))) s) :=
  .of_wp fun prog w A R s h => by
    obtain ⟨hp, g, d, tk, os⟩ := s
    obtain ⟨hl, h⟩ := h
    have f1 := AutoSeq1.idx_int
    wp_walk using AutoSeq1.wpAny_loadPart' hl
    exact ⟨_, rfl, h⟩
theorem same_new {H : Hp} {p : Addr} {o : HO} (h : H p = none) : Same H (upd H p o) := fun b x e => by
  rw [upd_ne (ne_of_none e h)]
  exact e
def rRepU : R2 := fun x y H Q => ∃ l k v, x = .ref l ∧ y = .int k ∧ H l = some (.tup [v]) ∧ 0 ≤ k ∧ k ≤ 1000 ∧ ∀ p H', Same H H' → H' p = some (.tup (List.replicate k.toNat v)) → Q (.ref p) H'
theorem op_repU {X : Cx} : OpR X (binaryOp .Mult) rRepU := by
  intro pins s σ H x y vv uu Q I rx ry h
  obtain ⟨l, k, v, rfl, rfl, hT, h0, h1, q⟩ := id h
  by_cases k2 : 2 ≤ k
  · refine op_repT pins s σ H _ _ vv uu Q I rx ry ⟨l, k, [v], rfl, rfl, .inl (.inl hT), by simp, k2, h1, by simp, fun p np => q p _ (same_new np) ?_⟩
    rw [upd_same]
    congr 2
    generalize k.toNat = m
    induction m with
    | zero => rfl
    | succ m ih => rw [List.replicate_succ, List.flatten_cons, ih, List.replicate_succ]; rfl
  · cases rx
    obtain ⟨t, rfl⟩ := ry
    obtain ⟨its, r, ⟨⟨cls, dd, data, sl⟩, ho, hc, n, hd⟩, hs⟩ := I.tuple (.inl (.inl hT) : SqT X.K H l [v])
    simp only at hc hd
    subst hc hd
    obtain ⟨u, rfl, ru⟩ := Vals.one r
    by_cases k1 : k = 1
    · subst k1
      refine wpAny_binaryOp_repeat_ref (T := "tuple") (U := "int") (by decide) ⟨_, ho, rfl⟩ (fun s' => typeIs_int s' 1 t) noFill_tuple_mul F.fills_int_mul F.slot_int_rmul repeat_tuple F.slot_int_index.lookup
        (call_meets F.slot_int_rmul (typeIs_int s 1 t) F.entry_int_rmul (F.args_int_rmul_2 _ _) (int_rmul_tuple 1 t l [u].toArray n dd sl)
          ⟨ho, rfl, ⟨_, ho, rfl⟩, call_meets F.slot_tuple_mul ⟨_, ho, rfl⟩ F.entry_tuple_mul (F.args_tuple_mul_2 _ _) (tmul1 l [u].toArray n dd sl t) ⟨ho, ?_⟩⟩)
      exact ⟨.ref l, H, I, rfl, q l H (Same.refl H) hT⟩
    · have k0 : k = 0 := by omega
      subst k0
      refine wpAny_binaryOp_repeat_ref (T := "tuple") (U := "int") (by decide) ⟨_, ho, rfl⟩ (fun s' => typeIs_int s' 0 t) noFill_tuple_mul F.fills_int_mul F.slot_int_rmul repeat_tuple F.slot_int_index.lookup
        (call_meets F.slot_int_rmul (typeIs_int s 0 t) F.entry_int_rmul (F.args_int_rmul_2 _ _) (int_rmul_tuple 0 t l [u].toArray n dd sl)
          ⟨ho, rfl, ⟨_, ho, rfl⟩, call_meets F.slot_tuple_mul ⟨_, ho, rfl⟩ F.entry_tuple_mul (F.args_tuple_mul_2 _ _) (tmul0 l u n dd sl t) ⟨ho, ?_⟩⟩)
      refine ⟨.ref s.heap.objs.size, _, I.laid (t' := s.toks) (o := .tup []) (fun b ob z => Heap.get?_push_of_some _ z) (Nat.le_refl _) ?_, rfl, q _ _ (same_new (I.hok.fresh (Nat.le_refl _))) upd_same⟩
      exact ⟨Nat.zero_le _, [], .nil, IsTup.new _ _⟩
/-! ### loops and comprehensions over any iterator -/
def forW (J : It) (g : TG) (tb : TS) (D : Ends) (σ : L2.St) (H : Hp) : Prop := ∃ W : Nat → Nat → L2.St → Hp → Prop, (∃ m, W 0 m σ H) ∧ ∀ i m σ H, W i m σ H →
  (J.stop i H ∧ D.nx σ H) ∨ (J.go i H ∧ ∃ N : L2.St → Hp → Prop, (∀ σ' H', N σ' H' → ∃ m', m' < m ∧ W (i + 1) m' σ' H') ∧ ∀ x H', J.yld i H x H' → g x σ H' fun σ2 H2 => tb { D with nx := N, ct := N, bk := D.nx } σ2 H2)
theorem for_gen {J : It} {n : Nat} {g : TG} {tb : TS} {D : Ends} {σ : L2.St} {H : Hp} (Pv : Nat → L2.St → Hp → Prop) (h0 : Pv 0 σ H) (hgo : ∀ i σ H, i < n → Pv i σ H → J.go i H) (hst : ∀ σ H, Pv n σ H → J.stop n H)
    (hs : ∀ i σ H x H', i < n → Pv i σ H → J.yld i H x H' → g x σ H' fun σ2 H2 => tb { D with nx := Pv (i + 1), ct := Pv (i + 1), bk := D.nx } σ2 H2) (hd : ∀ σ H, Pv n σ H → D.nx σ H) : forW J g tb D σ H := by
  refine ⟨fun i m σ H => m = n - i ∧ i ≤ n ∧ Pv i σ H, ⟨n, by omega, Nat.zero_le _, h0⟩, fun i m σ H w => ?_⟩
  obtain ⟨rfl, hi, p⟩ := w
  by_cases hlt : i < n
  · exact .inr ⟨hgo i σ H hlt p, Pv (i + 1), fun σ' H' z => ⟨n - (i + 1), by omega, rfl, hlt, z⟩, fun x H' y => hs i σ H x H' hlt p y⟩
  · have e : i = n := by omega
    subst e
    exact .inl ⟨hst σ H p, hd σ H p⟩
def lcW (J : It) (g : TG) (tt : TT) (te : TE) (vs : List Nat) (σ : L2.St) (D : Addr) (Qd : Hp → Prop) (H1 : Hp) : Prop := ∃ W : Nat → Nat → Hp → Prop, (∃ m, W 0 m (upd H1 D (.lst []))) ∧ ∀ i m H, W i m H →
  (J.stop i H ∧ Qd H) ∨ (J.go i H ∧ ∃ Nx : Hp → Prop, (∀ H', Nx H' → ∃ m', m' < m ∧ W (i + 1) m' H') ∧ ∀ x H', J.yld i H x H' → g x (wipe σ vs) H' fun σ2 H2 => wipe σ2 vs = wipe σ vs ∧ tt σ2 H2 fun b H3 =>
    if b = true then te σ2 H3 fun y H4 => ∃ acc, H4 D = some (.lst acc) ∧ acc.length < sizeLine ∧ Nx (upd H4 D (.lst (acc ++ [y]))) else Nx H3)
theorem lc_gen {J : It} {n : Nat} {g : TG} {tt : TT} {te : TE} {vs : List Nat} {σ : L2.St} {H1 : Hp} {D : Addr} {Qd : Hp → Prop} (Pv : Nat → Hp → Prop) (h0 : Pv 0 (upd H1 D (.lst []))) (hgo : ∀ i H, i < n → Pv i H → J.go i H) (hst : ∀ H, Pv n H → J.stop n H)
    (hs : ∀ i H x H', i < n → Pv i H → J.yld i H x H' → g x (wipe σ vs) H' fun σ2 H2 => wipe σ2 vs = wipe σ vs ∧ tt σ2 H2 fun b H3 =>
      if b = true then te σ2 H3 fun y H4 => ∃ acc, H4 D = some (.lst acc) ∧ acc.length < sizeLine ∧ Pv (i + 1) (upd H4 D (.lst (acc ++ [y]))) else Pv (i + 1) H3) (hd : ∀ H, Pv n H → Qd H) : lcW J g tt te vs σ D Qd H1 := by
  refine ⟨fun i m H => m = n - i ∧ i ≤ n ∧ Pv i H, ⟨n, by omega, Nat.zero_le _, h0⟩, fun i m H w => ?_⟩
  obtain ⟨rfl, hi, p⟩ := w
  by_cases hlt : i < n
  · exact .inr ⟨hgo i H hlt p, Pv (i + 1), fun H' z => ⟨n - (i + 1), by omega, rfl, hlt, z⟩, fun x H' y => hs i H x H' hlt p y⟩
  · have e : i = n := by omega
    subst e
    exact .inl ⟨hst H p, hd H p⟩
/-! ### a def of the module that may be called by its name -/
structure Cal (P : Program) (w : World) (K : PySem.W.Frag) (mg : Str → Option Value) (base : Heap) (k : Nat) (x : Str) (sp : Sp) : Prop where
  ex : ∃ (f : Addr) (fd : FuncData) (ps : List Str), FnOk P w K mg base CX0 k f fd ps sp ∧ mg x = some (.ref f) ∧ PySem.W.keepIn K (.ref f) = true ∧ Binds K fd ps []
section
variable {X : Cx} {k j : Nat} {x : Str} {sp : Sp} {p pos : Pos} {e : Expr} {es : List Expr} {t : TA}
theorem pe_cl (c : Cal X.prog X.w X.K X.mg X.base k x sp) (hr : Room j X.A) (hk : k ≤ j) (hg : Gl X x) (ha : PA X (e :: es) t)
    (hdb : (x == ("__debug__" : Str)) = false := by decide) (he : starEach (e :: es) X.env = (false, eval e X.env) :: starEach es X.env := by rfl) (hpl : (backTo pos (starEach es X.env)).any (·.1) = false := by rfl) : PE X (.Call (.Name x p) (e :: es) [] pos) (tCall sp [] E0 t) := by
  obtain ⟨f, fd, ps, F, hm, kp, b⟩ := c.ex
  exact pe_call F (hr.mono hk) hg hm kp b .nil pass0 ha hdb he hpl
end
structure CalK (P : Program) (w : World) (K : PySem.W.Frag) (mg : Str → Option Value) (base : Heap) (k : Nat) (x : Str) (n : Nat) (ks : List Str) (gV : List V → List V → List V) (sp : Sp) : Prop where
  ex : ∃ (f : Addr) (fd : FuncData) (ps : List Str) (g : List Value → List Value → List Value), FnOk P w K mg base CX0 k f fd ps sp ∧ mg x = some (.ref f) ∧ PySem.W.keepIn K (.ref f) = true ∧ KBn K fd ps n ks g gV
section
variable {X : Cx} {k j n : Nat} {x : Str} {sp : Sp} {ks : List Str} {gV : List V → List V → List V} {p pos : Pos} {e : Expr} {es : List Expr} {kws : List Keyword} {t tk : TA}
theorem pe_clK (c : CalK X.prog X.w X.K X.mg X.base k x n ks gV sp) (hr : Room j X.A) (hk : k ≤ j) (hg : Gl X x) (ha : PA X (e :: es) t) (hkw : PK X kws tk)
    (hall : (backToKw pos (keywordEach kws X.env)).all (·.1.isSome) = true := by rfl) (hks : (backToKw pos (keywordEach kws X.env)).filterMap (·.1) = ks := by rfl) (hdb : (x == ("__debug__" : Str)) = false := by decide)
    (he : starEach (e :: es) X.env = (false, eval e X.env) :: starEach es X.env := by rfl) (hpl : ((backTo pos (starEach (e :: es) X.env)).any (·.1) || (backToKw pos (keywordEach kws X.env)).any (·.1.isNone)) = false := by rfl) :
    PE X (.Call (.Name x p) (e :: es) kws pos) (tCallN n ks.length sp gV E0 t tk) := by
  obtain ⟨f, fd, ps, g, F, hm, kp, b⟩ := c.ex
  exact pe_callN F (hr.mono hk) hg hm kp b pass0 ha hkw hall hks hdb he hpl
end
/-! ### heaps -/
/-- all but p stands -/
def SB (p : Addr) (H H' : Hp) : Prop := ∀ b o, b ≠ p → H b = some o → H' b = some o
theorem Same.sb {p : Addr} {H H' : Hp} (s : Same H H') : SB p H H' := fun b o _ h => s b o h
theorem SB.trans {p : Addr} {H H1 H2 : Hp} (a : SB p H H1) (b : SB p H1 H2) : SB p H H2 := fun c o n h => b c o n (a c o n h)
theorem SB.upd {p : Addr} {H H' : Hp} {o : HO} (s : SB p H H') : SB p H (upd H' p o) := fun b u n h => by
  rw [upd_ne n]
  exact s b u n h
theorem SB.same {p : Addr} {H H' : Hp} (s : SB p H H') (n : H p = none) : Same H H' := fun b o h => s b o (ne_of_none h n) h
theorem Same.mut {p : Addr} {H H' : Hp} {o : HO} (s : Same H H') (n : H p = none) : Same H (L2.upd H' p o) := fun b u h => by
  rw [upd_ne (ne_of_none h n)]
  exact s b u h
theorem SB.sq {K : PySem.W.Frag} {p a : Addr} {H H' : Hp} {xs : List V} (s : SB p H H') (n : a ≠ p) (h : SqL K H a xs) : SqL K H' a xs := by
  rcases h with (h | ⟨o, h⟩) | h
  · exact .inl (.inl (s _ _ n h))
  · exact .inl (.inr ⟨o, s _ _ n h⟩)
  · exact .inr h
theorem Same.sqT {K : PySem.W.Frag} {a : Addr} {H H' : Hp} {xs : List V} (s : Same H H') (h : SqT K H a xs) : SqT K H' a xs := by
  rcases h with (h | ⟨o, h⟩) | h
  · exact .inl (.inl (s _ _ h))
  · exact .inl (.inr ⟨o, s _ _ h⟩)
  · exact .inr h
theorem Same.sqK {b : Bool} {K : PySem.W.Frag} {a : Addr} {H H' : Hp} {xs : List V} (s : Same H H') (h : SqK b K H a xs) : SqK b K H' a xs := by
  cases b
  · exact Z.Same.sqT s h
  · exact s.seq h
theorem at_map {α : Type} {f : α → V} {xs : List α} {i : Nat} {x : α} (h : xs[i]? = some x) : atI (xs.map f) (i : Int) = some (f x) := atI_nat (by rw [List.getElem?_map, h]; rfl)
theorem of_map {α : Type} {f : α → V} {xs : List α} {i : Nat} {v : V} (h : (xs.map f)[i]? = some v) : ∃ x, xs[i]? = some x ∧ v = f x := by
  rw [List.getElem?_map] at h
  cases e : xs[i]? with
  | none => rw [e] at h; cases h
  | some x => rw [e] at h; exact ⟨x, rfl, (Option.some.inj h).symm⟩
end Z
set_option Elab.async false
set_option linter.all false
set_option maxRecDepth 100000
set_option maxHeartbeats 4000000
namespace Z
open PySem PySem.Spec PyProof.Rows L2
open C8 (pss_cut tCut)
local macro_rules | `(tactic| walk_at "num") => `(tactic| first | omega | decide | exact ⟨by omega, by omega⟩ | exact ⟨by omega, by omega, by omega⟩ | exact ⟨by decide, by decide, by decide⟩ | exact Or.inl ⟨by omega, by omega⟩ | exact Or.inr ⟨by omega, by omega⟩)
local macro_rules | `(tactic| walk_at "go") => `(tactic| repeat (first | refine ⟨_, rfl, ?_⟩ | refine ⟨_, _, rfl, rfl, ?_⟩ | refine ⟨_, _, rfl, rfl, (by walk_at "num"), ?_⟩ | refine Or.inl ⟨_, rfl, ?_⟩ | refine ⟨rfl, ?_⟩ | refine And.intro (by walk_at "num") ?_))
def topS (i : Nat) : Stmt := PySem.Challenge.pw_signedpacts_k63_whole_ring_and_pace.main.body.getD i (.Pass ⟨0, 0, 0, 0⟩)
abbrev s_cell : Stmt := topS 17
abbrev N_cell : List Str := ["_law_script", "_law_k"]
abbrev P_cell : List Str := ["_law_script", "_law_k"]
theorem sc_cell : FnScope N_cell P_cell (defScope s_cell) := ⟨rfl, rfl, rfl, by decide +kernel, rfl, by decide +kernel, by decide +kernel⟩
abbrev s_draws : Stmt := topS 18
abbrev N_draws : List Str := ["_law_cell_here", "_law_many", "_law_rest", "_law_large", "_law_seed", "_law_found", "_law_k"]
abbrev P_draws : List Str := ["_law_cell_here", "_law_many"]
theorem sc_draws : FnScope N_draws P_draws (defScope s_draws) := ⟨rfl, rfl, rfl, by decide +kernel, rfl, by decide +kernel, by decide +kernel⟩
abbrev s_take : Stmt := topS 19
abbrev N_take : List Str := ["_law_draws_here", "_law_place"]
abbrev P_take : List Str := ["_law_draws_here", "_law_place"]
theorem sc_take : FnScope N_take P_take (defScope s_take) := ⟨rfl, rfl, rfl, by decide +kernel, rfl, by decide +kernel, by decide +kernel⟩
abbrev FnP (K : PySem.W.Frag) (x : Str) (st : Stmt) (f : Addr) (fd : FuncData) : Prop := FunD K x x (defArgs st) (defBody st) (defScope st) [] [] f fd
section
variable {P : Program} {w : World} {K : PySem.W.Frag} {mg : Str → Option Value} {base : Heap} {f : Addr} {fd : FuncData}
theorem cal_of {k : Nat} {x : Str} {st : Stmt} {ps : List Str} {sp : Sp} (F : FnP K x st f fd) (g : mg x = some (.ref f)) (b : Binds K fd ps []) (h : FnOk P w K mg base CX0 k f fd ps sp) : Cal P w K mg base k x sp := ⟨f, fd, ps, h, g, F.kp, b⟩
/-! ### _law_cell -/
def spCell (K : PySem.W.Frag) : Sp := fun vs H Q _ => ∃ (a : Addr) (ns : List Int) (k : Nat), vs = [.ref a, .int (k : Int)] ∧ SqL K H a (ns.map V.int) ∧ Q (.int (ns.getD k 0)) H
theorem ok_cell (F : FnP K "_law_cell" s_cell f fd) (m_len : mg "len" = none) (m_int : mg "int" = none) : FnOk P w K mg base CX0 1 f fd P_cell (spCell K) := by
  refine F.ok sc_cell (fun vs H Q E h => ?_) (fun cdv A outer s H vs Q E hr h => ?_)
  · obtain ⟨a, ns, k, rfl, _⟩ := h
    rfl
  · obtain ⟨a, ns, k, rfl, hS, q⟩ := h
    refine ⟨_, PSs.nox (pss_cons (ps_if (pt_cmpR op_lt (pv 1) (pe_callB call_len_seq (by rfl) m_len PySem.boot_len (pa_cons (pv 0) pa_nil)) (nomark _)) (pss_one (ps_ret (pe_callTy call_int1 (by rfl) m_int (by decide +kernel) (pa_cons (pe_ix ix_list (pv 0) (pv 1) (fun _ _ => rfl)) pa_nil)))) pss_nil)
      (pss_one (ps_ret pe_int))), ?_⟩
    walk_at "go"
    refine ⟨a, _, rfl, .inl hS, ?_⟩
    walk_at "go"
    rw [List.length_map]
    refine ite2 (fun e => ?_) (fun e => ?_)
    · have hk : k < ns.length := by have := of_decide_eq_true e; omega
      walk_at "go"
      refine ⟨a, _, _, _, rfl, rfl, hS, at_map (List.getElem?_eq_getElem hk), ?_⟩
      walk_at "go"
      rw [List.getD_eq_getElem?_getD, List.getElem?_eq_getElem hk] at q
      exact q
    · have hk : ¬ k < ns.length := fun z => e (decide_eq_true (by omega))
      rw [List.getD_eq_getElem?_getD, List.getElem?_eq_none (by omega)] at q
      exact q
/-! ### _law_draws -/
def Dr (n : Nat) (ds : List Int) : Prop := ds.length = n ∧ ∀ d ∈ ds, 0 ≤ d ∧ d < 1000000
def spDraws : Sp := fun vs H Q _ => ∃ (c : Int) (n : Nat), vs = [.int c, .int (n : Int)] ∧ n ≤ 100000 ∧ ∀ p ds, H p = none → Dr n ds → Q (.ref p) (upd H p (.lst (ds.map V.int)))
theorem ok_draws (F : FnP K "_law_draws" s_draws f fd) (m_int : mg "int" = none) (m_abs : mg "abs" = none) (m_range : mg "range" = none) : FnOk P w K mg base CX0 1 f fd P_draws spDraws := by
  refine F.ok sc_draws (fun vs H Q E h => ?_) (fun cdv A outer s H vs Q E hr h => ?_)
  · obtain ⟨c, n, rfl, _⟩ := h
    rfl
  · obtain ⟨c, n, rfl, hn, q⟩ := h
    refine ⟨_, PSs.nox (pss_cons (ps_set (i := 2) sc_draws.nd rfl (by first | exact .inl rfl | exact .inr rfl) (pe_callB call_abs (by rfl) m_abs (by decide +kernel) (pa_cons (pe_callTy call_int1 (by rfl) m_int (by decide +kernel) (pa_cons (pv 0) pa_nil)) pa_nil)))
      (pss_cons (ps_set (i := 3) sc_draws.nd rfl (by first | exact .inl rfl | exact .inr rfl) (pe_cmpR op_ge (pv 2) (pe_op op_pow pe_int pe_int) (nomark _)))
      (pss_cons (ps_set (i := 4) sc_draws.nd rfl (by first | exact .inl rfl | exact .inr rfl) (pe_op op_mod (pe_callTy call_int1 (by rfl) m_int (by decide +kernel) (pa_cons (pv 2) pa_nil)) pe_int))
      (pss_cons (ps_set (i := 5) sc_draws.nd rfl (by first | exact .inl rfl | exact .inr rfl) (pe_lst pa_nil))
      (pss_cons (ps_for PassesOwn.never rfl (pi_range1 (by rfl) m_range (pa_cons (pv 1) pa_nil)) (pg_name (i := 6) sc_draws.nd rfl (by first | exact .inl rfl | exact .inr rfl))
        (pss_cons (ps_set (i := 4) sc_draws.nd rfl (by first | exact .inl rfl | exact .inr rfl) (pe_op op_mod (pe_callTy call_int1 (by rfl) m_int (by decide +kernel) (pa_cons (pe_op op_add (pe_op op_add (pe_op op_mul (pv 4) pe_int) (pe_op op_mul pe_int (pv 6))) pe_int) pa_nil)) pe_int))
      (pss_one (ps_if (PW.pt (pw_and (pt_val (pv 3)) (pw_and1 (pt_cmpR op_gt (pv 2) pe_int (nomark _))))) (pss_cons (ps_expr (pe_bm PySem.F.plainAttrs_list PySem.F.slot_list_append PySem.F.type_list_append mt_append (pv 5) (pa_cons (pe_op op_mod (pe_callTy call_int1 (by rfl) m_int (by decide +kernel) (pa_cons (pv 2) pa_nil)) pe_int) pa_nil)))
      (pss_one (ps_set (i := 2) sc_draws.nd rfl (by first | exact .inl rfl | exact .inr rfl) (pe_op op_fdiv (pv 2) pe_int)))) (pss_one (ps_expr (pe_bm PySem.F.plainAttrs_list PySem.F.slot_list_append PySem.F.type_list_append mt_append (pv 5) (pa_cons (pe_op op_mod (pe_callTy call_int1 (by rfl) m_int (by decide +kernel) (pa_cons (pe_op op_fdiv (pe_op op_mod (pe_callTy call_int1 (by rfl) m_int (by decide +kernel) (pa_cons (pe_op op_add (pe_op op_mul (pv 4) pe_int) (pe_op op_mul pe_int (pv 6))) pa_nil)) pe_int) pe_int) pa_nil)) pe_int) pa_nil))))))))
      (pss_one (ps_ret (pv 5)))))))), ?_⟩
    walk_at "go"
    intro p np
    walk_at "go"
    refine for_gen (n := n) (fun i σ H1 => ∃ (r : Int) (z : Int) (ds : List Int) (v : Option V), 0 ≤ r ∧ 0 ≤ z ∧ z < 2147483647 ∧ Dr i ds ∧ H1 = upd H p (.lst (ds.map V.int)) ∧
      σ = [some (.int c), some (.int (n : Int)), some (.int r), some (.bl (decide ((10 : Int) ^ 18 ≤ (if c < 0 then -c else c)))), some (.int z), some (.ref p), v]) ?_ ?_ ?_ ?_ ?_
    · refine ⟨_, _, [], none, ?_, ?_, ?_, ⟨rfl, fun d hd => nomatch hd⟩, rfl, rfl⟩
      · split <;> omega
      · omega
      · omega
    · intro i σ H1 hi _
      show i < (n : Int).toNat
      omega
    · intro σ H1 _
      show (n : Int).toNat ≤ n
      omega
    · rintro i σ H1 x H' hi ⟨r, z, ds, v, hr0, hz0, hz1, hd, rfl, rfl⟩ ⟨rfl, rfl⟩
      have hlen : (ds.map V.int).length < sizeLine := by
        rw [List.length_map, hd.1]
        exact Nat.lt_of_lt_of_le hi (Nat.le_trans hn (by decide))
      have fin : ∀ (r' z' d : Int) (u : Option V), 0 ≤ r' → 0 ≤ z' → z' < 2147483647 → 0 ≤ d → d < 1000000 → ∃ (r : Int) (z : Int) (es : List Int) (v : Option V), 0 ≤ r ∧ 0 ≤ z ∧ z < 2147483647 ∧ Dr (i + 1) es ∧ upd (upd H p (.lst (ds.map V.int))) p (.lst (ds.map V.int ++ [.int d])) = upd H p (.lst (es.map V.int)) ∧
          [some (.int c), some (.int (n : Int)), some (.int r'), some (.bl (decide ((10 : Int) ^ 18 ≤ (if c < 0 then -c else c)))), some (.int z'), some (.ref p), u] = [some (.int c), some (.int (n : Int)), some (.int r), some (.bl (decide ((10 : Int) ^ 18 ≤ (if c < 0 then -c else c)))), some (.int z), some (.ref p), v] := by
        intro r' z' d u a1 a2 a3 a4 a5
        refine ⟨r', z', ds ++ [d], u, a1, a2, a3, ⟨by rw [List.length_append, hd.1]; rfl, fun x hx => ?_⟩, ?_, rfl⟩
        · rcases List.mem_append.mp hx with h | h
          · exact hd.2 x h
          · rw [List.mem_singleton.mp h]
            exact ⟨a4, a5⟩
        · rw [upd_upd, List.map_append]
          rfl
      walk_at "go"
      refine ite2 (fun e => ?_) (fun e => ?_)
      · walk_at "go"
        refine ite2 (fun e2 => ?_) (fun e2 => ?_)
        · walk_at "go"
          refine ⟨.inl ⟨rfl, _, .inl (.inl upd_same)⟩, ?_⟩
          walk_at "go"
          refine ⟨_, _, _, rfl, rfl, upd_same, hlen, ?_⟩
          walk_at "go"
          exact fin _ _ _ _ (by omega) (by omega) (by omega) (by omega) (by omega)
        · walk_at "go"
          refine ⟨.inl ⟨rfl, _, .inl (.inl upd_same)⟩, ?_⟩
          walk_at "go"
          refine ⟨_, _, _, rfl, rfl, upd_same, hlen, ?_⟩
          walk_at "go"
          exact fin _ _ _ _ (by omega) (by omega) (by omega) (by omega) (by omega)
      · walk_at "go"
        refine ⟨.inl ⟨rfl, _, .inl (.inl upd_same)⟩, ?_⟩
        walk_at "go"
        refine ⟨_, _, _, rfl, rfl, upd_same, hlen, ?_⟩
        walk_at "go"
        exact fin _ _ _ _ (by omega) (by omega) (by omega) (by omega) (by omega)
    · rintro σ H1 ⟨r, z, ds, v, hr0, hz0, hz1, hd, rfl, rfl⟩
      walk_at "go"
      exact q p ds np hd
/-! ### _law_take -/
def spTake (K : PySem.W.Frag) : Sp := fun vs H Q _ => ∃ (a p : Addr) (n m : Nat) (ds : List Int), vs = [.ref a, .ref p] ∧ SqL K H a (ds.map V.int) ∧ Dr n ds ∧ H p = some (.lst [.int (m : Int)]) ∧ a ≠ p ∧ ∀ r : Int, 0 ≤ r → r < 1000000 → Q (.int r) (upd H p (.lst [.int ((m + 1 : Nat) : Int)]))
theorem ok_take (F : FnP K "_law_take" s_take f fd) (m_len : mg "len" = none) : FnOk P w K mg base CX0 1 f fd P_take (spTake K) := by
  refine F.ok sc_take (fun vs H Q E h => ?_) (fun cdv A outer s H vs Q E hr h => ?_)
  · obtain ⟨a, p, n, m, ds, rfl, _⟩ := h
    rfl
  · obtain ⟨a, p, n, m, ds, rfl, hS, hd, hp, ne, q⟩ := h
    refine ⟨_, PSs.nox (pss_cons (ps_asg (pe_op op_add (pe_ix ix_list (pv 1) pe_int (fun _ _ => rfl)) pe_int) (pg_sub (pv 1) pe_int set_list))
      (pss_cons (ps_if (pt_cmpR op_gt (pe_ix ix_list (pv 1) pe_int (fun _ _ => rfl)) (pe_callB call_len_seq (by rfl) m_len PySem.boot_len (pa_cons (pv 0) pa_nil)) (nomark _)) (pss_one (ps_ret pe_int)) pss_nil)
      (pss_one (ps_ret (pe_ix ix_list (pv 0) (pe_op op_sub (pe_ix ix_list (pv 1) pe_int (fun _ _ => rfl)) pe_int) (fun _ _ => rfl)))))), ?_⟩
    have sb : SB p H (upd H p (.lst [.int ((m + 1 : Nat) : Int)])) := SB.upd (Z.Same.sb (Same.refl H))
    have hS' := sb.sq ne hS
    walk_at "go"
    refine ⟨p, _, 0, _, rfl, rfl, SqL.of hp, rfl, ?_⟩
    walk_at "go"
    refine ⟨p, _, 0, 0, rfl, rfl, hp, rfl, ?_⟩
    show tSeq _ _ _ _ (upd H p (.lst [.int ((m : Int) + 1)]))
    rw [show ((m : Int) + 1) = ((m + 1 : Nat) : Int) by omega]
    walk_at "go"
    refine ⟨p, _, 0, _, rfl, rfl, SqL.of upd_same, rfl, ?_⟩
    walk_at "go"
    refine ⟨a, _, rfl, .inl hS', ?_⟩
    walk_at "go"
    rw [List.length_map]
    refine ite2 (fun e => ?_) (fun e => ?_)
    · exact q 0 (by omega) (by omega)
    · have hk : m < ds.length := by
        apply Decidable.byContradiction
        intro z
        exact e (decide_eq_true (by omega))
      walk_at "go"
      refine ⟨p, _, 0, _, rfl, rfl, SqL.of upd_same, rfl, ?_⟩
      walk_at "go"
      refine ⟨a, _, _, _, rfl, rfl, hS', at_of (by omega) (show (ds.map V.int)[m]? = some (.int ds[m]) by rw [List.getElem?_map, List.getElem?_eq_getElem hk]; rfl), ?_⟩
      have h1 := hd.2 ds[m] (List.getElem_mem hk)
      exact q _ h1.1 h1.2
end
end Z
set_option Elab.async false
set_option linter.all false
set_option maxRecDepth 100000
set_option maxHeartbeats 4000000
namespace Z
open PySem PySem.Spec PyProof.Rows L2
/-! ### data -/
def sqD (b : Bool) (ds : List PyData) : PyData := match b with
  | true => .list ds
  | false => .tuple ds
def intsD (b : Bool) (ns : List Int) : PyData := sqD b (ns.map PyData.int)
def matD (b : Bool) (rs : List (List Int)) : PyData := sqD b (rs.map (intsD b))
theorem dp_sq {b : Bool} {K : PySem.W.Frag} {H : Hp} {a : Addr} {xs : List V} {ds : List PyData} (h : SqK b K H a xs) (d : DpAll K H xs ds) : Dp K H (.ref a) (sqD b ds) := by
  cases b
  · exact .tup h d
  · exact .lst h d
theorem dpa_ints {K : PySem.W.Frag} {H : Hp} : ∀ ns : List Int, DpAll K H (ns.map V.int) (ns.map PyData.int)
  | [] => .nil
  | n :: r => .cons (.int n) (dpa_ints r)
theorem dp_ints {b : Bool} {K : PySem.W.Frag} {H : Hp} {a : Addr} {ns : List Int} (h : SqK b K H a (ns.map V.int)) : Dp K H (.ref a) (intsD b ns) := dp_sq h (dpa_ints ns)
/-- a matrix: a list (or tuple) of lists (or tuples) of ints, at ps -/
def Mat (b : Bool) (K : PySem.W.Frag) (H : Hp) (a : Addr) (ps : List Addr) (rs : List (List Int)) : Prop := SqK b K H a (ps.map V.ref) ∧ ps.length = rs.length ∧ ∀ (i : Nat) (p : Addr) (r : List Int), ps[i]? = some p → rs[i]? = some r → SqK b K H p (r.map V.int)
theorem Mat.mono {b : Bool} {K : PySem.W.Frag} {H H' : Hp} {a : Addr} {ps : List Addr} {rs : List (List Int)} (s : Same H H') (m : Mat b K H a ps rs) : Mat b K H' a ps rs := ⟨Z.Same.sqK s m.1, m.2.1, fun i p r h1 h2 => Z.Same.sqK s (m.2.2 i p r h1 h2)⟩
theorem dpa_mat {b : Bool} {K : PySem.W.Frag} {H : Hp} : ∀ (ps : List Addr) (rs : List (List Int)), ps.length = rs.length → (∀ (i : Nat) (p : Addr) (r : List Int), ps[i]? = some p → rs[i]? = some r → SqK b K H p (r.map V.int)) → DpAll K H (ps.map V.ref) (rs.map (intsD b))
  | [], [], _, _ => .nil
  | p :: ps, r :: rs, hl, h => .cons (dp_ints (h 0 p r rfl rfl)) (dpa_mat ps rs (by simpa using hl) fun i q s h1 h2 => h (i + 1) q s h1 h2)
theorem Mat.dp {b : Bool} {K : PySem.W.Frag} {H : Hp} {a : Addr} {ps : List Addr} {rs : List (List Int)} (m : Mat b K H a ps rs) : Dp K H (.ref a) (matD b rs) := dp_sq m.1 (dpa_mat ps rs m.2.1 m.2.2)
theorem lay_ints : ∀ ns : List Int, PyData.canLayAll0 (ns.map PyData.int) = true
  | [] => rfl
  | n :: r => by
    rw [List.map_cons, PyData.canLayAll0, lay_ints r]
    rfl
theorem dep_ints : ∀ ns : List Int, PyData.depthAll (ns.map PyData.int) = 0
  | [] => rfl
  | n :: r => by
    rw [List.map_cons, PyData.depthAll, dep_ints r]
    rfl
theorem shaped_ints (b : Bool) (ns : List Int) : SeqAt.shaped (intsD b ns) = true := by
  unfold SeqAt.shaped intsD
  cases b
  · show (PyData.canLayAll0 (ns.map PyData.int) && decide (PyData.depthAll (ns.map PyData.int) + 1 ≤ 64)) = true
    rw [lay_ints, dep_ints]
    rfl
  · show (PyData.canLayAll0 (ns.map PyData.int) && decide (PyData.depthAll (ns.map PyData.int) + 1 ≤ 64)) = true
    rw [lay_ints, dep_ints]
    rfl
theorem lay_mat (b : Bool) : ∀ rs : List (List Int), PyData.canLayAll0 (rs.map (intsD b)) = true
  | [] => rfl
  | n :: r => by
    rw [List.map_cons, PyData.canLayAll0, lay_mat b r, SeqAt.canLay_of_shaped (shaped_ints b n)]
    rfl
theorem dep_mat (b : Bool) : ∀ rs : List (List Int), PyData.depthAll (rs.map (intsD b)) ≤ 1
  | [] => Nat.zero_le _
  | n :: r => by
    rw [List.map_cons, PyData.depthAll]
    have h := dep_mat b r
    have h2 : (intsD b n).depth = 1 := by
      cases b
      · show PyData.depthAll (n.map PyData.int) + 1 = 1
        rw [dep_ints]
      · show PyData.depthAll (n.map PyData.int) + 1 = 1
        rw [dep_ints]
    omega
theorem shaped_mat (b : Bool) (rs : List (List Int)) : SeqAt.shaped (matD b rs) = true := by
  have h := dep_mat b rs
  unfold SeqAt.shaped matD
  cases b
  · show (PyData.canLayAll0 (rs.map (intsD false)) && decide (PyData.depthAll (rs.map (intsD false)) + 1 ≤ 64)) = true
    rw [lay_mat, decide_eq_true (by omega)]
    rfl
  · show (PyData.canLayAll0 (rs.map (intsD true)) && decide (PyData.depthAll (rs.map (intsD true)) + 1 ≤ 64)) = true
    rw [lay_mat, decide_eq_true (by omega)]
    rfl
theorem same2 {K : PySem.W.Frag} {H : Hp} {x y : V} {d : PyData} {R : PyData → PyData → Prop} (hx : Dp K H x d) (hy : Dp K H y d) (hs : SeqAt.shaped d = true) (q : R d d) : ∃ d' e', Dp K H x d' ∧ Dp K H y e' ∧ SeqAt.shaped d' = true ∧ SeqAt.shaped e' = true ∧ R d' e' := ⟨d, d, hx, hy, hs, hs, q⟩
theorem eqv_same {d : PyData} (hs : SeqAt.shaped d = true) : PyData.eqv d d = true := SeqAt.eqv_refl d (SeqAt.canLay_of_shaped hs)
/-! ### a target that is one of two kinds -/
def gOr (t u : TG) : TG := fun v σ H Q => t v σ H Q ∨ u v σ H Q
theorem pg_or {X : Cx} {e : Expr} {t u : TG} (h1 : PG X e t) (h2 : PG X e u) : PG X e (gOr t u) := by
  refine ⟨fun pins s σ H v uu Q I r hw => ?_⟩
  rcases hw with h | h
  · exact h1.run pins s σ H v uu Q I r h
  · exact h2.run pins s σ H v uu Q I r h
/-! ### isinstance of built-in kinds -/
theorem isi {K : PySem.W.Frag} {H : Hp} {x : V} {T c : String} {b : Bool} {R : Bool → Prop} (t : TyOf K H x (.type T)) (h : kitB T c = some b) (q : R b) : ∃ (x' c' : V) (t' u' : Value) (b' : Bool), [x, .ty c] = [x', c'] ∧ ClsV c' u' ∧ TyX K H x' t' ∧ PySem.W.kitOne K t' u' = some b' ∧ R b' :=
  ⟨x, .ty c, .type T, .type c, b, rfl, .ty c, .base t, kit_ty h, q⟩
/-! ### rules by the written part itself (within a comprehension's block) -/
section
variable {X : Cx} {K : PySem.W.Frag}
theorem ix_list_K (h : X.K = K) : IxR X (rIxL K) := by subst h; exact ix_list
theorem ix_tup_K (h : X.K = K) : IxR X (rIxT K) := by subst h; exact ix_tup
theorem ix_seq_K (h : X.K = K) : IxR X (rIx K) := by subst h; exact ix_seq
theorem call_len_seq_K (h : X.K = K) : CallR X (.builtin "len") (fun xs H Q => ∃ p ys, xs = [.ref p] ∧ (SqL K H p ys ∨ SqT K H p ys) ∧ Q (.int ys.length) H) := by subst h; exact call_len_seq
theorem call_list_of_K (h : X.K = K) : CallR X (.type "list") (fun xs H Q => ∃ p ys, xs = [.ref p] ∧ (SqL K H p ys ∨ SqT K H p ys) ∧ ∀ l, H l = none → Q (.ref l) (upd H l (.lst ys))) := by subst h; exact call_list_of
theorem call_tuple_of_K (h : X.K = K) : CallR X (.type "tuple") (fun xs H Q => ∃ p ys, xs = [.ref p] ∧ ((SqL K H p ys ∧ ∀ l, H l = none → Q (.ref l) (upd H l (.tup ys))) ∨ (SqT K H p ys ∧ Q (.ref p) H))) := by subst h; exact call_tuple_of
theorem op_in_seq_K (h : X.K = K) : OpR X (compareOp .In) (rIn K false) := by subst h; exact op_in_seq
theorem op_notIn_seq_K (h : X.K = K) : OpR X (compareOp .NotIn) (rIn K true) := by subst h; exact op_notIn_seq
theorem op_eqD_K (h : X.K = K) (hu : X.A.units + 64 < cLine) : OpR X (compareOp .Eq) (rEqD K) := by subst h; exact op_eqD hu
theorem op_neD_K (h : X.K = K) (hu : X.A.units + 64 < cLine) : OpR X (compareOp .NotEq) (rNeD K) := by subst h; exact op_neD hu
theorem call_isi_K (h : X.K = K) : CallR X (.builtin "isinstance") (rIsi K) := by subst h; exact call_isi
end
/-! ### great products -/
theorem big_mul {i j : Int} (hi : i.natAbs < 2 ^ 4000) (hj : j.natAbs < 2 ^ 4000) : CMulX i j := mulx_ok hi hj (by decide)
/-! ### sums of multiples of rows -/
def combN (rs : List (List Int)) (fs : List Int) (w : Nat) : Nat → List Int
  | 0 => List.replicate w 0
  | n + 1 => List.zipWith (fun a b => a + fs.getD n 0 * b) (combN rs fs w n) (rs.getD n [])
theorem combN_len {rs : List (List Int)} {fs : List Int} {w : Nat} (h : ∀ r ∈ rs, r.length = w) : ∀ n, n ≤ rs.length → (combN rs fs w n).length = w
  | 0, _ => List.length_replicate
  | n + 1, hn => by
    rw [combN, List.length_zipWith, combN_len h n (by omega), List.getD_eq_getElem?_getD, List.getElem?_eq_getElem (by omega), Option.getD_some, h _ (List.getElem_mem _)]
    omega
theorem combN_at {rs : List (List Int)} {fs : List Int} {w i c : Nat} (hi : i < rs.length) (hf : i < fs.length) (c1 : c < (combN rs fs w i).length) (c2 : c < rs[i].length) : (combN rs fs w (i + 1))[c]? = some ((combN rs fs w i)[c] + fs[i] * rs[i][c]) := by
  have g1 : fs.getD i 0 = fs[i] := by rw [List.getD_eq_getElem?_getD, List.getElem?_eq_getElem hf]; rfl
  have g2 : rs.getD i [] = rs[i] := by rw [List.getD_eq_getElem?_getD, List.getElem?_eq_getElem hi]; rfl
  rw [combN, List.getElem?_zipWith, g1, g2, List.getElem?_eq_getElem c1, List.getElem?_eq_getElem c2]
end Z
set_option Elab.async false
set_option linter.all false
set_option maxRecDepth 100000
set_option maxHeartbeats 4000000
namespace Z
open PySem PySem.Spec PyProof.Rows L2
/-! ### own classes: making, methods, calls of instances, == -/
structure Mak (P : Program) (w : World) (K : PySem.W.Frag) (mg : Str → Option Value) (base : Heap) (k : Nat) (x : Str) (sp : Sp) : Prop where
  ex : ∃ (C f : Addr) (fd : FuncData) (ps : List Str) (si : Sp), Mk K C f ∧ FnOk P w K mg base CX0 k f fd ps si ∧ mg x = some (.ref C) ∧ Binds K fd ps [] ∧
    ∀ vs H Q E, sp vs H Q E → ∀ n dx, H n = none → H dx = none → dx ≠ n → si (.ref n :: vs) (upd (upd H dx (.own n)) n (.ins C dx [])) (fun v H2 => v = .non ∧ Q (.ref n) H2) E
structure Met (P : Program) (w : World) (K : PySem.W.Frag) (mg : Str → Option Value) (base : Heap) (k : Nat) (C : Addr) (m : Str) (sp : Sp) : Prop where
  ex : ∃ (f : Addr) (fd : FuncData) (ps : List Str), Cls K C ∧ Meth K C m f ∧ FnOk P w K mg base CX0 k f fd ps sp ∧ Binds K fd ps []
section
variable {X : Cx} {k j : Nat} {x m : Str} {sp : Sp} {C : Addr} {p pos apos : Pos} {e o : Expr} {es : List Expr} {t : TA} {ta : TE}
theorem pe_mk (c : Mak X.prog X.w X.K X.mg X.base k x sp) (hr : Room j X.A) (hk : k + 1 ≤ j) (hg : Gl X x) (ha : PA X (e :: es) t)
    (hdb : (x == ("__debug__" : Str)) = false := by decide) (he : starEach (e :: es) X.env = (false, eval e X.env) :: starEach es X.env := by rfl) (hpl : (backTo pos (starEach es X.env)).any (·.1) = false := by rfl) : PE X (.Call (.Name x p) (e :: es) [] pos) (tCall sp [] E0 t) := by
  obtain ⟨C, f, fd, ps, si, M, F, hm, b, imp⟩ := c.ex
  constructor
  intro pins s σ H Q I h
  refine wpAny_Call_Name_kw (ld_glob I hg hm ?_ hdb)
  refine PySem.W.callWith_K (h₀ := X.base) I.ok.mod.kin M.kp (thn (ha.run pos pins s σ H _ I h) fun us s1 ⟨vs, H1, I1, r, q⟩ => ⟨I1.kIn, ?_⟩) he hpl
  have q2 : sp vs H1 Q E0 := by
    have z : sp (vs ++ []) H1 Q E0 := q
    rw [List.append_nil] at z
    exact z
  refine run_make (dvs := []) M F (hr.mono hk) b .nil pass0 I1 r (fun n dx n1 n2 n3 => ?_)
  rw [List.append_nil]
  exact imp _ _ _ _ q2 n dx n1 n2 n3
theorem pe_me {pl : Sem Bool} (c : Met X.prog X.w X.K X.mg X.base k C m sp) (he : PE X o ta) (hr : Room j X.A) (hk : k ≤ j) (ha : PA X (e :: es) t)
    (hst : starEach (e :: es) X.env = (false, eval e X.env) :: starEach es X.env := by rfl) (hpl : (backTo pos (starEach es X.env)).any (·.1) = false := by rfl)
    (ht : eval (.Call (.Attribute o m apos) (e :: es) [] pos) X.env = (do
      let ov ← eval o X.env
      standAt apos.atName
      let (f, first) ← holding [ov] (getMethod ov m pl)
      callWith pos f first (backTo pos (starEach (e :: es) X.env)) (backToKw pos (keywordEach [] X.env))) := by rfl) : PE X (.Call (.Attribute o m apos) (e :: es) [] pos) (tMeth C m sp [] E0 ta t) := by
  obtain ⟨f, fd, ps, cl, me, F, b⟩ := c.ex
  exact pe_meth he cl me F (hr.mono hk) b .nil pass0 ha hst hpl ht
theorem pe_me0 {pl : Sem Bool} (c : Met X.prog X.w X.K X.mg X.base k C m sp) (he : PE X o ta) (hr : Room j X.A) (hk : k ≤ j)
    (ht : eval (.Call (.Attribute o m apos) [] [] pos) X.env = (do
      let ov ← eval o X.env
      standAt apos.atName
      let (f, first) ← holding [ov] (getMethod ov m pl)
      callWith pos f first (backTo pos (starEach [] X.env)) (backToKw pos (keywordEach [] X.env))) := by rfl) : PE X (.Call (.Attribute o m apos) [] [] pos) (tMeth C m sp [] E0 ta tNil) := by
  obtain ⟨f, fd, ps, cl, me, F, b⟩ := c.ex
  exact pe_meth0 he cl me F (hr.mono hk) b .nil pass0 ht
end
/-! ### f(e, ..), f an instance of C -/
structure Cob (P : Program) (w : World) (K : PySem.W.Frag) (mg : Str → Option Value) (base : Heap) (k : Nat) (C : Addr) (sp : Sp) : Prop where
  ex : ∃ g : Addr, StX.CallO K C g ∧ FnR P w K mg base CX0 k g sp
def tCo (C : Addr) (sp : Sp) (tf : TE) (t : TA) : TE := fun σ H Q => tf σ H fun y H1 => ∃ a, y = V.ref a ∧ t σ H1 fun vs H2 => (∃ dx fs, H2 a = some (.ins C dx fs)) ∧ sp (V.ref a :: vs) H2 Q E0
section
variable {X : Cx} {k j : Nat} {sp : Sp} {C : Addr} {pos : Pos} {e fe : Expr} {es : List Expr} {t : TA} {tf : TE}
theorem pe_co (c : Cob X.prog X.w X.K X.mg X.base k C sp) (hf : PE X fe tf) (hr : Room j X.A) (hk : k ≤ j) (ha : PA X (e :: es) t)
    (ht : eval (.Call fe (e :: es) [] pos) X.env = (do callWith pos (← eval fe X.env) [] (backTo pos (starEach (e :: es) X.env)) (backToKw pos (keywordEach [] X.env))) := by rfl)
    (he : starEach (e :: es) X.env = (false, eval e X.env) :: starEach es X.env := by rfl) (hpl : (backTo pos (starEach es X.env)).any (·.1) = false := by rfl) : PE X (.Call fe (e :: es) [] pos) (tCo C sp tf t) := by
  obtain ⟨g, co, F⟩ := c.ex
  constructor
  intro pins s σ H Q I h
  refine Call_ (thn (hf.run pins s σ H _ I h) fun u s1 ⟨y, H1, I1, ry, a, ey, q⟩ => ?_) ht
  subst ey
  obtain rfl : u = Value.ref a := ry
  refine StX.callO_with (thn (ha.run pos pins s1 σ H1 _ I1 q) fun us s2 ⟨vs, H2, I2, r, hi, q2⟩ => ?_) he hpl
  have hi2 : StX.InsC X H2 a C := .inr hi
  obtain ⟨ox, od, J, hd⟩ := StX.insC_at I2 hi2
  exact ⟨⟨C, ox, od, J, hd⟩, StX.run_callO co F (hr.mono hk) pass0 I2 hi2 r q2⟩
end
/-! ### a == b by the class's own __eq__ -/
structure Eqo (P : Program) (w : World) (K : PySem.W.Frag) (mg : Str → Option Value) (base : Heap) (k : Nat) (C : Addr) (sp : Sp) : Prop where
  ex : ∃ (f : Addr) (fd : FuncData) (ps : List Str), FnOk P w K mg base CX0 k f fd ps sp ∧ PySem.W.findIn K (.ref C) "__eq__" = some (some (.ref f)) ∧ PySem.W.isFn K (.ref f) = true ∧ Binds K fd ps []
def rOwn (C : Addr) (sp : Sp) : R2 := fun x y H Q => ∃ a b dx dy fs gs, x = .ref a ∧ y = .ref b ∧ H a = some (.ins C dx fs) ∧ H b = some (.ins C dy gs) ∧ sp [.ref a, .ref b] H (fun v H' => ∃ r, v = .bl r ∧ Q v H') E0
theorem op_own {X : Cx} {k j : Nat} {C : Addr} {sp : Sp} (c : Eqo X.prog X.w X.K X.mg X.base k C sp) (hr : Room j X.A) (hk : k ≤ j) : OpR X (compareOp .Eq) (rOwn C sp) := by
  intro pins s σ H x y v u Q I rx ry hq
  obtain ⟨f, fd, ps, F, hs, hf, hb⟩ := c.ex
  obtain ⟨a, b, dx, dy, fs, gs, rfl, rfl, ha, hb', q⟩ := hq
  cases rx
  cases ry
  obtain ⟨mA, J, _⟩ := ins_get I.hok ha
  obtain ⟨mB, J', _⟩ := ins_get I.hok hb'
  obtain ⟨od, J, _⟩ := J.look
  obtain ⟨od', J', _⟩ := J'.look
  obtain ⟨m, hF⟩ := I.fr
  show wpAny (model X.prog X.w) X.A (richCompare .Eq (Value.ref a) (Value.ref b)) (EP X pins σ Q) X.xe s
  refine PySem.W.cmp_K (op := .Eq) (tb := .ref C) (hr.mono hk).units0 hF I.ok.mod.kin J J'.type (by simp [PySem.W.notFirst]) hs hf ?_
  have r2 : Vals [V.ref a, V.ref b] [Value.ref a, Value.ref b] := .cons rfl (.cons rfl .nil)
  refine thn (run_fn (dvs := []) F (hr.mono hk) hb .nil pass0 I r2 q) fun r s' z => ?_
  obtain ⟨v, H', I', rv, b', rfl, q'⟩ := z
  cases rv
  exact ⟨.bl b', H', I', rfl, q'⟩
end Z
set_option Elab.async false
set_option linter.all false
set_option maxRecDepth 100000
set_option maxHeartbeats 4000000
namespace Z
open PySem PySem.Spec PyProof.Rows L2 NdefX
/-! ### an own exception whose __init__ begins with super().__init__(..) -/
/-- what the written part says of it: the function f of the class C (cell cc, code c) -/
structure SupK (P : Program) (K : PySem.W.Frag) (C f c cc : Addr) (fd : FuncData) : Prop where
  lk : ∃ oc od osl, K.lookup f = some ⟨oc, od, .func fd, osl⟩
  code : ∃ (ccl : Value) (cdd : Option Addr) (vs : Array Value) (ccs : Array (Option Value)) (file : Str) (tf : Tok), K.lookup c = some ⟨ccl, cdd, .fields vs, ccs⟩ ∧ vs[2]? = some (.str file tf) ∧ ((P.main.file : Str) == file) = true
  cell : ∃ cl cld csl, K.lookup cc = some ⟨cl, cld, .cell (some (.ref C)), csl⟩
  top : (P.main.scope.names.lookup ("super" : Str)).isSome = false
  mro : PySem.W.mroIn K C (.ref C) = some true
  opq : PySem.W.nsIn K cStatics "thirdparty.any" = some none
  ini : PySem.W.ks_superIn K C C "__init__" = some (some (.builtin "ValueError.__init__"))
  sub : PySem.W.subIn K (.ref C) (.type "ValueError") = some true
  exi : PySem.W.excInitIn K C He.veBase "ValueError.__new__" = true
  oex : OexC K C
section
variable {CX : CXT} {P : Program} {w : World} {K : PySem.W.Frag} {mg : Str → Option Value} {base : Heap} {N ps : List Str} {F : NF} {f C a cc : Addr} {A : Around} {outer : List Env} {s0 s : Shared} {H0 H : Hp} {E : XK} {σ : L2.St}
/-- the bound __init__ called -/
theorem call_mw {X : Cx} {pins : List (Addr × Obj)} {u : Addr} {us : List Value} {Q : Value → Shared → Prop} {E : Value → Shared → Prop} {A : Around} (S : SupK X.prog X.K C f c cc fd) (I : Inv X ((u, PySem.W.kxs_mw "ValueError.__init__" a) :: pins) σ H s) (e : H a = some (exo a C none)) (hz : us.length ≤ sizeLine)
    (h : ∀ s', Inv X ((u, PySem.W.kxs_mw "ValueError.__init__" a) :: pins) σ H s' → Q .none s') : wpAny (model X.prog X.w) A (call (.ref u) us) Q E s := by
  have FB := F.excBase_ValueError
  obtain ⟨nm, N', qn, bs, bm, hdct, sn, sub, ab, col, dd, k0, k1, k2, k3, k5, hC, hT⟩ := PySem.W.excInit_of I.kIn S.exi
  have hu := (I.pin (u, PySem.W.kxs_mw "ValueError.__init__" a) (List.mem_append_right _ (List.mem_cons_self ..))).1
  obtain ⟨t1, he⟩ := exo_at I.hok e
  obtain ⟨hh, g, d, tk, os⟩ := s
  refine wpAny_call (codeAny_of_tree ?_)
  show wpAny _ A.in1 (callAny (.ref u) ⟨us, []⟩) _ _ _
  simp only [callAny]
  refine wpAny_bind (wpAny_load hu ?_)
  simp only [PySem.W.kxs_mw, show (Value.type "method-wrapper" == Value.type "method" || Value.type "method-wrapper" == Value.type "builtin_function_or_method" || Value.type "method-wrapper" == Value.type "method-wrapper") = true by decide, if_true]
  refine PySem.W.KFB.if_so (by decide) ?_
  refine wpAny_bind (PySem.W.check_bound_init FB.toExcCallFacts hC he rfl ?_)
  refine wpAny_bind (wpAny_pure (wpAny_pure ?_))
  refine ⟨plainId_quiet FB.init.plain _, codeAny_builtin FB.initEntry ?_⟩
  refine PySem.W.exc_init_tree (cls := .ref C) (t0 := t1) (dv := none) (c2 := .none) (c3 := .none) (b4 := .bool false) he hz fun h' k hx _ => ?_
  have J := I.write (t' := tk) (x := a) (e := a) (o := exo a C none) (by rw [e]; exact True.intro) (.inl rfl) k ⟨_, hx⟩ (exo_ok hx)
  have eu : upd H a (exo a C none) = H := by
    funext b
    by_cases hb : b = a
    · rw [hb, upd_same, e]
    · rw [upd_ne hb]
  rw [eu] at J
  exact h _ J
/-- super().__init__(e, ..), the first statement -/
theorem super_first {pl : Sem Bool} {fd : FuncData} {ar : Arg} {t : TA} {e : Expr} {es : List Expr} {p0 p1 p2 pos pos2 : Pos} {Qn : Hp → Prop} (S : SupK P K C f F.c cc fd) (hcl : F.cl = [(("__class__" : Str), cc)]) (hp : (fd.params.posonlyargs ++ fd.params.args).head? = some ar)
    (hks : F.scope.names.lookup ("super" : Str) = some .globalImplicit) (hkc : F.scope.names.lookup ("__class__" : Str) = some .free) (hka : F.scope.names.lookup ar.arg = some .local) (hk : F.scope.kind = .function) (m_super : mg "super" = none)
    (hN : N[0]? = some ar.arg) (ha : PA (ncx CX P w K mg base N F f A outer s0 H0 E) (e :: es) t) (I : Inv (ncx CX P w K mg base N F f A outer s0 H0 E) [] σ H s) (hs : σ[0]? = some (some (.ref a))) (hx : H a = some (exo a C none))
    (ht : t σ H fun vs H1 => vs.length ≤ 1000 ∧ H1 a = some (exo a C none) ∧ Qn H1)
    (hint : interactive (ncx CX P w K mg base N F f A outer s0 H0 E).env = false := by rfl) (hsw : swapsWith (.Call (.Attribute (.Call (.Name "super" p0) [] [] p1) "__init__" p2) (e :: es) [] pos) none pos2.line (ncx CX P w K mg base N F f A outer s0 H0 E).env = pure false := by rfl)
    (hev : eval (.Call (.Attribute (.Call (.Name "super" p0) [] [] p1) "__init__" p2) (e :: es) [] pos) (ncx CX P w K mg base N F f A outer s0 H0 E).env = (do
      let ov ← attributeBase (.Call (.Name "super" p0) [] [] p1) "__init__" (ncx CX P w K mg base N F f A outer s0 H0 E).env (eval (.Call (.Name "super" p0) [] [] p1) (ncx CX P w K mg base N F f A outer s0 H0 E).env)
      standAt p2.atName
      let (g, first) ← holding [ov] (getMethod ov "__init__" pl)
      callWith pos g first (backTo pos (starEach (e :: es) (ncx CX P w K mg base N F f A outer s0 H0 E).env)) []) := by rfl)
    (he : starEach (e :: es) (ncx CX P w K mg base N F f A outer s0 H0 E).env = (false, eval e (ncx CX P w K mg base N F f A outer s0 H0 E).env) :: starEach es (ncx CX P w K mg base N F f A outer s0 H0 E).env := by rfl) (hpl : (backTo pos (starEach es (ncx CX P w K mg base N F f A outer s0 H0 E).env)).any (·.1) = false := by rfl) :
    _root_.PySem.wpAt (model P w) (ncx CX P w K mg base N F f A outer s0 H0 E).A (.func F.body (ncx CX P w K mg base N F f A outer s0 H0 E).env) (exec (.Expr (.Call (.Attribute (.Call (.Name "super" p0) [] [] p1) "__init__" p2) (e :: es) [] pos) pos2) (ncx CX P w K mg base N F f A outer s0 H0 E).env)
      (fun fl s' => fl = .next ∧ ∃ H1, Inv (ncx CX P w K mg base N F f A outer s0 H0 E) [] σ H1 s' ∧ H1 a = some (exo a C none) ∧ Qn H1) (ncx CX P w K mg base N F f A outer s0 H0 E).xe s := by
  obtain ⟨oc, od, osl, lkf⟩ := S.lk
  obtain ⟨ccl, cdd, vs, ccs, file, tf, lkc, hvs, hfile⟩ := S.code
  obtain ⟨cl, cld, csl, lkcc⟩ := S.cell
  have KX : K.In s.heap := I.kIn
  obtain ⟨m, hn, hl⟩ := I.loc
  obtain ⟨u, ru, lu⟩ := hl 0 ar.arg (.ref a) hN hs (.inl hka)
  obtain rfl : u = .ref a := ru
  have hma : m ar.arg = some (.ref a) := by
    rcases lu with ⟨_, z⟩ | ⟨z, _⟩
    · exact z
    · rcases z with z | z
      · rw [show (ncx CX P w K mg base N F f A outer s0 H0 E).env.kindOf ar.arg = some .local from hka] at z; cases z
      · rw [show (ncx CX P w K mg base N F f A outer s0 H0 E).env.kindOf ar.arg = some .local from hka] at z; cases z
  obtain ⟨nm, q, NN, bs, bm, sn, sub, ab, col, dd, k0, k1, k2, k3, k5, hC, hbm⟩ := S.oex.cls
  obtain ⟨t1, hox⟩ := exo_at I.hok hx
  refine ks_wpAt_Expr_any (ks_wpAt_MethodCall ?_ hev) hint hsw
  refine ks_wpAt_super_base (env := (ncx CX P w K mg base N F f A outer s0 H0 E).env) (cc := F.c) hks hkc (by decide) rfl (KX _ _ lkf) rfl hp rfl (KX _ _ lkc) rfl hvs hfile S.top ?_
  obtain ⟨mb, h1, h2⟩ := I.mod.blt
  refine PySem.W.ks_loadName_global hk hks (Calls.loadGlobal_builtin (by rw [I.ok.glob]; exact I.mod.glob.keeps I.bk) m_super (by rw [I.ok.blt]; exact h1.keeps I.bk) ((h2 "super" (by decide)).trans (by decide +kernel)) ⟨rfl, ?_⟩)
  refine wpAny_loadName_free hk hkc (c := cc) (by show F.cl.lookup _ = _; rw [hcl]; rfl) ⟨_, KX _ _ lkcc, rfl⟩ ?_
  refine wpAny_loadName_local hk hka hn hma ?_
  refine ks_wpAny_isType_cls (KX _ _ hC) rfl ⟨rfl, ?_⟩
  obtain ⟨hh, g, d, tk, os⟩ := s
  refine ks_wpAny_call_super (KX _ _ hC) rfl hox rfl (fun c z => by cases z) (PySem.W.looks_mroIn KX S.mro) (fun h' eso kso => ?_)
  have I2 : Inv (ncx CX P w K mg base N F f A outer s0 H0 E) [] σ H ⟨h', g, d, tk, os⟩ := I.kept kso
  have KX2 : K.In h' := I2.kIn
  have hox2 := kso _ _ hox
  have IA : PySem.W.InstAt h' a _ C none := ⟨hox2, rfl, rfl, trivial⟩
  have hI : PySem.W.Looks (model P w) h' (isInstance (.ref a) (.type "ValueError")) true := IA.type.andThen (PySem.W.looks_subIn KX2 S.sub)
  have hm := S.ini
  cases hc : PySem.W.clsIn K C with
  | none =>
    unfold PySem.W.ks_superIn at hm
    rw [hc] at hm
    cases hm
  | some cd =>
    unfold PySem.W.ks_superIn at hm
    rw [hc] at hm
    refine PySem.W.kxs_getMethod PySem.W.kxs_ValueError eso (PySem.W.looks_opaque KX2 S.opq) (l₀ := cd.mro) ?_ rfl KX2 hm hI (PySem.W.ks_ne KX2 IA hc) (by decide) ?_
    · exact fun A Q E s k q => wpAny_bind ((PySem.W.looks_clsIn KX2 hc) A _ E s k (wpAny_pure q))
    · have I3 : Inv (ncx CX P w K mg base N F f A outer s0 H0 E) [(h'.objs.size, PySem.W.kxs_mw "ValueError.__init__" a)] σ H ⟨h'.push (PySem.W.kxs_mw "ValueError.__init__" a), g, d, tk + 1, os⟩ := ClX.pin_new I2 (fun b o e => Heap.get?_push_of_some _ e) (Nat.le_refl _) (Heap.get?_push_at rfl rfl) (fun v z => by cases z)
      rw [he]
      refine PySem.W.kxs_callWith (i := "ValueError.__init__") (x := a) (by show (false || (backTo pos (starEach es _)).any (·.1)) = false; rw [hpl]; rfl) ?_
      refine PySem.Calls.evalArgs_plain ?_
      have hrun := ha.run pos _ _ σ H _ I3 ht
      rw [he] at hrun
      refine thn hrun fun us s3 ⟨ws, H3, I4, r, q1, q2, q3⟩ => ?_
      refine ⟨ClX.pin_at I4, ?_⟩
      refine call_mw (X := ncx CX P w K mg base N F f A outer s0 H0 E) S I4 q2 (by show us.length ≤ sizeLine; rw [← r.length]; exact Nat.le_trans q1 (by decide)) fun s' I5 => ⟨rfl, H3, ClX.unpin I5, q2, q3⟩
theorem wpAt_to {M : Model} {A : Around} {c : Code} {α : Type} {m : Sem α} {Q Q' : α → Shared → Prop} {E : Value → Shared → Prop} {s : Shared} (h : _root_.PySem.wpAt M A c m Q E s) (hq : ∀ a s', Q a s' → Q' a s') : _root_.PySem.wpAt M A c m Q' E s := ks_wpAt_mono h hq fun _ _ z => z
/-- THE RULE: such an __init__, the rest of its body by its readings -/
theorem sup_ok {pl : Sem Bool} {fd : FuncData} {dV kV doc pm ct : Value} {an : Option Addr} {ar : Arg} {k : Nat} {sp : Sp} {txt : Str} {j : Nat} {p0 p1 p2 p3 pos pos2 : Pos} {rest : List Stmt} (hfd : fd = PySem.W.fnX F.name F.qual F.params F.body F.scope F.cl dV kV doc pm an (.ref F.c) ct)
    (S : SupK P K C f F.c cc fd) (hcd : PySem.W.codeIn K (.ref F.c) F.qual = true) (NS : NScope N ps ["__class__"] F.scope) (hcl : F.cl = [(("__class__" : Str), cc)]) (hp : (F.params.posonlyargs ++ F.params.args).head? = some ar) (hks : F.scope.names.lookup ("super" : Str) = some .globalImplicit) (m_super : mg "super" = none)
    (hN : N[0]? = some ar.arg) (hka : F.scope.names.lookup ar.arg = some .local)
    (hb : F.body = .Expr (.Call (.Attribute (.Call (.Name "super" p0) [] [] p1) "__init__" p2) [.Constant (.str txt) j p3] [] pos) pos2 :: rest)
    (len : ∀ vs H Q E, sp vs H Q E → vs.length = ps.length) (hself : ∀ vs H Q E, sp vs H Q E → ∃ a vs', vs = .ref a :: vs' ∧ H a = some (exo a C none))
    (hint : ∀ (A : Around) (outer : List Env) (s : Shared) (H : Hp) (E : XK), interactive (ncx CX P w K mg base N F f A outer s H E).env = false)
    (hsw : ∀ (A : Around) (outer : List Env) (s : Shared) (H : Hp) (E : XK), swapsWith (.Call (.Attribute (.Call (.Name "super" p0) [] [] p1) "__init__" p2) [.Constant (.str txt) j p3] [] pos) none pos2.line (ncx CX P w K mg base N F f A outer s H E).env = pure false)
    (hev : ∀ (A : Around) (outer : List Env) (s : Shared) (H : Hp) (E : XK), eval (.Call (.Attribute (.Call (.Name "super" p0) [] [] p1) "__init__" p2) [.Constant (.str txt) j p3] [] pos) (ncx CX P w K mg base N F f A outer s H E).env = (do
      let ov ← attributeBase (.Call (.Name "super" p0) [] [] p1) "__init__" (ncx CX P w K mg base N F f A outer s H E).env (eval (.Call (.Name "super" p0) [] [] p1) (ncx CX P w K mg base N F f A outer s H E).env)
      standAt p2.atName
      let (g, first) ← holding [ov] (getMethod ov "__init__" pl)
      callWith pos g first (backTo pos (starEach [.Constant (.str txt) j p3] (ncx CX P w K mg base N F f A outer s H E).env)) []))
    (hrest : ∀ (A : Around) (outer : List Env) (s : Shared) (H : Hp) (vs : List V) (Q : VK) (E : XK), sp vs H Q E → ∃ t, PSs (ncx CX P w K mg base N F f A outer s H E) rest t ∧ t { nx := fun _ H' => Q .non H', rt := Q } (startF N vs [some (.ref C)]) H) : FnOk P w K mg base CX (k + 1) f fd ps sp := by
  refine ⟨len, fun A outer s H args us vs Q E hr e0 hbn r hsp => ?_⟩
  have hl := len _ _ _ _ hsp
  have KX : K.In s.heap := e0.mod.kin.keeps fun b o e => (e0.bs b o e).1
  have lim : s.heap.NoLimit := e0.mod.nolimit.keeps fun b o e => (e0.bs b o e).1
  obtain ⟨oc, od, osl, lkf⟩ := S.lk
  obtain ⟨cl, cld, csl, lkcc⟩ := S.cell
  have CA : CellsAt F.cl ["__class__"] [some (.ref C)] s.heap H := by
    refine ⟨rfl, fun y c e => ?_, fun x y c e1 e2 => ?_, fun i y e => ?_⟩
    · rw [hcl] at e
      have ec : c = cc := by
        unfold List.lookup at e
        split at e
        · exact (Option.some.inj e).symm
        · cases e
      subst ec
      exact ⟨(e0.bs _ _ (e0.mod.kin _ _ lkcc)).2, _, _, KX _ _ lkcc, rfl⟩
    · rw [hcl] at e1 e2
      have k : ∀ z : Str, ([(("__class__" : Str), cc)] : List (Str × Addr)).lookup z = some c → z = "__class__" := fun z e => by
        unfold List.lookup at e
        split at e
        · next h => exact beq_iff_eq.mp h
        · cases e
      rw [k x e1, k y e2]
    · have ey : y = "__class__" := by
        cases i with
        | zero => exact (Option.some.inj e).symm
        | succ i => cases e
      subst ey
      refine ⟨cc, by rw [hcl]; rfl, fun v hv => ?_⟩
      have ei : i = 0 := by
        cases i with
        | zero => rfl
        | succ i => cases e
      subst ei
      obtain rfl : V.ref C = v := Option.some.inj (Option.some.inj hv)
      exact ⟨.ref C, rfl, _, KX _ _ lkcc, rfl⟩
  subst hfd
  refine ks_codeAny_call_defAt hr.depth (KX _ _ lkf) rfl lim (PySem.W.codeRec_of KX hcd) rfl hbn NS.nocell (fun ⟨n, _⟩ hy => NS.par n (List.of_mem_zip hy).1) (fun h₁ hns kp => ?_) NS.co NS.gen NS.kind
  show _root_.PySem.wpAt _ (ncx CX P w K mg base N F f A outer s H E).A (.func F.body (ncx CX P w K mg base N F f A outer s H E).env) (execs F.body (ncx CX P w K mg base N F f A outer s H E).env) _ (ncx CX P w K mg base N F f A outer s H E).xe _
  have I : Inv (ncx CX P w K mg base N F f A outer s H E) [] (startF N vs [some (.ref C)]) H { s with heap := h₁, toks := s.toks + (ps.zip us).length } := inv_startN NS hr.hd e0 hl r CA hns kp
  obtain ⟨a, vs', rfl, hx⟩ := hself _ _ _ _ hsp
  have hexe : execs F.body (ncx CX P w K mg base N F f A outer s H E).env = execs (.Expr (.Call (.Attribute (.Call (.Name "super" p0) [] [] p1) "__init__" p2) [.Constant (.str txt) j p3] [] pos) pos2 :: rest) (ncx CX P w K mg base N F f A outer s H E).env := by rw [hb]
  rw [hexe]
  refine ks_wpAt_execs_cons (wpAt_to (super_first (Qn := fun H1 => H1 = H) S hcl hp hks (NS.frk _ (List.mem_cons_self ..)) hka NS.kind m_super hN (pa_cons pe_str pa_nil) I rfl hx ⟨by simp, hx, rfl⟩ (hint A outer s H E) (hsw A outer s H E) (hev A outer s H E)) ?_)
  rintro fl s1 ⟨rfl, H1, I1, _, rfl⟩
  obtain ⟨t, ht, hq⟩ := hrest A outer s H1 _ Q E hsp
  refine wpAt_of_wpAny (wpAny_mono (ht.run [] _ _ H1 _ I1 hq) (fun fl s' hs => ?_) fun e s' hs => hs)
  have fin : ∀ {σ' : L2.St} {H' : Hp} {v : V} {u : Value}, Inv (ncx CX P w K mg base N F f A outer s H1 E) [] σ' H' s' → L2.RelV v u → Q v H' → CE outer P w H1 s Q u s' :=
    fun {σ' H' v u} J rv q => ⟨v, H', J.os, J.bare, J.base, J.hok, rv, q⟩
  cases fl with
  | ret u =>
    obtain ⟨v, σ', H', J, rv, q⟩ := hs
    exact fin J rv q
  | next =>
    obtain ⟨σ', H', J, q⟩ := hs
    exact fin (v := V.non) (u := Value.none) J rfl q
  | brk =>
    obtain ⟨_, _, _, q⟩ := hs
    exact False.elim q
  | cont =>
    obtain ⟨_, _, _, q⟩ := hs
    exact False.elim q
end
end Z
set_option Elab.async false
set_option linter.all false
set_option maxRecDepth 100000
set_option maxHeartbeats 4000000
namespace Z
open PySem PySem.Spec PyProof.Rows L2 NdefX
/-! ### class X(..): def __init__(self, v): super().__init__("text"); self.field = v -/
def spEx (C : Addr) (field : Str) : Sp := fun vs H Q _ => ∃ (a : Addr) (v : V), vs = [.ref a, v] ∧ H a = some (exo a C none) ∧ ∀ dx, H dx = none → dx ≠ a → Q .non (upd (upd H dx (exd dx [(field, v)])) a (exo a C (some dx)))
theorem exn_ok {P : Program} {w : World} {K : PySem.W.Frag} {mg : Str → Option Value} {base : Heap} {F : NF} {f C cc : Addr} {pl : Sem Bool} {fd : FuncData} {dV kV doc pm ct : Value} {an : Option Addr} {ar : Arg} {txt v field : Str} {j : Nat} {p0 p1 p2 p3 pos pos2 q1 q2 q3 q4 : Pos} (hfd : fd = PySem.W.fnX F.name F.qual F.params F.body F.scope F.cl dV kV doc pm an (.ref F.c) ct)
    (S : SupK P K C f F.c cc fd) (hcd : PySem.W.codeIn K (.ref F.c) F.qual = true) (NS : NScope ["self", v, "__class__"] ["self", v] ["__class__"] F.scope) (hcl : F.cl = [(("__class__" : Str), cc)]) (hp : (F.params.posonlyargs ++ F.params.args).head? = some ar) (har : ar.arg = "self") (hks : F.scope.names.lookup ("super" : Str) = some .globalImplicit) (m_super : mg "super" = none)
    (hno : PySem.W.findIn K (.ref C) field = some none) (hvd : (v == ("__debug__" : Str)) = false) (hvc : (v == ("__classdict__" : Str)) = false)
    (hb : F.body = [.Expr (.Call (.Attribute (.Call (.Name "super" p0) [] [] p1) "__init__" p2) [.Constant (.str txt) j p3] [] pos) pos2, .Assign [.Attribute (.Name "self" q1) field q2] (.Name v q3) q4])
    (hint : ∀ (A : Around) (outer : List Env) (s : Shared) (H : Hp) (E : XK), interactive (ncx CX0 P w K mg base ["self", v, "__class__"] F f A outer s H E).env = false)
    (hsw : ∀ (A : Around) (outer : List Env) (s : Shared) (H : Hp) (E : XK), swapsWith (.Call (.Attribute (.Call (.Name "super" p0) [] [] p1) "__init__" p2) [.Constant (.str txt) j p3] [] pos) none pos2.line (ncx CX0 P w K mg base ["self", v, "__class__"] F f A outer s H E).env = pure false)
    (hev : ∀ (A : Around) (outer : List Env) (s : Shared) (H : Hp) (E : XK), eval (.Call (.Attribute (.Call (.Name "super" p0) [] [] p1) "__init__" p2) [.Constant (.str txt) j p3] [] pos) (ncx CX0 P w K mg base ["self", v, "__class__"] F f A outer s H E).env = (do
      let ov ← attributeBase (.Call (.Name "super" p0) [] [] p1) "__init__" (ncx CX0 P w K mg base ["self", v, "__class__"] F f A outer s H E).env (eval (.Call (.Name "super" p0) [] [] p1) (ncx CX0 P w K mg base ["self", v, "__class__"] F f A outer s H E).env)
      standAt p2.atName
      let (g, first) ← holding [ov] (getMethod ov "__init__" pl)
      callWith pos g first (backTo pos (starEach [.Constant (.str txt) j p3] (ncx CX0 P w K mg base ["self", v, "__class__"] F f A outer s H E).env)) []))
    (hs2 : ∀ (A : Around) (outer : List Env) (s : Shared) (H : Hp) (E : XK), swapsWith (.Name v q3) (some (.Attribute (.Name "self" q1) field q2)) q4.line (ncx CX0 P w K mg base ["self", v, "__class__"] F f A outer s H E).env = pure false) : FnOk P w K mg base CX0 1 f fd ["self", v] (spEx C field) := by
  refine sup_ok (k := 0) (rest := [.Assign [.Attribute (.Name "self" q1) field q2] (.Name v q3) q4]) hfd S hcd NS hcl hp hks m_super (by rw [har]; rfl) (by rw [har]; exact NS.par _ (List.mem_cons_self ..)) hb (fun vs H Q E h => ?_) (fun vs H Q E h => ?_) hint hsw hev (fun A outer s H vs Q E h => ?_)
  · obtain ⟨a, y, rfl, _⟩ := h
    rfl
  · obtain ⟨a, y, rfl, hx, _⟩ := h
    exact ⟨a, [y], rfl, hx⟩
  · obtain ⟨a, y, rfl, hx, q⟩ := h
    refine ⟨_, pss_one (ps_ost (pe_var (i := 0) rfl (.inl (NS.par _ (List.mem_cons_self ..)))) (pe_var (i := 1) rfl (.inl (NS.par _ (List.mem_cons_of_mem _ (List.mem_cons_self ..)))) hvd hvc) (hs2 A outer s H E)), ?_⟩
    refine ⟨y, rfl, .ref a, rfl, a, C, rfl, S.oex, hno, .inl ⟨hx, fun dx n1 n2 => ?_⟩⟩
    exact q dx n1 n2
/-! ### raise X(e) -/
structure Exn (P : Program) (w : World) (K : PySem.W.Frag) (mg : Str → Option Value) (base : Heap) (x : Str) (C : Addr) (field : Str) : Prop where
  oex : OexC K C
  gl : mg x = some (.ref C)
  ini : ∃ fI fd ps, PySem.W.findIn K (.ref C) "__init__" = some (some (.ref fI)) ∧ PySem.W.typeIn K (.ref fI) = some (.type "function") ∧ FnOk P w K mg base CX0 1 fI fd ps (spEx C field) ∧ Binds K fd ps []
/-! ### C(e): the exception's object has no context -/
section
variable {X : Cx} {x : Str} {C g : Addr} {k : Nat} {fd : FuncData} {ps : List Str} {sp : Sp} {e : Expr} {ta : TA} {p pos : Pos}
/-- the two objects that type.__call__ lays -/
abbrev hp2 (h : Heap) (C : Addr) (us : List Value) : Heap :=
  (h.push (PySem.W.kdv_tup us)).push (PySem.HandSPX.excO C h.objs.size)
theorem hp2_keep {h : Heap} {us : List Value} (b : Addr) (o : Obj) (z : h.get? b = some o) :
    (hp2 h C us).get? b = some o := Heap.get?_push_of_some _ (Heap.get?_push_of_some _ z)
theorem hp2_at {h : Heap} {us : List Value} :
    (hp2 h C us).get? (h.objs.size + 1) = some (PySem.HandSPX.excO C h.objs.size) := by heap_get
theorem inv2 {pins : List (Addr × Obj)} {σ : L2.St} {H : Hp} {h : Heap} {gs : Array GenState} {dr : Drawn} {tk : Nat} {os : OsState} {us : List Value}
    (I : Inv X pins σ H ⟨h, gs, dr, tk, os⟩) :
    Inv X pins σ (upd H (h.objs.size + 1) (exo (h.objs.size + 1) C none)) ⟨hp2 h C us, gs, dr, tk, os⟩ :=
  I.laid (t' := tk) (a := h.objs.size + 1) (o := exo (h.objs.size + 1) C none) (h' := hp2 h C us)
    hp2_keep (Nat.le_succ _) (exo_ok hp2_at)
theorem pmkN (T : OexC X.K C)
    (iC : PySem.W.findIn X.K (.ref C) "__init__" = some (some (.ref g)))
    (tI : PySem.W.typeIn X.K (.ref g) = some (.type "function"))
    (F : FnOk X.prog X.w X.K X.mg X.base CX0 k g fd ps sp) (hr : Room (k + 1) X.A) (hb : Binds X.K fd ps [])
    (hg : Gl X x) (hm : X.mg x = some (.ref C)) (ha : PA X [e] ta)
    (hdb : (x == ("__debug__" : Str)) = false := by decide)
    (he : starEach [e] X.env = (false, eval e X.env) :: starEach [] X.env := by rfl)
    (hpl : (backTo pos (starEach [] X.env)).any (·.1) = false := by rfl) :
    L2N.PMk X (.Call (.Name x p) [e] [] pos) (tMkO C sp [] ta) := by
  intro pins s σ H Q I h
  obtain ⟨_, _, _, _, vm, _, _, _, _, _, _, _, _, _, _, atC, inM⟩ := T.cls
  refine wpAny_Call_Name_kw (ld_glob I hg hm ?_ hdb)
  refine PySem.W.callWith_K (h₀ := X.base) I.ok.mod.kin T.kC ?_ he hpl
  refine thn (ha.run pos pins s σ H _ I h) fun us s1 hh => ?_
  obtain ⟨vs, H1, J, r, few, q⟩ := hh
  refine ⟨J.kIn, ?_⟩
  obtain ⟨hp, gs, dr, tk, os⟩ := s1
  have q := q (hp.objs.size + 1) (J.hok.fresh (Nat.le_succ _))
  rw [List.append_nil] at q
  have J2 := inv2 (C := C) (us := us) J
  have r2 : Vals (V.ref (hp.objs.size + 1) :: vs) (Value.ref (hp.objs.size + 1) :: us) := .cons rfl r
  have len2 : (Value.ref (hp.objs.size + 1) :: us ++ []).length = ps.length := by
    rw [List.append_nil, ← r2.length]
    exact F.len _ _ _ _ q
  have b2 := hb _ (Value.ref (hp.objs.size + 1) :: us) J2.kIn len2
  rw [List.append_nil] at b2
  have few2 : us.length ≤ sizeLine := by
    have := Paired.length r
    rw [sizeLine_eq]
    omega
  have run := F.run _ X.stack _ _ _ _ _ _ _ (hr.make C us []) (J2.env0.make C us []) b2 r2 q
  refine wpAny_call (PySem.HandSPX.call_own PySem.F.excBase_ValueError (fun Y => PySem.HandSPX.refsVE_contains Y vm inM)
    (J.kIn _ _ atC) (PySem.W.looks_findIn J.kIn iC) (fun self => PySem.W.bind_fn J.kIn self tI) few2
    (codeAny_mono run fun res s' z => ?_))
  match res, z with
  | .error er, z => exact z.elim
  | .ok (.ret u), z =>
    obtain ⟨v, H2, eo, bare, un, ok2, rv, ev, d, fs, ea, ed, nd, q2⟩ := z
    subst ev
    obtain ⟨h2, g2, d2, t2, os'⟩ := s'
    obtain ⟨t0, G, J3, kG, ge, hoe, na⟩ := mk_end0 (d2 := d2) (t2 := t2) J (Nat.le_succ _) hp2_keep un ok2 eo bare ea ed nd
    refine ⟨rv, hp.objs.size + 1, _, _, ⟨G, g2, d2, t2, os'⟩, _, .ref C, some d, rfl, J3, kG, ge, hoe, ⟨rfl, rfl, fun ws ew => ?_⟩, rfl, rfl, na, rfl, bare, raises_own T.exC T.tyC, q2⟩
    cases ew
    rfl
end
section
variable {X : Cx} {x field : Str} {C : Addr} {j : Nat} {e : Expr} {ta : TA} {p pos pos2 : Pos} {W : WX}
theorem pmk_exn (c : Exn X.prog X.w X.K X.mg X.base x C field) (hr : Room j X.A) (hk : 2 ≤ j) (hg : Gl X x) (ha : PA X [e] ta) (hdb : (x == ("__debug__" : Str)) = false := by decide) (he : starEach [e] X.env = (false, eval e X.env) :: starEach [] X.env := by rfl) (hpl : (backTo pos (starEach [] X.env)).any (·.1) = false := by rfl) :
    L2N.PMk X (.Call (.Name x p) [e] [] pos) (tMkO C (spEx C field) [] ta) := by
  obtain ⟨fI, fd, ps, iC, tI, F1, b⟩ := c.ini
  exact pmkN (X := X) (pos := pos) (p := p) c.oex iC tI F1 (hr.mono hk) b hg c.gl ha hdb he hpl
/-- raise X(e) -/
theorem ps_exn (hc : X.calm = true) (tk : L2N.Takes X W) (c : Exn X.prog X.w X.K X.mg X.base x C field) (hr : Room j X.A) (hk : 2 ≤ j) (hg : Gl X x) (ha : PA X [e] ta) (hdb : (x == ("__debug__" : Str)) = false := by decide) (he : starEach [e] X.env = (false, eval e X.env) :: starEach [] X.env := by rfl) (hpl : (backTo pos (starEach [] X.env)).any (·.1) = false := by rfl) :
    PS X (.Raise (some (.Call (.Name x p) [e] [] pos)) none pos2) (fun _ σ H => tMkO C (spEx C field) [] ta σ H fun cls d H' => W cls d σ H') := L2N.ps_raise hc tk (pmk_exn c hr hk hg ha hdb he hpl)
end
/-- what is left to show of X(v) -/
theorem mkx_of {C : Addr} {field : Str} {v : V} {H1 : Hp} {Q : XK} (q : ∀ d, H1 d = none → Q (.ref C) (some d) (upd H1 d (.xd [(field, v)]))) :
    [v].length ≤ 1000 ∧ ∀ a, H1 a = none → spEx C field (.ref a :: ([v] ++ [])) (upd H1 a (exo a C none)) (fun v H2 => v = .non ∧ ∃ (d : Addr) (fs : List (Str × V)), H2 a = some (exo a C (some d)) ∧ H2 d = some (exd d fs) ∧ H1 d = none ∧ Q (.ref C) (some d) (upd (del H2 a) d (.xd fs))) (fun _ _ _ => False) := by
  refine ⟨by simp, fun a na => ⟨a, v, rfl, upd_same, fun dx n1 n2 => ⟨rfl, dx, [(field, v)], upd_same, ?_, ?_, ?_⟩⟩⟩
  · rw [upd_ne n2, upd_same]
  · rw [← n1, upd_ne n2]
  · have n3 : H1 dx = none := by rw [← n1, upd_ne n2]
    have e1 : upd (del (upd (upd (upd H1 a (exo a C none)) dx (exd dx [(field, v)])) a (exo a C (some dx))) a) dx (.xd [(field, v)]) = upd H1 dx (.xd [(field, v)]) := by
      funext b
      by_cases hb : b = dx
      · rw [hb, upd_same, upd_same]
      · rw [upd_ne hb, upd_ne hb]
        by_cases ha2 : b = a
        · rw [ha2, del_same, na]
        · rw [del_ne ha2, upd_ne ha2, upd_ne hb, upd_ne ha2]
    rw [e1]
    exact q dx n3
/-! ### calls that may raise -/
structure CalX (P : Program) (w : World) (K : PySem.W.Frag) (mg : Str → Option Value) (base : Heap) (k : Nat) (x : Str) (sp : Sp) : Prop where
  ex : ∃ (f : Addr) (fd : FuncData) (ps : List Str), FnOk P w K mg base (L2N.CX P w) k f fd ps sp ∧ mg x = some (.ref f) ∧ PySem.W.keepIn K (.ref f) = true ∧ Binds K fd ps []
structure MakX (P : Program) (w : World) (K : PySem.W.Frag) (mg : Str → Option Value) (base : Heap) (k : Nat) (x : Str) (C : Addr) (sp : Sp) : Prop where
  ex : ∃ (f : Addr) (fd : FuncData) (ps : List Str), Mk K C f ∧ FnOk P w K mg base (L2N.CX P w) k f fd ps sp ∧ mg x = some (.ref C) ∧ Binds K fd ps []
structure MetX (P : Program) (w : World) (K : PySem.W.Frag) (mg : Str → Option Value) (base : Heap) (k : Nat) (C : Addr) (m : Str) (sp : Sp) : Prop where
  ex : ∃ (f : Addr) (fd : FuncData) (ps : List Str), Cls K C ∧ Meth K C m f ∧ FnOk P w K mg base (L2N.CX P w) k f fd ps sp ∧ Binds K fd ps []
structure CobX (P : Program) (w : World) (K : PySem.W.Frag) (mg : Str → Option Value) (base : Heap) (k : Nat) (C : Addr) (sp : Sp) : Prop where
  ex : ∃ (g : Addr) (fd : FuncData) (ps : List Str), StX.CallO K C g ∧ FnOk P w K mg base (L2N.CX P w) k g fd ps sp ∧ Binds K fd ps []
/-- C(e, ..) by its __init__'s promise; what is raised at the slots -/
def tMkW (C : Addr) (sp : Sp) (E : L2.St → XK) (t : TA) : TE := fun σ H Q => t σ H fun vs H1 => ∀ n dx, H1 n = none → H1 dx = none → dx ≠ n → sp (.ref n :: vs) (upd (upd H1 dx (.own n)) n (.ins C dx [])) (fun v H2 => v = .non ∧ Q (.ref n) H2) (E σ)
def tCoW (C : Addr) (sp : Sp) (E : L2.St → XK) (tf : TE) (t : TA) : TE := fun σ H Q => tf σ H fun y H1 => ∃ a, y = V.ref a ∧ t σ H1 fun vs H2 => (∃ dx fs, H2 a = some (.ins C dx fs)) ∧ sp (V.ref a :: vs) H2 Q (E σ)
def tMeW (C : Addr) (m : Str) (sp : Sp) (E : L2.St → XK) (ta : TE) (t : TA) : TE := fun σ H Q => ta σ H fun x H1 => ∃ a dx fs, x = V.ref a ∧ H1 a = some (.ins C dx fs) ∧ List.lookup m fs = none ∧ t σ H1 fun vs H2 => sp (x :: vs) H2 Q (E σ)
section
variable {X : Cx} {k j : Nat} {x m : Str} {sp : Sp} {C : Addr} {p pos apos : Pos} {e o fe : Expr} {es : List Expr} {t : TA} {ta tf : TE} {W : WX} {E : L2.St → XK}
theorem passS0 {σ : L2.St} : PassesAt (L2N.CX X.prog X.w) X σ E0 := fun _ _ _ _ _ _ h => by
  obtain ⟨_, _, _, _, _, _, _, _, _, _, _, _, z⟩ := h
  exact z.elim
/-- any result of a promise, at the slots -/
theorem back_at {σ : L2.St} {H : Hp} {s : Shared} {pins : List (Addr × Obj)} {Q : VK} {E : XK} {CX : CXT} (hx : PassesAt CX X σ E) (I : Inv X pins σ H s) : ∀ (r : Result) (s' : Shared), CR CX X.stack X.prog X.w H s Q E r s' → match r with
    | .ok (.ret v) => EP X pins σ Q v s'
    | .ok _ => False
    | .error e => X.xe e s'
  | .error e, s', h => hx pins H s e s' I h
  | .ok (.ret u), s', h => I.after h
  | .ok .next, s', h => h
  | .ok .brk, s', h => h
  | .ok .cont, s', h => h
theorem pe_clE (c : CalX X.prog X.w X.K X.mg X.base k x sp) (hx : ∀ σ, PassesAt (L2N.CX X.prog X.w) X σ (E σ)) (hr : Room j X.A) (hk : k ≤ j) (hg : Gl X x) (ha : PA X (e :: es) t) (hdb : (x == ("__debug__" : Str)) = false := by decide) (he : starEach (e :: es) X.env = (false, eval e X.env) :: starEach es X.env := by rfl) (hpl : (backTo pos (starEach es X.env)).any (·.1) = false := by rfl) :
    PE X (.Call (.Name x p) (e :: es) [] pos) (tCallS sp E t) := by
  obtain ⟨f, fd, ps, F, hm, kp, b⟩ := c.ex
  exact pe_callS F (hr.mono hk) hg hm kp b hx ha hdb he hpl
theorem pe_mkE (c : MakX X.prog X.w X.K X.mg X.base k x C sp) (hx : ∀ σ, PassesAt (L2N.CX X.prog X.w) X σ (E σ)) (hr : Room j X.A) (hk : k + 1 ≤ j) (hg : Gl X x) (ha : PA X (e :: es) t) (hdb : (x == ("__debug__" : Str)) = false := by decide) (he : starEach (e :: es) X.env = (false, eval e X.env) :: starEach es X.env := by rfl) (hpl : (backTo pos (starEach es X.env)).any (·.1) = false := by rfl) :
    PE X (.Call (.Name x p) (e :: es) [] pos) (tMkW C sp E t) := by
  obtain ⟨f, fd, ps, M, F, hm, b⟩ := c.ex
  constructor
  intro pins s σ H Q I h
  refine wpAny_Call_Name_kw (ld_glob I hg hm ?_ hdb)
  refine PySem.W.callWith_K (h₀ := X.base) I.ok.mod.kin M.kp (thn (ha.run pos pins s σ H _ I h) fun us s1 z => ?_) he hpl
  obtain ⟨vs, H1, I1, rr, q⟩ := z
  refine ⟨I1.kIn, ?_⟩
  obtain ⟨n, hn⟩ : ∃ n, n = s1.heap.objs.size := ⟨_, rfl⟩
  have q1 := q (n + 1) n (I1.hok.fresh (by rw [hn]; exact Nat.le_succ _)) (I1.hok.fresh (by rw [hn]; exact Nat.le_refl _)) (Nat.ne_of_lt (Nat.lt_succ_self _))
  subst hn
  have J := Inv.made (C := C) I1
  have r3 : Vals (V.ref (s1.heap.objs.size + 1) :: vs) (Value.ref (s1.heap.objs.size + 1) :: us) := .cons rfl rr
  have b3 := b { s1 with heap := (s1.heap.push PySem.W.emptyDict).push (PySem.W.instObj C s1.heap.objs.size) } (Value.ref (s1.heap.objs.size + 1) :: us) J.kIn (by rw [List.append_nil, ← r3.length]; exact F.len _ _ _ _ q1)
  rw [List.append_nil] at b3
  have run := F.run _ X.stack _ _ _ _ _ _ _ ((hr.mono hk).make C us []) (J.env0.make C us []) b3 r3 q1
  refine wpAny_call (make_map (f := f) I1.kIn M.makes M.init (beq_iff_eq.mp M.fn) (codeAny_mono run fun r s' hq => ?_))
  have z := back_at (hx σ) J r s' hq
  match r, z with
  | .error e, z => exact z
  | .ok (.ret u), ⟨v, H', J', rv, ev, q3⟩ =>
    subst ev
    exact ⟨rv, V.ref (s1.heap.objs.size + 1), H', J', rfl, q3⟩
theorem run_atE {f : Addr} {fd : FuncData} {ps : List Str} {σ : L2.St} {H : Hp} {s : Shared} {pins : List (Addr × Obj)} {Q : VK} {us : List Value} {vs : List V} (F : FnOk X.prog X.w X.K X.mg X.base (L2N.CX X.prog X.w) k f fd ps sp) (b : Binds X.K fd ps []) (hx : PassesAt (L2N.CX X.prog X.w) X σ (E σ)) (hr : Room k X.A) (I : Inv X pins σ H s) (r : Vals vs us) (h : sp vs H Q (E σ)) :
    codeAny (model X.prog X.w) X.A (.call (.ref f) ⟨us, []⟩) (fun r s' => match r with | .ok (.ret v) => EP X pins σ Q v s' | .ok _ => False | .error e => X.xe e s') s := by
  have b3 := b s us I.kIn (by rw [List.append_nil, ← r.length]; exact F.len _ _ _ _ h)
  rw [List.append_nil] at b3
  exact codeAny_mono (F.run _ X.stack _ _ _ _ _ _ _ hr I.env0 b3 r h) (back_at hx I)
theorem pe_coE (c : CobX X.prog X.w X.K X.mg X.base k C sp) (hf : PE X fe tf) (hx : ∀ σ, PassesAt (L2N.CX X.prog X.w) X σ (E σ)) (hr : Room j X.A) (hk : k ≤ j) (ha : PA X (e :: es) t)
    (ht : eval (.Call fe (e :: es) [] pos) X.env = (do callWith pos (← eval fe X.env) [] (backTo pos (starEach (e :: es) X.env)) (backToKw pos (keywordEach [] X.env))) := by rfl)
    (he : starEach (e :: es) X.env = (false, eval e X.env) :: starEach es X.env := by rfl) (hpl : (backTo pos (starEach es X.env)).any (·.1) = false := by rfl) : PE X (.Call fe (e :: es) [] pos) (tCoW C sp E tf t) := by
  obtain ⟨g, fd, ps, co, F, b⟩ := c.ex
  constructor
  intro pins s σ H Q I h
  refine Call_ (thn (hf.run pins s σ H _ I h) fun u s1 ⟨y, H1, I1, ry, a, ey, q⟩ => ?_) ht
  subst ey
  obtain rfl : u = Value.ref a := ry
  refine StX.callO_with (thn (ha.run pos pins s1 σ H1 _ I1 q) fun us s2 z => ?_) he hpl
  obtain ⟨vs, H2, I2, r, hi, q2⟩ := z
  have hi2 : StX.InsC X H2 a C := .inr hi
  obtain ⟨ox, od, J, hd⟩ := StX.insC_at I2 hi2
  exact ⟨⟨C, ox, od, J, hd⟩, wpAny_call (PySem.W.kco_code I2.kIn J hd co.at_ co.fn co.fi (run_atE (vs := .ref a :: vs) (us := .ref a :: us) F b (hx σ) (hr.mono hk) I2 (.cons rfl r) q2))⟩
theorem pe_meE {pl : Sem Bool} (c : MetX X.prog X.w X.K X.mg X.base k C m sp) (ho : PE X o ta) (hx : ∀ σ, PassesAt (L2N.CX X.prog X.w) X σ (E σ)) (hr : Room j X.A) (hk : k ≤ j) (ha : PA X (e :: es) t)
    (hst : starEach (e :: es) X.env = (false, eval e X.env) :: starEach es X.env := by rfl) (hpl : (backTo pos (starEach es X.env)).any (·.1) = false := by rfl)
    (ht : eval (.Call (.Attribute o m apos) (e :: es) [] pos) X.env = (do
      let ov ← eval o X.env
      standAt apos.atName
      let (g, first) ← holding [ov] (getMethod ov m pl)
      callWith pos g first (backTo pos (starEach (e :: es) X.env)) (backToKw pos (keywordEach [] X.env))) := by rfl) : PE X (.Call (.Attribute o m apos) (e :: es) [] pos) (tMeW C m sp E ta t) := by
  obtain ⟨f, fd, ps, cl, me, F, b⟩ := c.ex
  constructor
  intro pins s σ H Q I h
  refine PySem.W.methodCall_KW (pl := pl) (thn (ho.run pins s σ H _ I h) fun u s1 z => ?_) ht
  obtain ⟨y, H1, I1, ry, a, dx, fs, ey, ea, l, q⟩ := z
  subst ey
  obtain rfl : u = Value.ref a := ry
  refine getmeth_ok I1 ea cl me l ?_
  refine PySem.W.callWith_K (first := [.ref a]) (h₀ := X.base) I.ok.mod.kin me.kp (thn (ha.run pos pins s1 σ H1 _ I1 q) fun us s2 z => ?_) hst hpl
  obtain ⟨vs, H2, I2, r, q2⟩ := z
  exact ⟨I2.kIn, wpAny_call (run_atE (vs := .ref a :: vs) (us := .ref a :: us) F b (hx σ) (hr.mono hk) I2 (.cons rfl r) q2)⟩
theorem takes_fn {P : Program} {w : World} {K : PySem.W.Frag} {mg : Str → Option Value} {base : Heap} {N : List Str} {qual : Str} {scope : Scope} {f : Addr} {cd : Value} {A : Around} {outer : List Env} {s : Shared} {H : Hp} {E : XK} : L2N.Takes (cxOf (L2N.CX P w) P w K mg base N qual scope f cd A outer s H E) (fun cls d _ H' => E cls d H') := L2N.takes_of rfl rfl rfl rfl
end
end Z
set_option Elab.async false
set_option linter.all false
set_option maxRecDepth 100000
set_option maxHeartbeats 4000000
namespace Z
open PySem PySem.Spec PyProof.Rows L2 L2H
/-! ### calls within an except suite -/
section
variable {P : Program} {w : World} {K : PySem.W.Frag} {mg : Str → Option Value} {base : Heap} {x qual : Str} {params : Arguments} {body : List Stmt} {scope : Scope} {dvs : List V} {kws : List (Str × V)} {f : Addr} {fd : FuncData}
theorem fund_okH {N ps : List Str} {k : Nat} {sp : Sp} (F : FunD K x qual params body scope dvs kws f fd) (S : FnScope N ps scope) (len : ∀ vs H Q E, sp vs H Q E → vs.length = ps.length)
    (hbody : ∀ (cdv : Value) (A : Around) (outer : List Env) (s : Shared) (H : Hp) (vs : List V) (Q : VK) (E : XK) (p : Addr × Obj), Hot1 A p → RoomH k (A.deeper (envOfC qual scope s.heap.objs.size f cdv)) → sp vs H Q E →
      ∃ t, PSs (cxH CX0 P w K mg base N qual scope f cdv A outer s H E p) body t ∧ t { nx := fun _ H' => Q .non H', rt := Q } (L2.start N vs) H) : FnH P w K mg base CX0 (k + 1) f fd ps sp := by
  obtain ⟨oc, od, dV, kV, doc, pm, an, cdv, ct, osl, rfl, lk, hcd, _, _⟩ := F.ex
  exact fn_ofH lk hcd S len (hbody cdv)
structure CalH (P : Program) (w : World) (K : PySem.W.Frag) (mg : Str → Option Value) (base : Heap) (k : Nat) (x : Str) (sp : Sp) : Prop where
  ex : ∃ (f : Addr) (fd : FuncData) (ps : List Str), FnH P w K mg base CX0 k f fd ps sp ∧ mg x = some (.ref f) ∧ PySem.W.keepIn K (.ref f) = true ∧ Binds K fd ps []
end
section
variable {X : Cx} {k j : Nat} {x : Str} {sp : Sp} {p pos : Pos} {e : Expr} {es : List Expr} {t : TA}
theorem pe_clH (c : CalH X.prog X.w X.K X.mg X.base k x sp) (hr : RoomH j X.A) (hk : k ≤ j) (hc : HotC X) (hg : Gl X x) (ha : PA X (e :: es) t) (hdb : (x == ("__debug__" : Str)) = false := by decide) (he : starEach (e :: es) X.env = (false, eval e X.env) :: starEach es X.env := by rfl) (hpl : (backTo pos (starEach es X.env)).any (·.1) = false := by rfl) :
    PE X (.Call (.Name x p) (e :: es) [] pos) (tCallS sp (fun _ => E0) t) := by
  obtain ⟨f, fd, ps, F, hm, kp, b⟩ := c.ex
  exact pe_callH F (hr.mono hk) hc hg hm kp b (fun σ _ _ _ _ _ _ h => h.elim) ha hdb he hpl
theorem hotC_suite {a : Addr} {cls : Value} {d : Option Addr} {oe : Obj} {pn : List (Addr × Obj)} (hz : L2N.Zn cls d oe) (hf : ∃ vs, oe.data = .fields vs) : HotC (X.suite a ((a, oe) :: pn)) := by
  obtain ⟨vs, e⟩ := hf
  exact ⟨(a, oe), ⟨rfl, vs, e, hz.2.2 vs e⟩, List.mem_cons_self⟩
theorem room_mark {v : Option Value} {A : Around} (r : Room j A) : RoomH j (A.mark v) := roomH_mark r v
theorem takes0N : L2N.Takes X (fun _ _ _ _ => False) := fun _ _ x => by
  obtain ⟨_, _, _, _, _, _, _, _, _, _, _, _, _, _, _, _, z⟩ := x
  exact z.elim
end
theorem hotC_fn {P : Program} {w : World} {K : PySem.W.Frag} {mg : Str → Option Value} {base : Heap} {CX : CXT} {N : List Str} {qual : Str} {scope : Scope} {f : Addr} {cd : Value} {A : Around} {outer : List Env} {s : Shared} {H : Hp} {E : XK} {p : Addr × Obj} (h : Hot1 A p) : HotC (cxH CX P w K mg base N qual scope f cd A outer s H E p) :=
  ⟨p, ⟨h.1, h.2⟩, List.mem_cons_self⟩
end Z
set_option Elab.async false
set_option linter.all false
set_option maxRecDepth 100000
set_option maxHeartbeats 4000000
namespace Z
open PySem PySem.Spec PyProof.Rows L2 NdefX
/-! ### what the head tells of such a class -/
def oexB (K : PySem.W.Frag) (C : Addr) : Bool := (match K.lookup C with
  | some ⟨.type t, _, .cls cd, sl⟩ => (match cd.mro, sl.toList with
    | .ref D :: bm, [_, _, _, _, some (.builtin n), _] => decide (t = "type") && (decide (D = C) && (decide (n = "ValueError.__new__") && (!cd.hasDel && (cd.hasDict && PySem.HandSPX.refsVE bm))))
    | _, _ => false)
  | _ => false) && (He.eqO (PySem.W.findIn K (.ref C) "__setattr__") (some (some (.builtin "object.__setattr__"))) && (decide (PySem.W.subIn K (.ref C) (.type "BaseException") = some true) && (decide (PySem.W.typeIn K (.ref C) = some (.type "type")) && PySem.W.keepIn K (.ref C))))
theorem oexB_ok {K : PySem.W.Frag} {C : Addr} (h : oexB K C = true) : OexC K C := by
  obtain ⟨h0, h⟩ := He.ba h
  obtain ⟨h1, h⟩ := He.ba h
  obtain ⟨h2, h⟩ := He.ba h
  obtain ⟨h3, h4⟩ := He.ba h
  refine ⟨?_, He.eqO_ok h1, of_decide_eq_true h2, of_decide_eq_true h3, h4⟩
  split at h0
  · next t dd cd sl lk =>
    split at h0
    · next D bm a0 a1 a2 a3 n a5 em es =>
      obtain ⟨g1, h0⟩ := He.ba h0
      obtain ⟨g2, h0⟩ := He.ba h0
      obtain ⟨g3, h0⟩ := He.ba h0
      obtain ⟨g4, h0⟩ := He.ba h0
      obtain ⟨g5, g6⟩ := He.ba h0
      have g1 := of_decide_eq_true g1
      have g2 := of_decide_eq_true g2
      have g3 := of_decide_eq_true g3
      subst g1 g2 g3
      obtain ⟨c1, c2, c3, c4, c5, c6, c7, c8, c9, c10, c11⟩ := cd
      have k3 : c3 = .ref D :: bm := em
      have k4 : c11 = false := by
        have z : (!c11) = true := g4
        cases c11
        · rfl
        · cases z
      have k5 : c6 = true := g5
      clear em g4 g5
      subst k3 k4 k5
      refine ⟨c1, c5, c4, c2, bm, c7, c8, c9, c10, dd, a0, a1, a2, a3, a5, ?_, g6⟩
      rw [lk]
      have : sl = #[a0, a1, a2, a3, some (.builtin "ValueError.__new__"), a5] := by
        apply Array.toList_inj.mp
        rw [es]
      rw [this]
    · cases h0
  · cases h0
def initFd (K : PySem.W.Frag) (C : Addr) : Option FuncData := match K.lookup (He.ma K C "__init__") with
  | some ⟨_, _, .func fd, _⟩ => some fd
  | _ => none
abbrev SupV : Type := Option (Str × Str × Arguments × FuncBody × Scope × Addr × List Str × Value × Addr)
def supObs (K : PySem.W.Frag) (x : Str) : SupV := (initFd K (He.ga K x)).map fun fd => (fd.name, fd.qualname, fd.params, fd.body, fd.scope, fd.globals, fd.closure.map (·.1), fd.defaults, fd.builtins)
def supVal (q : Str) (st : Stmt) : SupV := some ("__init__", q, defArgs st, .stmts (defBody st), defScope st, mainGlobals, ["__class__"], .none, builtinsNs)
def supB (fl : Str) (K : PySem.W.Frag) (C : Addr) (q : Str) : Bool := (match initFd K C with
  | some fd => (match fd.code, fd.closure with
    | .ref c, [(_, cc)] => PySem.W.codeIn K (.ref c) q && ((match K.lookup c with
      | some ⟨_, _, .fields vs, _⟩ => (match (vs[2]? : Option Value) with
        | some (.str file _) => fl == file
        | _ => false)
      | _ => false) && (match K.lookup cc with
      | some ⟨_, _, .cell (some (.ref D)), _⟩ => decide (D = C)
      | _ => false))
    | _, _ => false)
  | none => false) && (decide (PySem.W.mroIn K C (.ref C) = some true) && (He.eqO (PySem.W.nsIn K cStatics "thirdparty.any") (some none) && (He.eqO (PySem.W.ks_superIn K C C "__init__") (some (some (.builtin "ValueError.__init__"))) && (decide (PySem.W.subIn K (.ref C) (.type "ValueError") = some true) && (PySem.W.excInitIn K C He.veBase "ValueError.__new__" && oexB K C)))))
theorem sup_of {P : Program} {K : PySem.W.Frag} {x q fl : Str} {st : Stmt} (h1 : supObs K x = supVal q st) (h2 : supB fl K (He.ga K x) q = true) (hfl : ((P.main.file : Str) == fl) = true) (htop : (P.main.scope.names.lookup ("super" : Str)).isSome = false) :
    ∃ (c cc : Addr) (fd : FuncData) (kV doc pm ct : Value) (an : Option Addr), fd = PySem.W.fnX "__init__" q (defArgs st) (defBody st) (defScope st) [(("__class__" : Str), cc)] .none kV doc pm an (.ref c) ct ∧ SupK P K (He.ga K x) (He.ma K (He.ga K x) "__init__") c cc fd ∧ PySem.W.codeIn K (.ref c) q = true := by
  obtain ⟨g0, h2⟩ := He.ba h2
  obtain ⟨g1, h2⟩ := He.ba h2
  obtain ⟨g2, h2⟩ := He.ba h2
  obtain ⟨g3, h2⟩ := He.ba h2
  obtain ⟨g4, h2⟩ := He.ba h2
  obtain ⟨g5, g6⟩ := He.ba h2
  unfold supObs at h1
  cases e : initFd K (He.ga K x) with
  | none =>
    rw [e] at h1
    cases h1
  | some fd =>
    rw [e] at h1 g0
    have lk : ∃ oc od osl, K.lookup (He.ma K (He.ga K x) "__init__") = some ⟨oc, od, .func fd, osl⟩ := by
      unfold initFd at e
      split at e
      · next oc od fd' osl l =>
        cases e
        exact ⟨_, _, _, l⟩
      · cases e
    obtain ⟨n1, n2, n3, n4, n5, n6, n7, n8, n9, n10, n11, n12, n13, n14, n15⟩ := fd
    have h1 : (some (n1, n2, n3, n4, n5, n6, n7.map (·.1), n8, n15) : SupV) = supVal q st := h1
    unfold supVal at h1
    simp only [Option.some.injEq, Prod.mk.injEq] at h1
    obtain ⟨a1, a2, a3, a4, a5, a6, a7, a8, a9⟩ := h1
    subst a1 a2 a3 a4 a5 a6 a8 a9
    dsimp only at g0
    split at g0
    · next c y cc =>
      obtain ⟨b1, g0⟩ := He.ba g0
      obtain ⟨b2, b3⟩ := He.ba g0
      have ey : y = "__class__" := by
        have := a7
        simpa using this
      subst ey
      refine ⟨c, cc, _, _, _, _, _, _, rfl, ⟨lk, ?_, ?_, htop, of_decide_eq_true g1, He.eqO_ok g2, He.eqO_ok g3, of_decide_eq_true g4, g5, oexB_ok g6⟩, b1⟩
      · split at b2
        · next u1 u2 vs u3 l =>
          split at b2
          · next file tf ev =>
            refine ⟨_, _, vs, _, file, tf, l, ev, ?_⟩
            rw [beq_iff_eq.mp b2] at hfl
            exact hfl
          · cases b2
        · cases b2
      · split at b3
        · next u1 u2 D u3 l =>
          have := of_decide_eq_true b3
          subst this
          exact ⟨_, _, _, l⟩
        · cases b3
    · cases g0
end Z
set_option Elab.async false
set_option linter.all false
set_option maxRecDepth 100000
set_option maxHeartbeats 4000000
namespace Z
open PySem PySem.Spec PyProof.Rows L2 NdefX
/-! ### isinstance(e, c), e a caught error with a dict of its own -/
def rIsX (K : PySem.W.Frag) (a : Addr) (cls : Value) (d : Option Addr) : List V → Hp → VK → Prop := fun xs H Q => ∃ (D dd : Addr) (fs : List (Str × V)) (c : V) (cv : Value) (b : Bool), cls = .ref D ∧ d = some dd ∧ ExcC K D ∧ H dd = some (.xd fs) ∧ xs = [.ref a, c] ∧ (∀ u, RelV c u → u = cv) ∧ PySem.W.kitOne K (.ref D) cv = some b ∧ Q (.bl b) H
theorem call_isX {X : Cx} {a : Addr} {cls : Value} {d : Option Addr} {oe : Obj} {pn : List (Addr × Obj)} (hz : Zc cls d oe) (hf : ∃ vs, oe.data = .fields vs) : CallR (X.suite a ((a, oe) :: pn)) (.builtin "isinstance") (rIsX X.K a cls d) := by
  intro pins s σ H xs us Q I r h
  obtain ⟨D, dd, fs, c, cv, b, rfl, rfl, C, ed, rfl, hcv, e, q⟩ := h
  obtain ⟨u1, u2, rfl, r1, r2⟩ := vals2 r
  cases r1
  have ec := hcv _ r2
  subst ec
  obtain ⟨hget, _⟩ := I.pin (a, oe) (List.mem_append.mpr (.inl List.mem_cons_self))
  obtain ⟨vs, hv⟩ := hf
  have hx : ObjOk X.prog X.w H s.heap dd (.xd fs) := I.hok dd _ ed
  obtain ⟨mA, hns, hr⟩ := hx
  obtain ⟨od, ho, hl⟩ := lookIn_ns hns
  have J : PySem.W.InstAt s.heap a oe D (some od) := ⟨hget, hz.1, by unfold PySem.W.notCls; rw [hv] <;> rfl, by rw [hz.2]; exact ho⟩
  have hcl : (PySem.W.clsIn X.K D).isSome = true := by
    obtain ⟨cd, hc, _⟩ := PySem.W.any_some C.hd
    rw [hc]
    rfl
  exact PySem.W.kia_one (PySem.W.kitx_exc hcl C.hg C.hk C.hs C.ha C.hn C.ht C.hm) I.kIn J e (fun z => nomatch z) fun tk => ⟨.bl b, H, I.kept (t' := tk) fun _ _ z => z, rfl, q⟩
end Z
set_option Elab.async false
set_option linter.all false
set_option maxRecDepth 100000
set_option maxHeartbeats 4000000
namespace Z
open PySem PySem.Spec PyProof.Rows L2 NdefX
/-! ### the head with own exceptions: facts of defs and classes, one more Bool, the __init__s -/
def asX (g : Addr → Option Obj) (n : Nat) : List Addr := He.asD g n ++ [cStatics]
def hookX (n : Nat) (fa : List He.Fa) (fn : List He.DefD) (xs : List Str) (vs : List SupV) (ex : PySem.W.Frag → Bool) : PySem.W.Hook where
  α := He.AlD × (List SupV × Bool)
  obs := fun s => (He.obsD fa fn (He.frG s.heap.get? (asX s.heap.get? n)), xs.map (supObs (He.frG s.heap.get? (asX s.heap.get? n))), ex (He.frG s.heap.get? (asX s.heap.get? n)))
  val := fun _ => (He.valD fn, vs, true)
  says := fun _ h => ∃ K : PySem.W.Frag, K.In h ∧ He.SaysD fa fn K ∧ xs.map (supObs K) = vs ∧ ex K = true
  of := fun _ _ e => ⟨_, He.frG_in, congrArg (fun z : He.AlD × (List SupV × Bool) => z.1) e, congrArg (fun z : He.AlD × (List SupV × Bool) => z.2.1) e, congrArg (fun z : He.AlD × (List SupV × Bool) => z.2.2) e⟩
  keeps := fun _ _ _ ⟨K, hK, c⟩ k => ⟨K, PySem.W.Frag.In.keeps hK k, c⟩
def obX (n : Nat) (fa : List He.Fa) (fn : List He.DefD) (xs : List Str) (ex : PySem.W.Frag → Bool) (g : Addr → Option Obj) : He.AlD × (List SupV × Bool) := (He.obsD fa fn (He.frG g (asX g n)), xs.map (supObs (He.frG g (asX g n))), ex (He.frG g (asX g n)))
theorem obX_eq {n : Nat} {fa : List He.Fa} {fn : List He.DefD} {xs : List Str} {vs : List SupV} {ex : PySem.W.Frag → Bool} {g : Addr → Option Obj} {s : Shared} (h : ∀ a, g a = s.heap.get? a) : obX n fa fn xs ex g = (hookX n fa fn xs vs ex).obs s := by
  have e : g = s.heap.get? := funext h
  rw [e] <;> rfl
theorem sup_at {xs : List Str} {vs : List SupV} {K : PySem.W.Frag} (e : xs.map (supObs K) = vs) (i : Nat) {x : Str} {v : SupV} (h1 : xs[i]? = some x := by rfl) (h2 : vs[i]? = some v := by rfl) : supObs K x = v := by
  have := congrArg (fun z : List SupV => z[i]?) e
  simp only [List.getElem?_map, h1, h2] at this
  exact Option.some.inj this
def excB (K : PySem.W.Frag) (D : Addr) : Bool := He.eqO (PySem.W.findIn K (.ref D) "__getattribute__") (some (some (.builtin "BaseException.__getattribute__"))) && (He.eqO (PySem.W.findIn K (.ref D) "__getattr__") (some none) && (decide (PySem.W.subIn K (.ref D) (.type "BaseException") = some true) && (PySem.W.hasDictIn K D && (He.eqO (PySem.W.findIn K (.ref D) "__class__") (some (some (.builtin "object.__class__"))) && (He.eqO (PySem.W.specialIn K (.builtin "object.__class__") "__get__") (some (some (.builtin "getset_descriptor.__get__"))) && (decide (PySem.W.takesIn K (.builtin "object.__class__") = some true) && decide (PySem.W.mroIn K D (.type "object") = some true)))))))
theorem excB_ok {K : PySem.W.Frag} {D : Addr} (h : excB K D = true) : ExcC K D ∧ XfC K D := by
  obtain ⟨h1, h⟩ := He.ba h
  obtain ⟨h2, h⟩ := He.ba h
  obtain ⟨h3, h⟩ := He.ba h
  obtain ⟨h4, h⟩ := He.ba h
  obtain ⟨h5, h⟩ := He.ba h
  obtain ⟨h6, h⟩ := He.ba h
  obtain ⟨h7, h8⟩ := He.ba h
  exact ⟨⟨He.eqO_ok h1, He.eqO_ok h2, of_decide_eq_true h3, h4, He.eqO_ok h5, He.eqO_ok h6, of_decide_eq_true h7, of_decide_eq_true h8⟩, ⟨He.eqO_ok h1, He.eqO_ok h2, of_decide_eq_true h3, h4⟩⟩
/-- an own exception class with the field -/
def exnB (fl q field : Str) (K : PySem.W.Frag) (C : Addr) : Bool := supB fl K C q && (He.eqO (PySem.W.findIn K (.ref C) "__init__") (some (some (.ref (He.ma K C "__init__")))) && (decide (PySem.W.typeIn K (.ref (He.ma K C "__init__")) = some (.type "function")) && (He.eqO (PySem.W.findIn K (.ref C) field) (some none) && excB K C)))
structure ExnF (K : PySem.W.Frag) (C : Addr) (q field fl : Str) : Prop where
  sup : supB fl K C q = true
  ini : PySem.W.findIn K (.ref C) "__init__" = some (some (.ref (He.ma K C "__init__")))
  ty : PySem.W.typeIn K (.ref (He.ma K C "__init__")) = some (.type "function")
  no : PySem.W.findIn K (.ref C) field = some none
  ec : ExcC K C
  xf : XfC K C
theorem exnB_ok {fl q field : Str} {K : PySem.W.Frag} {C : Addr} (h : exnB fl q field K C = true) : ExnF K C q field fl := by
  obtain ⟨h1, h⟩ := He.ba h
  obtain ⟨h2, h⟩ := He.ba h
  obtain ⟨h3, h⟩ := He.ba h
  obtain ⟨h4, h5⟩ := He.ba h
  exact ⟨h1, He.eqO_ok h2, of_decide_eq_true h3, He.eqO_ok h4, (excB_ok h5).1, (excB_ok h5).2⟩
def exmB (K : PySem.W.Frag) (a b : Addr) : Bool := decide (PySem.W.exmOne K (.ref a) (.ref b) = some true)
def kitVB (K : PySem.W.Frag) (a : Addr) (v : Value) (b : Bool) : Bool := decide (PySem.W.kitOne K (.ref a) v = some b)
end Z
set_option Elab.async false
set_option linter.all false
set_option maxRecDepth 100000
set_option maxHeartbeats 4000000
namespace Z
open PySem PySem.Spec PyProof.Rows L2 NdefX
/-! ### the head with own exceptions and properties: further observations are any functions of the written part -/
def hookY (n : Nat) (fa : List He.Fa) (fn : List He.DefD) (xs : List (PySem.W.Frag → SupV)) (vs : List SupV) (ex : PySem.W.Frag → Bool) : PySem.W.Hook where
  α := He.AlD × (List SupV × Bool)
  obs := fun s => (He.obsD fa fn (He.frG s.heap.get? (asX s.heap.get? n)), xs.map (fun f => f (He.frG s.heap.get? (asX s.heap.get? n))), ex (He.frG s.heap.get? (asX s.heap.get? n)))
  val := fun _ => (He.valD fn, vs, true)
  says := fun _ h => ∃ K : PySem.W.Frag, K.In h ∧ He.SaysD fa fn K ∧ xs.map (fun f => f K) = vs ∧ ex K = true
  of := fun _ _ e => ⟨_, He.frG_in, congrArg (fun z : He.AlD × (List SupV × Bool) => z.1) e, congrArg (fun z : He.AlD × (List SupV × Bool) => z.2.1) e, congrArg (fun z : He.AlD × (List SupV × Bool) => z.2.2) e⟩
  keeps := fun _ _ _ ⟨K, hK, c⟩ k => ⟨K, PySem.W.Frag.In.keeps hK k, c⟩
def obY (n : Nat) (fa : List He.Fa) (fn : List He.DefD) (xs : List (PySem.W.Frag → SupV)) (ex : PySem.W.Frag → Bool) (g : Addr → Option Obj) : He.AlD × (List SupV × Bool) := (He.obsD fa fn (He.frG g (asX g n)), xs.map (fun f => f (He.frG g (asX g n))), ex (He.frG g (asX g n)))
theorem obY_eq {n : Nat} {fa : List He.Fa} {fn : List He.DefD} {xs : List (PySem.W.Frag → SupV)} {vs : List SupV} {ex : PySem.W.Frag → Bool} {g : Addr → Option Obj} {s : Shared} (h : ∀ a, g a = s.heap.get? a) : obY n fa fn xs ex g = (hookY n fa fn xs vs ex).obs s := by
  have e : g = s.heap.get? := funext h
  rw [e] <;> rfl
theorem y_at {xs : List (PySem.W.Frag → SupV)} {vs : List SupV} {K : PySem.W.Frag} (e : xs.map (fun f => f K) = vs) (i : Nat) {f : PySem.W.Frag → SupV} {v : SupV} (h1 : xs[i]? = some f := by rfl) (h2 : vs[i]? = some v := by rfl) : f K = v := by
  have := congrArg (fun z : List SupV => z[i]?) e
  simp only [List.getElem?_map, h1, h2] at this
  exact Option.some.inj this
def isB (K : PySem.W.Frag) (C : Addr) : Bool := He.eqO (PySem.W.findIn K (.ref C) "__class__") (some (some (.builtin "object.__class__"))) && (He.eqO (PySem.W.specialIn K (.builtin "object.__class__") "__get__") (some (some (.builtin "getset_descriptor.__get__"))) && (decide (PySem.W.takesIn K (.builtin "object.__class__") = some true) && (decide (PySem.W.mroIn K C (.type "object") = some true) && decide (PySem.W.kitOne K (.ref C) (.ref C) = some true))))
theorem isB_ok {K : PySem.W.Frag} {C : Addr} (cl : Cls K C) (h : isB K C = true) : C8.InsC K C := by
  obtain ⟨h1, h⟩ := He.ba h
  obtain ⟨h2, h⟩ := He.ba h
  obtain ⟨h3, h⟩ := He.ba h
  obtain ⟨h4, h5⟩ := He.ba h
  exact ⟨cl, He.eqO_ok h1, He.eqO_ok h2, of_decide_eq_true h3, of_decide_eq_true h4, of_decide_eq_true h5⟩
def spB (K : PySem.W.Frag) (C : Addr) (m : Str) : Bool := He.eqO (PySem.W.findIn K (.ref C) m) (some (some (.ref (He.ma K C m)))) && (PySem.W.isFn K (.ref (He.ma K C m)) && PySem.W.fnIn K (He.ma K C m))
theorem spB_ok {K : PySem.W.Frag} {C : Addr} {m : Str} (h : spB K C m = true) : PySem.W.findIn K (.ref C) m = some (some (.ref (He.ma K C m))) ∧ PySem.W.isFn K (.ref (He.ma K C m)) = true ∧ PySem.W.fnIn K (He.ma K C m) = true := by
  obtain ⟨h1, h⟩ := He.ba h
  obtain ⟨h2, h3⟩ := He.ba h
  exact ⟨He.eqO_ok h1, h2, h3⟩
theorem all_at {bs : List Bool} (h : bs.all id = true) (i : Nat) {b : Bool} (e : bs[i]? = some b := by rfl) : b = true := List.all_eq_true.mp h b (List.mem_of_getElem? e)
theorem fnr_ok {P : Program} {w : World} {K : PySem.W.Frag} {mg : Str → Option Value} {base : Heap} {k : Nat} {f : Addr} {fd : FuncData} {ps : List Str} {sp : Sp} (F : FnOk P w K mg base CX0 k f fd ps sp) (b : Binds K fd ps []) : FnR P w K mg base CX0 k f sp := (FnOk.raw (dvs := []) F b .nil).imp fun vs H Q E h => by
  show sp (vs ++ []) H Q E
  rw [List.append_nil]
  exact h
/-! a property's getter -/
def gtA (K : PySem.W.Frag) (C : Addr) (m : Str) : Addr := match PySem.W.recIn K (He.ma K C m) "property" with
  | some (.ref g :: _) => g
  | _ => 0
def fdAt (K : PySem.W.Frag) (g : Addr) : Option FuncData := match K.lookup g with
  | some ⟨_, _, .func fd, _⟩ => some fd
  | _ => none
def propObs (x m : Str) (K : PySem.W.Frag) : SupV := (fdAt K (gtA K (He.ga K x) m)).map fun fd => (fd.name, fd.qualname, fd.params, fd.body, fd.scope, fd.globals, fd.closure.map (·.1), fd.defaults, fd.builtins)
def propVal (m q : Str) (st : Stmt) : SupV := some (m, q, defArgs st, .stmts (defBody st), defScope st, mainGlobals, [], .none, builtinsNs)
def propB (K : PySem.W.Frag) (C : Addr) (m q : Str) : Bool := He.eqO (PySem.W.findIn K (.ref C) m) (some (some (.ref (He.ma K C m)))) && (He.eqO (PySem.W.specialIn K (.ref (He.ma K C m)) "__get__") (some (some (.builtin "property.__get__"))) && (decide (PySem.W.takesIn K (.ref (He.ma K C m)) = some true) && ((match PySem.W.recIn K (He.ma K C m) "property" with
  | some (.ref _ :: _) => true
  | _ => false) && (PySem.W.keepIn K (.ref (gtA K C m)) && (match fdAt K (gtA K C m) with
  | some fd => PySem.W.codeIn K fd.code q && (He.dflB K fd.defaults [] && He.kwdB K fd.kwdefaults [])
  | none => false)))))
theorem prop_of {K : PySem.W.Frag} {x m q : Str} {st : Stmt} (h1 : propObs x m K = propVal m q st) (h2 : propB K (He.ga K x) m q = true) : ∃ fd : FuncData, PropOf K (He.ga K x) m (He.ma K (He.ga K x) m) (gtA K (He.ga K x) m) ∧ FunD K m q (defArgs st) (defBody st) (defScope st) [] [] (gtA K (He.ga K x) m) fd := by
  obtain ⟨g0, h2⟩ := He.ba h2
  obtain ⟨g1, h2⟩ := He.ba h2
  obtain ⟨g2, h2⟩ := He.ba h2
  obtain ⟨g3, h2⟩ := He.ba h2
  obtain ⟨g4, g5⟩ := He.ba h2
  have P : PropOf K (He.ga K x) m (He.ma K (He.ga K x) m) (gtA K (He.ga K x) m) := by
    refine ⟨He.eqO_ok g0, He.eqO_ok g1, of_decide_eq_true g2, ?_⟩
    unfold gtA
    split at g3
    · next g rest e =>
      rw [e]
      exact ⟨rest, rfl⟩
    · cases g3
  unfold propObs at h1
  cases e : fdAt K (gtA K (He.ga K x) m) with
  | none =>
    rw [e] at h1
    cases h1
  | some fd =>
    rw [e] at h1 g5
    have lk : ∃ oc od osl, K.lookup (gtA K (He.ga K x) m) = some ⟨oc, od, .func fd, osl⟩ := by
      unfold fdAt at e
      split at e
      · next oc od fd' osl l =>
        cases e
        exact ⟨_, _, _, l⟩
      · cases e
    obtain ⟨oc, od, osl, lk⟩ := lk
    obtain ⟨n1, n2, n3, n4, n5, n6, n7, n8, n9, n10, n11, n12, n13, n14, n15⟩ := fd
    have h1 : (some (n1, n2, n3, n4, n5, n6, n7.map (·.1), n8, n15) : SupV) = propVal m q st := h1
    unfold propVal at h1
    simp only [Option.some.injEq, Prod.mk.injEq] at h1
    obtain ⟨a1, a2, a3, a4, a5, a6, a7, a8, a9⟩ := h1
    have a7 : n7 = [] := List.map_eq_nil_iff.mp a7
    subst a1 a2 a3 a4 a5 a6 a7 a8 a9
    obtain ⟨k1, k2⟩ := He.ba (show (PySem.W.codeIn K n13 n2 && (He.dflB K .none [] && He.kwdB K n9 [])) = true from g5)
    obtain ⟨k3, k4⟩ := He.ba k2
    exact ⟨_, P, ⟨oc, od, _, n9, n10, n11, n12, n13, n14, osl, rfl, lk, k1, He.dflB_ok k3, He.kwdB_ok k4⟩, g4⟩
end Z
set_option Elab.async false
set_option linter.all false
set_option maxRecDepth 100000
set_option maxHeartbeats 4000000
namespace Z
open PySem PySem.Spec PyProof.Rows L2
/-! ### a op b by the class's own method -/
structure Bin2 (P : Program) (w : World) (K : PySem.W.Frag) (mg : Str → Option Value) (base : Heap) (k : Nat) (C : Addr) (m : Str) (sp : Sp) : Prop where
  ex : ∃ (f : Addr) (fd : FuncData) (ps : List Str), FnOk P w K mg base CX0 k f fd ps sp ∧ PySem.W.findIn K (.ref C) m = some (some (.ref f)) ∧ PySem.W.isFn K (.ref f) = true ∧ Binds K fd ps [] ∧ PySem.W.selfFirst K C = true
def rBin (C : Addr) (sp : Sp) : R2 := fun x y H Q => ∃ a b dx dy fs gs, x = .ref a ∧ y = .ref b ∧ H a = some (.ins C dx fs) ∧ H b = some (.ins C dy gs) ∧ sp [.ref a, .ref b] H (fun v H' => ∃ p, v = .ref p ∧ Q v H') E0
theorem op_bin {X : Cx} {k j : Nat} {C : Addr} {sp : Sp} {op : Operator} (c : Bin2 X.prog X.w X.K X.mg X.base k C (PySem.dunder op.info.2) sp) (hr : Room j X.A) (hk : k ≤ j) : OpR X (binaryOp op) (rBin C sp) := by
  intro pins s σ H x y v u Q I rx ry hq
  obtain ⟨f, fd, ps, F, hs, hf, hb, sf⟩ := c.ex
  obtain ⟨a, b, dx, dy, fs, gs, rfl, rfl, ha, hb', q⟩ := hq
  cases rx
  cases ry
  obtain ⟨mA, J, _⟩ := ins_get I.hok ha
  obtain ⟨mB, J', _⟩ := ins_get I.hok hb'
  obtain ⟨od, J, _⟩ := J.look
  obtain ⟨od', J', _⟩ := J'.look
  obtain ⟨m, hF⟩ := I.fr
  refine PySem.W.binop_K hF I.ok.mod.kin J J'.type sf hs hf ?_
  have r2 : Vals [V.ref a, V.ref b] [Value.ref a, Value.ref b] := .cons rfl (.cons rfl .nil)
  refine thn (run_fn (dvs := []) F (hr.mono hk) hb .nil pass0 I r2 q) fun r s' z => ?_
  obtain ⟨v, H', I', rv, p, rfl, q'⟩ := z
  cases rv
  exact ⟨.ref p, H', I', rfl, q'⟩
/-! ### a op n, n an int, by the class's own method, which may raise -/
structure BinI (P : Program) (w : World) (K : PySem.W.Frag) (mg : Str → Option Value) (base : Heap) (k : Nat) (C : Addr) (op : Operator) (sp : Sp) : Prop where
  ex : ∃ (f : Addr) (fd : FuncData) (ps : List Str) (fo ro : Option Value), FnOk P w K mg base (L2N.CX P w) k f fd ps sp ∧ PySem.W.findIn K (.ref C) (PySem.dunder op.info.2) = some (some (.ref f)) ∧ PySem.W.isFn K (.ref f) = true ∧ Binds K fd ps [] ∧ PySem.W.selfFirst K C = true ∧
    PySem.W.findIn K (.ref C) (dunderR op.info.2) = some none ∧ PySem.W.findIn K (.type "int") (PySem.dunder op.info.2) = some fo ∧ PySem.W.findIn K (.type "int") (dunderR op.info.2) = some ro ∧ PySem.W.subIn K (.type "int") (.ref C) = some false
def tOpE (C : Addr) (sp : Sp) (E : L2.St → XK) (ta tb : TE) : TE := fun σ H Q => ta σ H fun x H1 => tb σ H1 fun y H2 => ∃ a n dx fs, x = .ref a ∧ y = .int n ∧ H2 a = some (.ins C dx fs) ∧ sp [.ref a, .int n] H2 (fun v H' => ∃ p, v = .ref p ∧ Q v H') (E σ)
theorem pe_opE {X : Cx} {k j : Nat} {C : Addr} {sp : Sp} {op : Operator} {E : L2.St → XK} {a b : Expr} {ta tb : TE} {pos : Pos} (c : BinI X.prog X.w X.K X.mg X.base k C op sp) (hx : ∀ σ, PassesAt (L2N.CX X.prog X.w) X σ (E σ)) (hr : Room j X.A) (hk : k ≤ j) (ha : PE X a ta) (hb : PE X b tb) : PE X (.BinOp a op b pos) (tOpE C sp E ta tb) := by
  obtain ⟨f, fd, ps, fo, ro, F, hs, hf, hbi, sf, hr0, h1, h2, hsub⟩ := c.ex
  refine ⟨fun pins s σ H Q I h => ?_⟩
  refine wpAny_BinOp (binT ha hb I h fun v u s2 x y H2 I2 rx ry q => ?_)
  obtain ⟨a, n, dx, fs, rfl, rfl, ea, q⟩ := q
  cases rx
  obtain ⟨tk, rfl⟩ := ry
  obtain ⟨mA, J, _⟩ := ins_get I2.hok ea
  obtain ⟨od, J, _⟩ := J.look
  obtain ⟨m, hF⟩ := I2.fr
  refine PySem.W.ksp_binT (T := "int") (fo := fo) (ro := ro) (rc := none) hF I2.ok.mod.kin J rfl sf hs hf hr0 (.inl rfl) h1 h2 hsub ?_
  refine thn (wpAny_call (run_atE (vs := [.ref a, .int n]) (us := [.ref a, .int n tk]) F hbi (hx σ) (hr.mono hk) I2 (.cons rfl (.cons ⟨_, rfl⟩ .nil)) q)) fun r s' z => ?_
  obtain ⟨v, H', I', rv, p, rfl, q'⟩ := z
  cases rv
  exact ⟨.ref p, H', I', rfl, q'⟩
end Z
set_option Elab.async false
set_option linter.all false
namespace Dy
/-! ### day functions: the mathematics -/
/-- the value of the rule with these days -/
def dv (ds : List Int) (d : Int) : Int := ds.getD (d % (ds.length : Int)).toNat 0 + (ds.length : Int) * (d / (ds.length : Int))
def Per (F : Int → Int) (s : Int) : Prop := ∀ d, F (d + s) = F d + s
theorem Per.mul {F : Int → Int} {s : Int} (h : Per F s) : ∀ (n : Nat) (d : Int), F (d + n * s) = F d + n * s
  | 0, d => by
    rw [show ((0 : Nat) : Int) * s = 0 by simp]
    simp
  | n + 1, d => by
    have e : ((n + 1 : Nat) : Int) * s = n * s + s := by
      rw [Int.natCast_add, Int.add_mul]
      simp
    rw [e, ← Int.add_assoc, h, h.mul n d]
    omega
theorem Per.imul {F : Int → Int} {s : Int} (h : Per F s) (n : Int) (d : Int) : F (d + n * s) = F d + n * s := by
  rcases Int.le_total 0 n with c | c
  · obtain ⟨m, rfl⟩ := Int.eq_ofNat_of_zero_le c
    exact h.mul m d
  · obtain ⟨m, e⟩ := Int.eq_ofNat_of_zero_le (show 0 ≤ -n by omega)
    have e : n = -(m : Int) := by omega
    subst e
    have := h.mul m (d + -(m : Int) * s)
    rw [show d + -(m : Int) * s + m * s = d by rw [Int.neg_mul]; omega] at this
    rw [this]
    rw [Int.neg_mul]
    omega
theorem Per.sub {F : Int → Int} {s t : Int} (h : Per F s) (k : Per F t) : Per F (s - t) := fun d => by
  have h1 := h (d - t)
  have h2 := k (d - t)
  rw [show d - t + t = d by omega] at h2
  rw [show d + (s - t) = d - t + s by omega, h1]
  omega
/-- a list that tells the values of F from 0 on -/
structure Of (F : Int → Int) (ds : List Int) : Prop where
  pos : 0 < ds.length
  per : Per F (ds.length : Int)
  at_ : ∀ i, i < ds.length → ds.getD i 0 = F (i : Int)
theorem Of.dv {F : Int → Int} {ds : List Int} (h : Of F ds) (d : Int) : dv ds d = F d := by
  unfold Dy.dv
  have hn : 0 < (ds.length : Int) := by have := h.pos; omega
  have h1 := Int.emod_nonneg d (show (ds.length : Int) ≠ 0 by omega)
  have h2 := Int.emod_lt_of_pos d hn
  rw [h.at_ _ (by omega), Int.toNat_of_nonneg h1]
  have h3 := h.per.imul (d / (ds.length : Int)) (d % (ds.length : Int))
  have h4 := Int.emod_add_mul_ediv d (ds.length : Int)
  rw [show d % (ds.length : Int) + d / (ds.length : Int) * (ds.length : Int) = d by rw [Int.mul_comm (d / _)]; exact h4] at h3
  rw [h3, Int.mul_comm (d / _)]
theorem of_dv {ds : List Int} (h : 0 < ds.length) : Of (dv ds) ds := by
  refine ⟨h, fun d => ?_, fun i hi => ?_⟩
  · unfold dv
    rw [Int.add_emod_right, Int.add_ediv_of_dvd_right (Int.dvd_refl _), Int.ediv_self (by omega), Int.mul_add]
    omega
  · unfold dv
    rw [Int.emod_eq_of_lt (by omega) (by omega), Int.ediv_eq_zero_of_lt (by omega) (by omega)]
    simp
/-- the least period -/
structure Lp (F : Int → Int) (p : Nat) : Prop where
  pos : 0 < p
  per : Per F (p : Int)
  least : ∀ s : Nat, 0 < s → Per F (s : Int) → p ≤ s
theorem Lp.uniq {F : Int → Int} {p q : Nat} (a : Lp F p) (b : Lp F q) : p = q := by
  have h1 := a.least q b.pos b.per
  have h2 := b.least p a.pos a.per
  omega
theorem Lp.dvd {F : Int → Int} {p n : Nat} (a : Lp F p) (h : Per F (n : Int)) : n % p = 0 := by
  have hm : Per F ((n % p : Nat) : Int) := by
    have h1 : Per F (((n / p : Nat) : Int) * (p : Int)) := fun d => a.per.mul (n / p) d
    have h2 := h.sub h1
    have e : (n : Int) - ((n / p : Nat) : Int) * (p : Int) = ((n % p : Nat) : Int) := by
      have := Nat.div_add_mod n p
      have h3 : (n : Int) = ((p * (n / p) + n % p : Nat) : Int) := by rw [this]
      rw [Int.natCast_add, Int.natCast_mul, Int.mul_comm] at h3
      omega
    rw [e] at h2
    exact h2
  rcases Nat.eq_zero_or_pos (n % p) with c | c
  · exact c
  · have := a.least _ c hm
    have := Nat.mod_lt n a.pos
    omega
/-- seen on one stretch of n days -/
theorem per_of {F : Int → Int} {n : Nat} {s : Int} (hn : 0 < n) (h : Per F (n : Int)) (k : ∀ i : Nat, i < n → F ((i : Int) + s) = F (i : Int) + s) : Per F s := fun d => by
  have hn2 : 0 < (n : Int) := by omega
  have h1 := Int.emod_nonneg d (show (n : Int) ≠ 0 by omega)
  have h2 := Int.emod_lt_of_pos d hn2
  have h4 := Int.emod_add_mul_ediv d (n : Int)
  obtain ⟨i, ei⟩ := Int.eq_ofNat_of_zero_le h1
  have hi : i < n := by omega
  have e1 : d = (i : Int) + d / n * n := by rw [← ei, Int.mul_comm (d / _)]; exact h4.symm
  have a1 := h.imul (d / n) (i : Int)
  have a2 := h.imul (d / n) ((i : Int) + s)
  rw [← e1] at a1
  rw [show (i : Int) + s + d / n * n = d + s by omega] at a2
  rw [a2, a1, k i hi]
  omega
/-- the program's test: s divides n, and the days behind s are those before, s later -/
def Blk (ds : List Int) (s : Nat) : Prop := ds.length % s = 0 ∧ ∀ i, s ≤ i → i < ds.length → ds.getD i 0 = ds.getD (i - s) 0 + s
theorem blk_per {F : Int → Int} {ds : List Int} {s : Nat} (h : Of F ds) (hs : 0 < s) (b : Blk ds s) : Per F (s : Int) := by
  obtain ⟨b1, b2⟩ := b
  obtain ⟨q, hq⟩ := Nat.dvd_of_mod_eq_zero b1
  have hp := h.pos
  -- within the list
  have st : ∀ i : Nat, i + s < ds.length → F ((i : Int) + s) = F (i : Int) + s := fun i hi => by
    have := b2 (i + s) (by omega) hi
    rw [h.at_ _ hi, show i + s - s = i by omega, h.at_ i (by omega)] at this
    rw [← this]
    congr 1
  have ch : ∀ (k i : Nat), i + k * s < ds.length → F ((i : Int) + k * s) = F (i : Int) + k * s := by
    intro k
    induction k with
    | zero =>
      intro i _
      simp
    | succ k ih =>
      intro i hi
      have e : (k + 1) * s = k * s + s := by rw [Nat.add_mul, Nat.one_mul]
      rw [e] at hi
      have h1 := ih i (by omega)
      have h2 := st (i + k * s) (by omega)
      have e2 : ((k + 1 : Nat) : Int) * (s : Int) = k * s + s := by
        rw [Int.natCast_add, Int.add_mul]
        simp
      rw [e2, ← Int.add_assoc]
      rw [show ((i + k * s : Nat) : Int) = (i : Int) + k * s by rw [Int.natCast_add, Int.natCast_mul]] at h2
      rw [h2, h1]
      omega
  refine per_of hp h.per (fun i hi => ?_)
  by_cases c : i + s < ds.length
  · exact st i c
  · -- the last block
    have q1 : 0 < q := by
      rcases Nat.eq_zero_or_pos q with z | z
      · rw [z, Nat.mul_zero] at hq
        omega
      · exact z
    obtain ⟨q', rfl⟩ : ∃ q', q = q' + 1 := ⟨q - 1, by omega⟩
    have e : s * (q' + 1) = q' * s + s := by rw [Nat.mul_add, Nat.mul_one, Nat.mul_comm]
    rw [e] at hq
    obtain ⟨j, hj⟩ : ∃ j : Nat, i = j + q' * s := ⟨i - q' * s, by omega⟩
    have a1 := ch q' j (by omega)
    have a2 := h.per (j : Int)
    have e3 : (ds.length : Int) = (q' : Int) * s + s := by rw [hq, Int.natCast_add, Int.natCast_mul]
    rw [e3] at a2
    have e4 : (i : Int) = (j : Int) + q' * s := by rw [hj, Int.natCast_add, Int.natCast_mul]
    rw [e4, a1]
    rw [Int.add_assoc, a2]
    omega
theorem lp_blk {F : Int → Int} {ds : List Int} {p : Nat} (h : Of F ds) (l : Lp F p) : Blk ds p := by
  refine ⟨l.dvd h.per, fun i hi hn => ?_⟩
  rw [h.at_ i hn, h.at_ (i - p) (by omega)]
  have := l.per ((i - p : Nat) : Int)
  rw [← this]
  congr 1
  omega
/-- the first size below n that passes a test that means «a period» -/
theorem first_lp {F : Int → Int} {n s : Nat} (T : Nat → Prop) (hn : 0 < n) (h : Per F (n : Int)) (hT : ∀ k, 0 < k → T k → Per F (k : Int)) (hL : ∀ p, Lp F p → p < n → T p) (hs : 0 < s) (hsn : s ≤ n) (h1 : ∀ k, 0 < k → k < s → ¬ T k) (h2 : s < n → T s) : Lp F s := by
  -- the least period exists
  have ex : ∃ p, Lp F p := by
    have key : ∀ m : Nat, ∀ k : Nat, k ≤ m → 0 < k → Per F (k : Int) → ∃ p, Lp F p := by
      intro m
      induction m with
      | zero => intro k a b; omega
      | succ m ih =>
        intro k a b c
        by_cases z : ∃ j : Nat, 0 < j ∧ j < k ∧ Per F (j : Int)
        · obtain ⟨j, j1, j2, j3⟩ := z
          exact ih j (by omega) j1 j3
        · refine ⟨k, b, c, fun j j1 j2 => ?_⟩
          apply Decidable.byContradiction
          intro w
          exact z ⟨j, j1, by omega, j2⟩
    exact key n n (Nat.le_refl _) hn h
  obtain ⟨p, hp⟩ := ex
  have pn := hp.least n hn h
  have e : p = s := by
    by_cases c : p < s
    · exact absurd (hL p hp (by omega)) (h1 p hp.pos c)
    · by_cases d : s < n
      · have := hp.least s hs (hT s hs (h2 d))
        omega
      · omega
  rw [← e]
  exact hp
theorem Of.take {F : Int → Int} {ds : List Int} {p : Nat} (h : Of F ds) (l : Lp F p) : p ≤ ds.length ∧ (ds.take p).length = p ∧ Of F (ds.take p) := by
  have hp := l.least ds.length h.pos h.per
  have e : (ds.take p).length = p := by
    rw [List.length_take]
    omega
  refine ⟨hp, e, ?_, ?_, ?_⟩
  · rw [e]
    exact l.pos
  · rw [e]
    exact l.per
  · intro i hi
    rw [e] at hi
    rw [← h.at_ i (by omega), List.getD_eq_getElem?_getD, List.getD_eq_getElem?_getD, List.getElem?_take_of_lt hi]
/-! ### what makes a day rule -/
/-- the first index at which the days fall; 0 if the end is too late or there are none -/
def asc (ds : List Int) : Nat → Prop := fun i => ¬ ds.getD i 0 < ds.getD (i - 1) 0
def faultF (ds : List Int) : Nat → Nat → Option Nat
  | 0, _ => none
  | m + 1, i => if ds.getD i 0 < ds.getD (i - 1) 0 then some i else faultF ds m (i + 1)
/-- what check_days says -/
def fault (ds : List Int) : Option Nat := match faultF ds (ds.length - 1) 1 with
  | some i => some i
  | none => if ds.length = 0 ∨ ds.getD 0 0 + ds.length < ds.getD (ds.length - 1) 0 then some 0 else none
end Dy
set_option Elab.async false
set_option linter.all false
namespace Dy
/-! ### day functions: iterates, adjoints -/
def Mon (F : Int → Int) : Prop := ∀ d, F d ≤ F (d + 1)
theorem Mon.add {F : Int → Int} (h : Mon F) (d : Int) : ∀ n : Nat, F d ≤ F (d + n)
  | 0 => by simp
  | n + 1 => by
    have h1 := h.add d n
    have h2 := h (d + n)
    rw [show d + ((n + 1 : Nat) : Int) = d + n + 1 by omega]
    omega
theorem Mon.le {F : Int → Int} (h : Mon F) {a b : Int} (c : a ≤ b) : F a ≤ F b := by
  have := h.add a (b - a).toNat
  rw [show a + ((b - a).toNat : Int) = b by omega] at this
  exact this
def it (F : Int → Int) : Nat → Int → Int
  | 0, d => d
  | n + 1, d => F (it F n d)
theorem it_add (F : Int → Int) (a b : Nat) (d : Int) : it F (a + b) d = it F b (it F a d) := by
  induction b with
  | zero => rfl
  | succ b ih => rw [← Nat.add_assoc]; show F (it F (a + b) d) = F (it F b (it F a d)); rw [ih]
theorem it_succ (F : Int → Int) (n : Nat) (d : Int) : it F (n + 1) d = it F n (F d) := by
  rw [Nat.add_comm, it_add]
  rfl
theorem it_mul (F : Int → Int) (a b : Nat) (d : Int) : it F (a * b) d = it (it F a) b d := by
  induction b with
  | zero => rfl
  | succ b ih => rw [Nat.mul_succ, it_add, ih]; rfl
theorem Mon.it {F : Int → Int} (h : Mon F) : ∀ n, Mon (it F n)
  | 0 => fun d => by show d ≤ d + 1; omega
  | n + 1 => fun d => h.le (h.it n d)
theorem Per.it {F : Int → Int} {s : Int} (h : Per F s) : ∀ n, Per (it F n) s
  | 0 => fun d => rfl
  | n + 1 => fun d => by
    show F (Dy.it F n (d + s)) = F (Dy.it F n d) + s
    rw [h.it n d, h]
theorem Mon.comp {F G : Int → Int} (f : Mon F) (g : Mon G) : Mon fun d => G (F d) := fun d => g.le (f d)
theorem Per.comp {F G : Int → Int} {s : Int} (f : Per F s) (g : Per G s) : Per (fun d => G (F d)) s := fun d => by
  show G (F (d + s)) = G (F d) + s
  rw [f, g]
theorem Mon.max {F G : Int → Int} (f : Mon F) (g : Mon G) : Mon fun d => max (F d) (G d) := fun d => by
  have := f d
  have := g d
  show Max.max _ _ ≤ Max.max _ _
  omega
theorem Mon.min {F G : Int → Int} (f : Mon F) (g : Mon G) : Mon fun d => min (F d) (G d) := fun d => by
  have := f d
  have := g d
  show Min.min _ _ ≤ Min.min _ _
  omega
theorem Per.max {F G : Int → Int} {s : Int} (f : Per F s) (g : Per G s) : Per (fun d => max (F d) (G d)) s := fun d => by
  show Max.max (F (d + s)) (G (d + s)) = Max.max _ _ + s
  rw [f, g]
  omega
theorem Per.min {F G : Int → Int} {s : Int} (f : Per F s) (g : Per G s) : Per (fun d => min (F d) (G d)) s := fun d => by
  show Min.min (F (d + s)) (G (d + s)) = Min.min _ _ + s
  rw [f, g]
  omega
theorem Per.dvd {F : Int → Int} {s n : Nat} (h : Per F (s : Int)) (d : n % s = 0) : Per F (n : Int) := fun x => by
  have e := h.mul (n / s) x
  have h2 := Nat.div_add_mod n s
  have e2 : ((n / s : Nat) : Int) * (s : Int) = n := by
    rw [← Int.natCast_mul]
    congr 1
    rw [Nat.mul_comm]
    omega
  rw [e2] at e
  exact e
/-- the values of F from 0 on make a list that is a rule -/
theorem of_congr {F G : Int → Int} {ds : List Int} (o : Of F ds) (h : ∀ d, F d = G d) : Of G ds := by
  have : F = G := funext h
  rw [← this]
  exact o
theorem of_range {F : Int → Int} {n : Nat} (hn : 0 < n) (h : Per F (n : Int)) : Of F ((List.range n).map fun (i : Nat) => F (i : Int)) := by
  have l : ((List.range n).map fun (i : Nat) => F (i : Int)).length = n := by rw [List.length_map, List.length_range]
  refine ⟨by omega, by rw [l]; exact h, fun i hi => ?_⟩
  rw [l] at hi
  rw [List.getD_eq_getElem?_getD, List.getElem?_map, List.getElem?_range hi]
  rfl
theorem Of.eq {F : Int → Int} {ds es : List Int} (a : Of F ds) (b : Of F es) (l : ds.length = es.length) : ds = es := by
  apply List.ext_getElem l
  intro i h1 h2
  have e1 := a.at_ i h1
  have e2 := b.at_ i h2
  rw [List.getD_eq_getElem?_getD, List.getElem?_eq_getElem h1] at e1
  rw [List.getD_eq_getElem?_getD, List.getElem?_eq_getElem h2] at e2
  exact e1.trans e2.symm
/-! adjoints -/
def Lat (F L : Int → Int) : Prop := ∀ d l, F d ≤ l ↔ d ≤ L l
def Soo (F S : Int → Int) : Prop := ∀ d l, l ≤ F d ↔ S l ≤ d
theorem Lat.uniq {F L M : Int → Int} (a : Lat F L) (b : Lat F M) (l : Int) : L l = M l := by
  have h1 := (b (L l) l).mp ((a (L l) l).mpr (Int.le_refl _))
  have h2 := (a (M l) l).mp ((b (M l) l).mpr (Int.le_refl _))
  omega
theorem Soo.uniq {F L M : Int → Int} (a : Soo F L) (b : Soo F M) (l : Int) : L l = M l := by
  have h1 := (b (L l) l).mp ((a (L l) l).mpr (Int.le_refl _))
  have h2 := (a (M l) l).mp ((b (M l) l).mpr (Int.le_refl _))
  omega
theorem Lat.soo {F L : Int → Int} (a : Lat F L) : Soo F fun l => L (l - 1) + 1 := fun d l => by
  have := a d (l - 1)
  show l ≤ F d ↔ L (l - 1) + 1 ≤ d
  omega
theorem Soo.lat {F S : Int → Int} (a : Soo F S) : Lat F fun l => S (l + 1) - 1 := fun d l => by
  have := a d (l + 1)
  show F d ≤ l ↔ d ≤ S (l + 1) - 1
  omega
theorem Lat.flip {F L : Int → Int} (a : Lat F L) : Soo L F := fun d l => (a l d).symm
theorem Soo.flip {F S : Int → Int} (a : Soo F S) : Lat S F := fun d l => (a l d).symm
theorem Lat.mon {F L : Int → Int} (a : Lat F L) : Mon L := fun l => (a _ _).mp (by
  have := (a (L l) l).mpr (Int.le_refl _)
  omega)
theorem Soo.mon {F L : Int → Int} (a : Soo F L) : Mon L := fun l => (a _ _).mp (by
  have := (a (L (l + 1)) (l + 1)).mpr (Int.le_refl _)
  omega)
theorem Lat.per {F L : Int → Int} {s : Int} (a : Lat F L) (h : Per F s) : Per L s := fun l => by
  have h1 : L l + s ≤ L (l + s) := (a _ _).mp (by
    rw [h]
    have := (a (L l) l).mpr (Int.le_refl _)
    omega)
  have h2 : L (l + s) - s ≤ L l := (a _ _).mp (by
    have := (a (L (l + s)) (l + s)).mpr (Int.le_refl _)
    have e := h (L (l + s) - s)
    rw [show L (l + s) - s + s = L (l + s) by omega] at e
    omega)
  omega
theorem Soo.per {F L : Int → Int} {s : Int} (a : Soo F L) (h : Per F s) : Per L s := fun l => by
  have := a.lat.per h (l - 1)
  have this : L (l - 1 + s + 1) - 1 = L (l - 1 + 1) - 1 + s := this
  rw [show l - 1 + s + 1 = l + s by omega, show l - 1 + 1 = l by omega] at this
  omega
theorem Lat.comp {F G L M : Int → Int} (a : Lat F L) (b : Lat G M) : Lat (fun d => G (F d)) fun l => L (M l) := fun d l => (b _ _).trans (a _ _)
theorem Soo.comp {F G L M : Int → Int} (a : Soo F L) (b : Soo G M) : Soo (fun d => G (F d)) fun l => L (M l) := fun d l => (b _ _).trans (a _ _)
theorem Lat.it {F L : Int → Int} (a : Lat F L) : ∀ n, Lat (it F n) (it L n)
  | 0 => fun _ _ => Iff.rfl
  | n + 1 => fun d l => by
    rw [it_succ L]
    exact (a _ _).trans (a.it n _ _)
theorem Soo.it {F L : Int → Int} (a : Soo F L) : ∀ n, Soo (it F n) (it L n)
  | 0 => fun _ _ => Iff.rfl
  | n + 1 => fun d l => by
    rw [it_succ L]
    exact (a _ _).trans (a.it n _ _)
theorem lat_max {F G L M : Int → Int} (a : Lat F L) (b : Lat G M) : Lat (fun d => max (F d) (G d)) fun l => min (L l) (M l) := fun d l => by
  have := a d l
  have := b d l
  show Max.max (F d) (G d) ≤ l ↔ d ≤ Min.min (L l) (M l)
  omega
theorem lat_min {F G L M : Int → Int} (a : Lat F L) (b : Lat G M) : Lat (fun d => min (F d) (G d)) fun l => max (L l) (M l) := fun d l => by
  have := a d l
  have := b d l
  show Min.min (F d) (G d) ≤ l ↔ d ≤ Max.max (L l) (M l)
  omega
theorem soo_max {F G L M : Int → Int} (a : Soo F L) (b : Soo G M) : Soo (fun d => max (F d) (G d)) fun l => min (L l) (M l) := fun d l => by
  have := a d l
  have := b d l
  show l ≤ Max.max (F d) (G d) ↔ Min.min (L l) (M l) ≤ d
  omega
theorem soo_min {F G L M : Int → Int} (a : Soo F L) (b : Soo G M) : Soo (fun d => min (F d) (G d)) fun l => max (L l) (M l) := fun d l => by
  have := a d l
  have := b d l
  show l ≤ Min.min (F d) (G d) ↔ Max.max (L l) (M l) ≤ d
  omega
/-! rings -/
/-- two of n + 1 numbers below n are alike -/
theorem pigeon : ∀ (n : Nat) (f : Nat → Nat), (∀ i, i ≤ n → f i < n) → ∃ i j, i < j ∧ j ≤ n ∧ f i = f j
  | 0, f, h => absurd (h 0 (Nat.le_refl _)) (Nat.not_lt_zero _)
  | n + 1, f, h => by
    by_cases c : ∃ i, i ≤ n ∧ f i = f (n + 1)
    · obtain ⟨i, h1, h2⟩ := c
      exact ⟨i, n + 1, by omega, Nat.le_refl _, h2⟩
    · -- f (n + 1) changed with n
      have g1 : ∀ i, i ≤ n → (if f i = n then f (n + 1) else f i) < n := fun i hi => by
        have h1 := h i (by omega)
        have h2 := h (n + 1) (Nat.le_refl _)
        have h3 : f i ≠ f (n + 1) := fun z => c ⟨i, hi, z⟩
        split <;> omega
      obtain ⟨i, j, a, b, e⟩ := pigeon n (fun i => if f i = n then f (n + 1) else f i) g1
      refine ⟨i, j, a, by omega, ?_⟩
      have h3 : f i ≠ f (n + 1) := fun z => c ⟨i, by omega, z⟩
      have h4 : f j ≠ f (n + 1) := fun z => c ⟨j, by omega, z⟩
      split at e <;> split at e <;> omega
/-- day d comes back after u uses, g later -/
def Rg (F : Int → Int) (n : Nat) (d : Int) (u : Nat) (g : Int) : Prop := it F u d = d + g ∧ g % (n : Int) = 0
theorem ring_ex {F : Int → Int} {n : Nat} (hn : 0 < n) (h : Per F (n : Int)) : ∃ (d u : Nat), d < n ∧ 0 < u ∧ u ≤ n ∧ (it F u d - d) % (n : Int) = 0 := by
  have hn2 : (0 : Int) < n := by omega
  have nn : ∀ x : Int, 0 ≤ x % (n : Int) := fun x => Int.emod_nonneg x (by omega)
  have lt : ∀ x : Int, x % (n : Int) < n := fun x => Int.emod_lt_of_pos x hn2
  obtain ⟨i, j, a, b, e⟩ := pigeon n (fun i => (it F i 0 % (n : Int)).toNat) (fun i _ => by
    have := nn (it F i 0)
    have := lt (it F i 0)
    show (it F i 0 % (n : Int)).toNat < n
    omega)
  have e : it F i 0 % (n : Int) = it F j 0 % (n : Int) := by
    have h1 := nn (it F i 0)
    have h2 := nn (it F j 0)
    have e : (it F i 0 % (n : Int)).toNat = (it F j 0 % (n : Int)).toNat := e
    omega
  refine ⟨(it F i 0 % (n : Int)).toNat, j - i, ?_, by omega, by omega, ?_⟩
  · have := nn (it F i 0)
    have := lt (it F i 0)
    omega
  · rw [Int.toNat_of_nonneg (nn _)]
    have hq := Int.emod_add_mul_ediv (it F i 0) (n : Int)
    have hx := (h.it (j - i)).imul (it F i 0 / (n : Int)) (it F i 0 % (n : Int))
    rw [show it F i 0 % (n : Int) + it F i 0 / (n : Int) * (n : Int) = it F i 0 by rw [Int.mul_comm (it F i 0 / _)]; exact hq, ← it_add, show i + (j - i) = j by omega] at hx
    have h3 : it F (j - i) (it F i 0 % (n : Int)) - it F i 0 % (n : Int) = it F j 0 - it F i 0 := by
      rw [Int.mul_comm] at hx
      omega
    rw [h3, Int.sub_emod, e, Int.sub_self]
    rfl
/-- all gains lie within n - 1 -/
theorem gains {G : Int → Int} {n : Nat} (hn : 0 < n) (m : Mon G) (h : Per G (n : Int)) (d e : Int) : (G d - d) - (G e - e) < n := by
  have hn2 : (0 : Int) < n := by omega
  -- e moved to [d, d + n)
  have key : ∀ c : Int, d ≤ c → c < d + n → (G d - d) - (G c - c) < n := fun c h1 h2 => by
    have := m.le h1
    omega
  have h1 := Int.emod_nonneg (e - d) (show (n : Int) ≠ 0 by omega)
  have h2 := Int.emod_lt_of_pos (e - d) hn2
  have h3 := Int.emod_add_mul_ediv (e - d) (n : Int)
  have h4 := h.imul ((e - d) / (n : Int)) (d + (e - d) % (n : Int))
  have h5 := key (d + (e - d) % (n : Int)) (by omega) (by omega)
  rw [Int.mul_comm ((e - d) / _), show d + (e - d) % (n : Int) + (n : Int) * ((e - d) / (n : Int)) = e by omega] at h4
  omega
theorem gains_sum {G : Int → Int} {n : Nat} (hn : 0 < n) (m : Mon G) (h : Per G (n : Int)) (d e : Int) : ∀ k : Nat, k * (G d - d) - (it G k e - e) ≤ k * ((n : Int) - 1) ∧ -(k * ((n : Int) - 1)) ≤ k * (G d - d) - (it G k e - e)
  | 0 => by
    show ((0 : Nat) : Int) * _ - (e - e) ≤ ((0 : Nat) : Int) * _ ∧ _ ≤ ((0 : Nat) : Int) * _ - (e - e)
    simp
  | k + 1 => by
    have h1 := gains_sum hn m h d e k
    have h2 := gains hn m h d (it G k e)
    have h3 := gains hn m h (it G k e) d
    have e1 : ((k + 1 : Nat) : Int) * (G d - d) = k * (G d - d) + (G d - d) := by
      rw [Int.natCast_add, Int.add_mul]
      simp
    have e2 : ((k + 1 : Nat) : Int) * ((n : Int) - 1) = k * ((n : Int) - 1) + ((n : Int) - 1) := by
      rw [Int.natCast_add, Int.add_mul]
      simp
    rw [e1, e2]
    show k * (G d - d) + (G d - d) - (G (it G k e) - e) ≤ _ ∧ _ ≤ k * (G d - d) + (G d - d) - (G (it G k e) - e)
    generalize (k : Int) * ((n : Int) - 1) = y at *
    generalize (k : Int) * (G d - d) = x at *
    omega
theorem Rg.many {F : Int → Int} {n u : Nat} {d g : Int} (h : Per F (n : Int)) (r : Rg F n d u g) : ∀ k : Nat, it F (k * u) d = d + k * g
  | 0 => by
    rw [Nat.zero_mul]
    show d = _
    simp
  | k + 1 => by
    have hg : g = g / (n : Int) * (n : Int) := by
      have := Int.emod_add_mul_ediv g (n : Int)
      rw [r.2, Int.mul_comm] at this
      omega
    have e1 : ((k + 1 : Nat) : Int) * g = g + k * g := by
      rw [Int.natCast_add, Int.add_mul]
      simp [Int.add_comm]
    rw [Nat.add_mul, Nat.one_mul, Nat.add_comm, it_add, r.1]
    have h2 := (h.it (k * u)).imul (g / (n : Int)) d
    rw [← hg] at h2
    rw [h2, r.many h k, e1]
    omega
/-- how far uses and gain may be from the ring's pace -/
theorem pace {F : Int → Int} {n u m : Nat} {d g x : Int} (hn : 0 < n) (mo : Mon F) (h : Per F (n : Int)) (hu : 0 < u) (r : Rg F n d u g) : -((u : Int) * n) < u * (it F m x - x) - m * g ∧ u * (it F m x - x) - m * g < (u : Int) * n := by
  have h1 := gains_sum hn (mo.it m) (h.it m) x d u
  rw [← it_mul, r.many h m] at h1
  have e : (u : Int) * ((n : Int) - 1) = u * n - u := by
    rw [Int.mul_sub]
    simp
  rw [e] at h1
  generalize (u : Int) * (it F m x - x) = a at *
  generalize (u : Int) * (n : Int) = b at *
  generalize (m : Int) * g = c at *
  omega
/-- small multiples all along: none -/
theorem bound_zero {a c : Int} (h : ∀ k : Nat, (k : Int) * a < c) : a ≤ 0 := by
  apply Decidable.byContradiction
  intro z
  have h1 := h (c.toNat + 1)
  have h2 : ((c.toNat + 1 : Nat) : Int) * 1 ≤ ((c.toNat + 1 : Nat) : Int) * a := Int.mul_le_mul_of_nonneg_left (by omega) (by omega)
  omega
/-- one pace alone -/
theorem pace_one {F : Int → Int} {n u v : Nat} {d e g k : Int} (hn : 0 < n) (mo : Mon F) (h : Per F (n : Int)) (hu : 0 < u) (r : Rg F n d u g) (s : Rg F n e v k) : (u : Int) * k = v * g := by
  have key : ∀ j : Nat, -((u : Int) * n) < (j : Int) * (u * k - v * g) ∧ (j : Int) * (u * k - v * g) < (u : Int) * n := fun j => by
    have h1 := pace (m := j * v) (x := e) hn mo h hu r
    rw [s.many h j, show e + j * k - e = j * k by omega] at h1
    have e1 : (j : Int) * (u * k - v * g) = u * (j * k) - ((j * v : Nat) : Int) * g := by
      rw [Int.mul_sub, Int.natCast_mul, Int.mul_left_comm, Int.mul_assoc]
    rw [e1]
    exact h1
  have a1 := bound_zero (fun j => (key j).2)
  have a2 := bound_zero (a := -(u * k - v * g)) (c := u * n) (fun j => by
    have := (key j).1
    rw [Int.mul_neg]
    omega)
  omega
/-- the adjoint's pace -/
theorem pace_lat {F L : Int → Int} {n u v : Nat} {d e g k : Int} (hn : 0 < n) (mo : Mon F) (h : Per F (n : Int)) (a : Lat F L) (hu : 0 < u) (hv : 0 < v) (r : Rg F n d u g) (s : Rg L n e v k) : (u : Int) * k = -(v * g) := by
  have hL := a.per h
  have mL := a.mon
  -- both after j * u * v uses
  have key : ∀ j : Nat, (j : Int) * (-(u * k + v * g)) < (v : Int) * n + (v + 1) ∧ (j : Int) * (u * k + v * g) < (v : Int) * n + (v + 1) := fun j => by
    have h1 : it F (j * (u * v)) d = d + j * (v * g) := by
      have := r.many h (j * v)
      rw [Int.natCast_mul, Int.mul_assoc, show j * v * u = j * (u * v) by rw [Nat.mul_assoc, Nat.mul_comm v u]] at this
      exact this
    have h3 := ((a.it (j * (u * v))) d (d + j * (v * g))).mp (by rw [h1]; exact Int.le_refl _)
    have h4 : ¬ d ≤ it L (j * (u * v)) (d + j * (v * g) - 1) := fun z => by
      have := ((a.it (j * (u * v))) d (d + j * (v * g) - 1)).mpr z
      rw [h1] at this
      omega
    have p1 := pace (m := j * (u * v)) (x := d + j * (v * g)) hn mL hL hv s
    have p2 := pace (m := j * (u * v)) (x := d + j * (v * g) - 1) hn mL hL hv s
    have e1 : ((j * (u * v) : Nat) : Int) * k = v * (j * (u * k)) := by
      rw [Int.natCast_mul, Int.natCast_mul]
      rw [Int.mul_assoc, Int.mul_comm (u : Int) (v : Int), Int.mul_assoc, Int.mul_left_comm]
    rw [e1, ← Int.mul_sub] at p1 p2
    have e2 : (v : Int) * n + (v + 1) = v * (n + 1) + 1 := by rw [Int.mul_add]; omega
    have hv2 : (0 : Int) < v := by omega
    have q1 : it L (j * (u * v)) (d + j * (v * g)) - (d + j * (v * g)) - j * (u * k) < n := Int.lt_of_mul_lt_mul_left p1.2 (by omega)
    have q2 : -(n : Int) < it L (j * (u * v)) (d + j * (v * g) - 1) - (d + j * (v * g) - 1) - j * (u * k) := Int.lt_of_mul_lt_mul_left (a := (v : Int)) (by rw [Int.mul_neg]; exact p2.1) (by omega)
    have e3 : (j : Int) * (u * k + v * g) = j * (u * k) + j * (v * g) := Int.mul_add ..
    have e4 : (j : Int) * (-(u * k + v * g)) = -(j * (u * k) + j * (v * g)) := by rw [Int.mul_neg, e3]
    have e5 : (n : Int) ≤ v * n := by
      have := Int.mul_le_mul_of_nonneg_right (show (1 : Int) ≤ v by omega) (show (0 : Int) ≤ n by omega)
      omega
    rw [e3, e4]
    omega
  have a1 := bound_zero (fun j => (key j).1)
  have a2 := bound_zero (fun j => (key j).2)
  omega
end Dy
set_option Elab.async false
set_option linter.all false
namespace Dy
/-- a list of days that makes a rule -/
structure Gd (ds : List Int) : Prop where
  pos : 0 < ds.length
  asc : ∀ i, i + 1 < ds.length → ds.getD i 0 ≤ ds.getD (i + 1) 0
  fin : ds.getD (ds.length - 1) 0 ≤ ds.getD 0 0 + ds.length
theorem faultF_none {ds : List Int} : ∀ (m i : Nat), faultF ds m i = none ↔ ∀ k, i ≤ k → k < i + m → ¬ ds.getD k 0 < ds.getD (k - 1) 0
  | 0, i => ⟨fun _ k h1 h2 => by omega, fun _ => rfl⟩
  | m + 1, i => by
    have e : faultF ds (m + 1) i = if ds.getD i 0 < ds.getD (i - 1) 0 then some i else faultF ds m (i + 1) := rfl
    rw [e]
    by_cases c : ds.getD i 0 < ds.getD (i - 1) 0
    · rw [if_pos c]
      exact ⟨(fun z => by cases z), fun z => absurd c (z i (Nat.le_refl _) (by omega))⟩
    · rw [if_neg c, faultF_none m (i + 1)]
      constructor
      · intro z k h1 h2
        by_cases d : k = i
        · rw [d]
          exact c
        · exact z k (by omega) (by omega)
      · intro z k h1 h2
        exact z k (by omega) (by omega)
theorem Gd.fault {ds : List Int} (g : Gd ds) : Dy.fault ds = none := by
  have h : faultF ds (ds.length - 1) 1 = none := (faultF_none _ _).mpr fun k h1 h2 => by
    have := g.asc (k - 1) (by omega)
    rw [show k - 1 + 1 = k by omega] at this
    omega
  unfold Dy.fault
  rw [h]
  dsimp only
  rw [if_neg]
  have h1 := g.pos
  have h2 := g.fin
  omega
theorem fault_gd {ds : List Int} (h : fault ds = none) : Gd ds := by
  unfold fault at h
  cases e : faultF ds (ds.length - 1) 1 with
  | some i =>
    rw [e] at h
    cases h
  | none =>
    rw [e] at h
    dsimp only at h
    have e := (faultF_none _ _).mp e
    by_cases c : ds.length = 0 ∨ ds.getD 0 0 + ds.length < ds.getD (ds.length - 1) 0
    · rw [if_pos c] at h
      cases h
    · refine ⟨by omega, fun i hi => ?_, by omega⟩
      have := e (i + 1) (by omega) (by omega)
      rw [show i + 1 - 1 = i by omega] at this
      omega
theorem Gd.of {F : Int → Int} {es : List Int} (o : Of F es) (m : Mon F) : Gd es := by
  have hp := o.pos
  refine ⟨hp, fun i hi => ?_, ?_⟩
  · rw [o.at_ i (by omega), o.at_ (i + 1) hi]
    exact m i
  · rw [o.at_ 0 hp, o.at_ _ (show es.length - 1 < es.length by omega)]
    have h1 := m.le (show ((es.length - 1 : Nat) : Int) ≤ 0 + es.length by omega)
    have h2 := o.per 0
    rw [h2] at h1
    exact h1
theorem Mon.dv {ds : List Int} (g : Gd ds) : Mon (Dy.dv ds) := fun d => by
  have := g.asc
  have hp := g.pos
  have hn : 0 < (ds.length : Int) := by omega
  have h1 := Int.emod_nonneg d (show (ds.length : Int) ≠ 0 by omega)
  have h2 := Int.emod_lt_of_pos d hn
  have h3 := Int.emod_add_mul_ediv d (ds.length : Int)
  by_cases c : d % (ds.length : Int) + 1 < ds.length
  · have e1 : (d + 1) % (ds.length : Int) = d % (ds.length : Int) + 1 := by
      rw [Int.add_emod, Int.emod_eq_of_lt (a := 1) (by omega) (by omega), Int.emod_eq_of_lt (by omega) c]
    have e2 : (d + 1) / (ds.length : Int) = d / (ds.length : Int) := by
      have h4 := Int.emod_add_mul_ediv (d + 1) (ds.length : Int)
      rw [e1] at h4
      have h5 : (ds.length : Int) * ((d + 1) / (ds.length : Int)) = (ds.length : Int) * (d / (ds.length : Int)) := by omega
      exact Int.eq_of_mul_eq_mul_left (by omega) h5
    unfold Dy.dv
    rw [e1, e2]
    have := g.asc (d % (ds.length : Int)).toNat (by omega)
    rw [show (d % (ds.length : Int) + 1).toNat = (d % (ds.length : Int)).toNat + 1 by omega]
    omega
  · have e0 : d % (ds.length : Int) = ds.length - 1 := by omega
    have hper := (of_dv hp).per
    have e1 : d + 1 = 0 + (d / (ds.length : Int) + 1) * (ds.length : Int) := by
      rw [Int.add_mul, Int.one_mul, Int.mul_comm (d / _)]
      omega
    have e2 := hper.imul (d / (ds.length : Int) + 1) 0
    rw [← e1] at e2
    have e3 : Dy.dv ds 0 = ds.getD 0 0 := ((of_dv hp).at_ 0 hp).symm
    rw [e2, e3]
    unfold Dy.dv
    rw [e0, show ((ds.length : Int) - 1).toNat = ds.length - 1 by omega]
    have := g.fin
    rw [Int.add_mul, Int.one_mul, Int.mul_comm (ds.length : Int)]
    omega
theorem Gd.near {ds : List Int} (g : Gd ds) : ∀ i, i < ds.length → ds.getD 0 0 ≤ ds.getD i 0 ∧ ds.getD i 0 ≤ ds.getD 0 0 + ds.length := by
  have up : ∀ i j, i + j < ds.length → ds.getD i 0 ≤ ds.getD (i + j) 0 := by
    intro i j
    induction j with
    | zero => intro _; exact Int.le_refl _
    | succ j ih =>
      intro h
      have h1 := ih (by omega)
      have h2 := g.asc (i + j) (by omega)
      rw [show i + (j + 1) = i + j + 1 by omega]
      omega
  intro i hi
  have h1 := up 0 i (by omega)
  have h2 := up i (ds.length - 1 - i) (by omega)
  rw [show i + (ds.length - 1 - i) = ds.length - 1 by omega] at h2
  rw [Nat.zero_add] at h1
  have := g.fin
  omega
theorem it_near {F : Int → Int} {B : Nat} (h : ∀ d, (F d - d).natAbs ≤ B) : ∀ (k : Nat) (d : Int), (it F k d - d).natAbs ≤ k * B
  | 0, d => by
    show (d - d).natAbs ≤ _
    rw [Int.sub_self]
    exact Nat.zero_le _
  | k + 1, d => by
    have h1 := it_near h k d
    have h2 := h (it F k d)
    have e : (k + 1) * B = k * B + B := by rw [Nat.add_mul, Nat.one_mul]
    rw [e]
    show (F (it F k d) - d).natAbs ≤ _
    generalize k * B = z at *
    omega
theorem dv_near {ds : List Int} {B : Nat} (hp : 0 < ds.length) (h : ∀ i, i < ds.length → (ds.getD i 0).natAbs ≤ B) (d : Int) : (dv ds d - d).natAbs ≤ B + ds.length := by
  have hn : 0 < (ds.length : Int) := by omega
  have h1 := Int.emod_nonneg d (show (ds.length : Int) ≠ 0 by omega)
  have h2 := Int.emod_lt_of_pos d hn
  have h3 := Int.emod_add_mul_ediv d (ds.length : Int)
  have h4 := h (d % (ds.length : Int)).toNat (by omega)
  unfold Dy.dv
  generalize (ds.length : Int) * (d / (ds.length : Int)) = y at *
  generalize ds.getD (d % (ds.length : Int)).toNat 0 = x at *
  omega
/-- from a repetition of rests the end is found at once -/
theorem it_jump {F : Int → Int} {n u k c : Nat} {d : Int} (h : Per F (n : Int)) (huk : u < k) (hkc : k ≤ c) (hr : it F u d % (n : Int) = it F k d % (n : Int)) : it F c d = it F ((c - k) % (k - u)) (it F k d + (it F k d - it F u d) * (((c - k) / (k - u) : Nat) : Int)) := by
  have r : Rg F n (it F u d) (k - u) (it F k d - it F u d) := by
    refine ⟨?_, ?_⟩
    · rw [← it_add, show u + (k - u) = k by omega]
      omega
    · rw [Int.sub_emod, hr, Int.sub_self]
      rfl
  have e1 := r.many h ((c - k) / (k - u) + 1)
  have e2 : c = u + ((c - k) / (k - u) + 1) * (k - u) + (c - k) % (k - u) := by
    have := Nat.div_add_mod (c - k) (k - u)
    have e3 : ((c - k) / (k - u) + 1) * (k - u) = (k - u) * ((c - k) / (k - u)) + (k - u) := by rw [Nat.add_mul, Nat.one_mul, Nat.mul_comm]
    omega
  have e4 : it F c d = it F ((c - k) % (k - u)) (it F (((c - k) / (k - u) + 1) * (k - u)) (it F u d)) := by
    rw [← it_add, ← it_add]
    congr 1
    omega
  rw [e4, e1]
  congr 1
  rw [Int.natCast_add, Int.add_mul, Int.mul_comm (((c - k) / (k - u) : Nat) : Int)]
  generalize (it F k d - it F u d) * (((c - k) / (k - u) : Nat) : Int) = z
  omega
theorem natAbs_two {x : Int} {B : Nat} (h : x.natAbs ≤ B) : -(B : Int) ≤ x ∧ x ≤ B := by omega
end Dy
set_option Elab.async false
set_option linter.all false
set_option maxRecDepth 100000
set_option maxHeartbeats 4000000
namespace Z
open PySem PySem.Spec PyProof.Rows L2
/-! ### comprehensions that give ints, over a list of ints and over a range -/
theorem lc_ofs {K : PySem.W.Frag} {J : It} {D : Addr} {n : Nat} {H0 : Hp} {i : Nat} {te : TE} {vs : List Nat} {σ : L2.St} {Qd : Hp → Prop} (g : Nat → Int) (xv : Nat → V) (hn : n ≤ 1000000) (nD : H0 D = none)
    (hgo : ∀ k H1, k < n → Same H0 H1 → J.go k H1) (hst : ∀ H1, Same H0 H1 → J.stop n H1) (hy : ∀ k H1 x H2, k < n → Same H0 H1 → J.yld k H1 x H2 → H2 = H1 ∧ x = xv k)
    (hw : ∀ k, wipe ((wipe σ vs).set i (some (xv k))) vs = wipe σ vs)
    (ht : ∀ k H1 (Q : VK), k < n → Same H0 H1 → (∀ H2, Same H1 H2 → Q (.int (g k)) H2) → te ((wipe σ vs).set i (some (xv k))) H1 Q)
    (hd : ∀ H1, Same H0 H1 → H1 D = some (.lst (((List.range n).map g).map V.int)) → Qd H1) : lcW J (gName i) tYes te vs σ D Qd H0 := by
  refine lc_gen (n := n) (fun k H1 => Same H0 H1 ∧ H1 D = some (.lst (((List.range k).map g).map V.int))) ⟨same_new nD, upd_same⟩ (fun k H1 hk p => hgo k H1 hk p.1) (fun H1 p => hst H1 p.1) ?_ (fun H1 p => hd H1 p.1 p.2)
  rintro k H1 x H2 hk ⟨s, e⟩ y
  obtain ⟨rfl, rfl⟩ := hy k H1 x H2 hk s y
  refine ⟨hw k, ?_⟩
  refine ht k _ _ hk s (fun H3 s3 => ⟨_, s3 _ _ e, ?_, Z.Same.mut (s.trans s3) nD, ?_⟩)
  · rw [List.length_map, List.length_map, List.length_range]
    exact Nat.lt_of_lt_of_le hk (Nat.le_trans hn (by decide))
  · rw [upd_same, List.range_succ, List.map_append, List.map_append]
    rfl
theorem lc_rng {K : PySem.W.Frag} {lo : Int} {D : Addr} {n : Nat} {H0 : Hp} {i : Nat} {te : TE} {vs : List Nat} {σ : L2.St} {Qd : Hp → Prop} (g : Nat → Int) (hn : n ≤ 1000000) (nD : H0 D = none) (hw : ∀ k : Nat, wipe ((wipe σ vs).set i (some (.int (lo + k)))) vs = wipe σ vs)
    (ht : ∀ (k : Nat) H1 (Q : VK), k < n → Same H0 H1 → (∀ H2, Same H1 H2 → Q (.int (g k)) H2) → te ((wipe σ vs).set i (some (.int (lo + k)))) H1 Q)
    (hd : ∀ H1, Same H0 H1 → H1 D = some (.lst (((List.range n).map g).map V.int)) → Qd H1) : lcW (Itr lo n) (gName i) tYes te vs σ D Qd H0 :=
  lc_ofs (K := K) g (fun k => .int (lo + k)) hn nD (fun k H1 hk _ => hk) (fun H1 _ => Nat.le_refl _) (fun k H1 x H2 _ _ y => y) hw ht hd
theorem lc_lst {K : PySem.W.Frag} {a D : Addr} {xs : List Int} {H0 : Hp} {i : Nat} {te : TE} {vs : List Nat} {σ : L2.St} {Qd : Hp → Prop} (hS : SqL K H0 a (xs.map V.int)) (g : Int → Int) (hn : xs.length ≤ 1000000) (nD : H0 D = none) (hw : ∀ x : Int, wipe ((wipe σ vs).set i (some (.int x))) vs = wipe σ vs)
    (ht : ∀ x H1 (Q : VK), x ∈ xs → Same H0 H1 → (∀ H2, Same H1 H2 → Q (.int (g x)) H2) → te ((wipe σ vs).set i (some (.int x))) H1 Q)
    (hd : ∀ H1, Same H0 H1 → H1 D = some (.lst ((xs.map g).map V.int)) → Qd H1) : lcW (Itl K a) (gName i) tYes te vs σ D Qd H0 := by
  have ex : ∀ k, k < xs.length → (xs.map V.int)[k]? = some (.int (xs.getD k 0)) := fun k hk => by
    rw [List.getElem?_map, List.getD_eq_getElem?_getD, List.getElem?_eq_getElem hk]
    rfl
  refine lc_ofs (K := K) (n := xs.length) (fun k => g (xs.getD k 0)) (fun k => .int (xs.getD k 0)) hn nD (fun k H1 hk s => ⟨_, _, s.seq hS, ex k hk⟩) (fun H1 s => ⟨_, s.seq hS, by rw [List.length_map]; exact Nat.le_refl _⟩) (fun k H1 x H2 hk s y => ⟨y.1, Option.some.inj ((y.2 _ (s.seq hS)).symm.trans (ex k hk))⟩) (fun k => hw _) (fun k H1 Q hk s q => ht _ H1 Q ?_ s q) (fun H1 s e => hd H1 s ?_)
  · rw [List.getD_eq_getElem?_getD, List.getElem?_eq_getElem hk]
    exact List.getElem_mem hk
  · rw [e]
    congr 2
    congr 1
    apply List.ext_getElem
    · rw [List.length_map, List.length_map, List.length_range]
    · intro k h1 h2
      rw [List.length_map] at h2
      rw [List.getElem_map, List.getElem_map, List.getElem_range, List.getD_eq_getElem?_getD, List.getElem?_eq_getElem h2]
      rfl
/-- for x in xs, ints -/
theorem for_lst {K : PySem.W.Frag} {a : Addr} {xs : List Int} {H0 H : Hp} {i : Nat} {tb : TS} {D : Ends} {σ : L2.St} (hS : SqL K H0 a (xs.map V.int)) (Pv : Nat → L2.St → Hp → Prop) (h0 : Pv 0 σ H) (hq : ∀ k σ H1, Pv k σ H1 → Same H0 H1)
    (hs : ∀ (k : Nat) (x : Int) (σ : L2.St) (H1 : Hp), xs[k]? = some x → Pv k σ H1 → tb { D with nx := Pv (k + 1), ct := Pv (k + 1), bk := D.nx } (σ.set i (some (.int x))) H1)
    (hd : ∀ σ H1, Pv xs.length σ H1 → D.nx σ H1) : forW (Itl K a) (gName i) tb D σ H := by
  have ex : ∀ k, k < xs.length → (xs.map V.int)[k]? = some (.int (xs.getD k 0)) := fun k hk => by
    rw [List.getElem?_map, List.getD_eq_getElem?_getD, List.getElem?_eq_getElem hk]
    rfl
  refine for_gen (n := xs.length) Pv h0 (fun k σ H1 hk p => ⟨_, _, (hq k σ H1 p).seq hS, ex k hk⟩) (fun σ H1 p => ⟨_, (hq _ σ H1 p).seq hS, by rw [List.length_map]; exact Nat.le_refl _⟩) ?_ hd
  intro k σ H1 x H2 hk p y
  obtain ⟨rfl, e⟩ := y
  have e2 := Option.some.inj ((e _ ((hq k σ _ p).seq hS)).symm.trans (ex k hk))
  subst e2
  refine hs k _ σ _ ?_ p
  rw [List.getD_eq_getElem?_getD, List.getElem?_eq_getElem hk]
  rfl
/-- for x in xs, any values -/
theorem for_vs {K : PySem.W.Frag} {a : Addr} {xs : List V} {H0 H : Hp} {i : Nat} {tb : TS} {D : Ends} {σ : L2.St} (hS : SqL K H0 a xs) (Pv : Nat → L2.St → Hp → Prop) (h0 : Pv 0 σ H) (hq : ∀ k σ H1, Pv k σ H1 → Same H0 H1)
    (hs : ∀ (k : Nat) (x : V) (σ : L2.St) (H1 : Hp), xs[k]? = some x → Pv k σ H1 → tb { D with nx := Pv (k + 1), ct := Pv (k + 1), bk := D.nx } (σ.set i (some x)) H1)
    (hd : ∀ σ H1, Pv xs.length σ H1 → D.nx σ H1) : forW (Itl K a) (gName i) tb D σ H := by
  refine for_gen (n := xs.length) Pv h0 (fun k σ H1 hk p => ⟨_, _, (hq k σ H1 p).seq hS, List.getElem?_eq_getElem hk⟩) (fun σ H1 p => ⟨_, (hq _ σ H1 p).seq hS, Nat.le_refl _⟩) ?_ hd
  intro k σ H1 x H2 hk p y
  obtain ⟨rfl, e⟩ := y
  exact hs k x σ _ (e _ ((hq k σ _ p).seq hS)) p
theorem pe_fld_K {X : Cx} {K : PySem.W.Frag} {e : Expr} {f : Str} {pos : Pos} {ta : TE} (h : X.K = K) (he : PE X e ta) (hb : attributeBase e f X.env (eval e X.env) = eval e X.env) : PE X (.Attribute e f pos) (tFld K ta f) := by
  subst h
  exact pe_fld he hb
/-! ### reads -/
theorem at_nat {xs : List Int} {i : Int} (h0 : 0 ≤ i) (h1 : i < xs.length) : atI (xs.map V.int) i = some (.int (xs.getD i.toNat 0)) := by
  have hk : i.toNat < xs.length := by omega
  rw [show i = ((i.toNat : Nat) : Int) by omega, List.getD_eq_getElem?_getD, Int.toNat_natCast, List.getElem?_eq_getElem hk]
  exact at_map (List.getElem?_eq_getElem hk)
theorem rd_at {K : PySem.W.Frag} {H : Hp} {a : Addr} {xs : List Int} {i : Int} {R : V → Prop} (h : SqL K H a (xs.map V.int)) (h0 : 0 ≤ i) (h1 : i < xs.length) (q : R (.int (xs.getD i.toNat 0))) : ∃ a' ys j v, V.ref a = .ref a' ∧ V.int i = .int j ∧ SqL K H a' ys ∧ atI ys j = some v ∧ R v := ⟨a, _, i, _, rfl, rfl, h, at_nat h0 h1, q⟩
theorem rd_atT {K : PySem.W.Frag} {H : Hp} {a : Addr} {xs : List Int} {i : Int} {R : V → Prop} (h : SqT K H a (xs.map V.int)) (h0 : 0 ≤ i) (h1 : i < xs.length) (q : R (.int (xs.getD i.toNat 0))) : ∃ a' ys j v, V.ref a = .ref a' ∧ V.int i = .int j ∧ SqT K H a' ys ∧ atI ys j = some v ∧ R v := ⟨a, _, i, _, rfl, rfl, h, at_nat h0 h1, q⟩
end Z
set_option pp.maxSteps 700
set_option Elab.async false
set_option linter.all false
set_option maxRecDepth 100000
set_option maxHeartbeats 4000000
namespace Z
open Dy
open PySem PySem.Spec PyProof.Rows L2
open C8 (pss_cut tCut)
local macro_rules | `(tactic| walk_at "num") => `(tactic| first | rfl | omega | decide | exact Nat.le_of_lt (small1000 (by simp)) | exact ⟨by omega, by omega⟩ | exact ⟨by omega, by omega, by omega⟩ | exact ⟨by decide, by decide, by decide⟩ | exact Or.inl ⟨by omega, by omega⟩ | exact Or.inr ⟨by omega, by omega⟩)
local macro_rules | `(tactic| walk_at "go") => `(tactic| repeat (first | refine ⟨_, rfl, ?_⟩ | refine ⟨_, _, rfl, rfl, ?_⟩ | refine ⟨_, _, rfl, ?_⟩ | (refine ⟨_, _, rfl, rfl, ?_, ?_⟩; focus walk_at "num") | refine Or.inl ⟨_, rfl, ?_⟩ | refine ⟨_, _, _, _, rfl, rfl, (by assumption), (by rfl), ?_⟩ | refine ⟨_, _, _, _, _, rfl, (by assumption), (by assumption), (by assumption), (by rfl), ?_⟩ | refine ⟨rfl, ?_⟩ | (refine And.intro ?_ ?_; focus walk_at "num")))
abbrev s_check_days : Stmt := topS 8
abbrev N_check_days : List Str := ["days", "at"]
abbrev P_check_days : List Str := ["days"]
theorem sc_check_days : FnScope N_check_days P_check_days (defScope s_check_days) := ⟨rfl, rfl, rfl, by decide +kernel, rfl, by decide +kernel, by decide +kernel⟩
abbrev s_least_period : Stmt := topS 9
abbrev N_least_period : List Str := ["days", "many", "size", "at"]
abbrev P_least_period : List Str := ["days"]
theorem sc_least_period : FnScope N_least_period P_least_period (defScope s_least_period) := ⟨rfl, rfl, rfl, by decide +kernel, rfl, by decide +kernel, by decide +kernel⟩
abbrev s_day_at : Stmt := topS 10
abbrev N_day_at : List Str := ["days", "day", "begin"]
abbrev P_day_at : List Str := ["days", "day"]
theorem sc_day_at : FnScope N_day_at P_day_at (defScope s_day_at) := ⟨rfl, rfl, rfl, by decide +kernel, rfl, by decide +kernel, by decide +kernel⟩
abbrev s_DayRule___init__ : Stmt := inClass (topS 14) 0
abbrev N_DayRule___init__ : List Str := ["self", "days"]
abbrev P_DayRule___init__ : List Str := ["self", "days"]
theorem sc_DayRule___init__ : FnScope N_DayRule___init__ P_DayRule___init__ (defScope s_DayRule___init__) := ⟨rfl, rfl, rfl, by decide +kernel, rfl, by decide +kernel, by decide +kernel⟩
abbrev s_DayRule_period : Stmt := inClass (topS 14) 1
abbrev N_DayRule_period : List Str := ["self"]
abbrev P_DayRule_period : List Str := ["self"]
theorem sc_DayRule_period : FnScope N_DayRule_period P_DayRule_period (defScope s_DayRule_period) := ⟨rfl, rfl, rfl, by decide +kernel, rfl, by decide +kernel, by decide +kernel⟩
abbrev s_DayRule___call__ : Stmt := inClass (topS 14) 2
abbrev N_DayRule___call__ : List Str := ["self", "day"]
abbrev P_DayRule___call__ : List Str := ["self", "day"]
theorem sc_DayRule___call__ : FnScope N_DayRule___call__ P_DayRule___call__ (defScope s_DayRule___call__) := ⟨rfl, rfl, rfl, by decide +kernel, rfl, by decide +kernel, by decide +kernel⟩
abbrev s_DayRule___eq__ : Stmt := inClass (topS 14) 3
abbrev N_DayRule___eq__ : List Str := ["self", "other"]
abbrev P_DayRule___eq__ : List Str := ["self", "other"]
theorem sc_DayRule___eq__ : FnScope N_DayRule___eq__ P_DayRule___eq__ (defScope s_DayRule___eq__) := ⟨rfl, rfl, rfl, by decide +kernel, rfl, by decide +kernel, by decide +kernel⟩
abbrev FnM (K : PySem.W.Frag) (x q : Str) (st : Stmt) (f : Addr) (fd : FuncData) : Prop := FunD K x q (defArgs st) (defBody st) (defScope st) [] [] f fd
theorem relv_ref {a : Addr} : L2.RelV (.ref a) (.ref a) := rfl
theorem SqK.or {b : Bool} {K : PySem.W.Frag} {H : Hp} {a : Addr} {xs : List V} (h : SqK b K H a xs) : SqL K H a xs ∨ SqT K H a xs := by
  cases b
  · exact .inr h
  · exact .inl h
/-- an if that only guards, and what it tells -/
theorem cut_fact {p : Prop} {t u : TS} {D : Ends} {σ : L2.St} {H : Hp} (h : t { D with nx := fun σ' H' => σ' = σ ∧ H' = H ∧ p } σ H) (h2 : p → u D σ H) : C8.tCut t u D σ H := ⟨_, h, fun σ' H' z => by
  obtain ⟨rfl, rfl, hp⟩ := z
  exact h2 hp⟩
/-- days[i], a list or a tuple of ints -/
theorem ixd {b : Bool} {K : PySem.W.Frag} {H : Hp} {a : Addr} {ds : List Int} {i : Int} {j : Nat} {Q : VK} (h : SqK b K H a (ds.map V.int)) (hj : j < ds.length) (hi : i = (j : Int)) (q : Q (.int (ds.getD j 0)) H) : rIx K (.ref a) (.int i) H Q := by
  have e : atI (ds.map V.int) i = some (.int (ds.getD j 0)) := by
    rw [hi, List.getD_eq_getElem?_getD, List.getElem?_eq_getElem hj]
    exact at_map (List.getElem?_eq_getElem hj)
  cases b
  · exact .inr (.inl ⟨a, _, _, _, rfl, rfl, h, e, q⟩)
  · exact .inl ⟨a, _, _, _, rfl, rfl, h, e, q⟩
theorem ixl {b : Bool} {K : PySem.W.Frag} {H : Hp} {a : Addr} {ds : List Int} {Q : VK} (h : SqK b K H a (ds.map V.int)) (hj : 0 < ds.length) (q : Q (.int (ds.getD (ds.length - 1) 0)) H) : rIx K (.ref a) (.int (-1)) H Q := by
  have e : atI (ds.map V.int) (-1) = some (.int (ds.getD (ds.length - 1) 0)) := by
    rcases List.eq_nil_or_concat ds with rfl | ⟨r, x, e⟩
    · cases hj
    · have e : ds = r ++ [x] := by rw [e]; simp
      subst e
      rw [List.map_append]
      rw [show ((r ++ [x]).getD ((r ++ [x]).length - 1) 0) = x by simp [List.getD_eq_getElem?_getD]]
      exact atI_last _ _
  cases b
  · exact .inr (.inl ⟨a, _, _, _, rfl, rfl, h, e, q⟩)
  · exact .inl ⟨a, _, _, _, rfl, rfl, h, e, q⟩
section
variable {P : Program} {w : World} {K : PySem.W.Frag} {mg : Str → Option Value} {base : Heap} {f C CD : Addr} {fd : FuncData}
/-! ### check_days -/
def spCheck (CD : Addr) (K : PySem.W.Frag) : Sp := fun vs H Q E => ∃ (b : Bool) (a : Addr) (ds : List Int), vs = [.ref a] ∧ SqK b K H a (ds.map V.int) ∧ ds.length ≤ 100000 ∧ (fault ds = none → Q .non H) ∧ ∀ i, fault ds = some i → ∀ d, H d = none → E (.ref CD) (some d) (upd H d (.xd [("at", .int (i : Int))]))
theorem ok_check_days (F : FnP K "check_days" s_check_days f fd) (m_len : mg "len" = none) (m_range : mg "range" = none) (x_BadDays : Exn P w K mg base "BadDays" CD "at") : FnOk P w K mg base (L2N.CX P w) 3 f fd P_check_days (spCheck CD K) := by
  refine F.ok sc_check_days (fun vs H Q E h => ?_) (fun cdv A outer s H vs Q E hr h => ?_)
  · obtain ⟨b, a, ds, rfl, _⟩ := h
    rfl
  · obtain ⟨b, a, ds, rfl, hS, hl, q, qe⟩ := h
    have tk := takes_fn (P := P) (w := w) (K := K) (mg := mg) (base := base) (N := N_check_days) (qual := "check_days") (scope := defScope s_check_days) (f := f) (cd := cdv) (A := A) (outer := outer) (s := s) (H := H) (E := E)
    refine ⟨_, (pss_cut (ps_for (passes_of rfl) rfl (pi_range2 (by rfl) m_range (pa_cons pe_int (pa_cons (pe_callB call_len_seq (by rfl) m_len PySem.boot_len (pa_cons (pv 0) pa_nil)) pa_nil))) (pg_name (i := 1) sc_check_days.nd rfl (by first | exact .inl rfl | exact .inr rfl))
        (pss_one (ps_if (pt_cmpR op_lt (pe_ix ix_seq (pv 0) (pv 1) (fun _ _ => rfl)) (pe_ix ix_seq (pv 0) (pe_op op_sub (pv 1) pe_int) (fun _ _ => rfl)) (nomark _)) (pss_one (ps_exn rfl tk x_BadDays hr (by decide) (by rfl) (pa_cons (pv 1) pa_nil))) pss_nil)))
      (pss_one (ps_if (PW.pt (pw_or (pt_cmpR op_eq (pe_callB call_len_seq (by rfl) m_len PySem.boot_len (pa_cons (pv 0) pa_nil)) pe_int (nomark _)) (pw_or1 (pt_cmpR op_gt (pe_ix ix_seq (pv 0) (pe_un un_neg pe_int) (fun _ _ => rfl)) (pe_op op_add (pe_ix ix_seq (pv 0) pe_int (fun _ _ => rfl)) (pe_callB call_len_seq (by rfl) m_len PySem.boot_len (pa_cons (pv 0) pa_nil))) (nomark _))))) (pss_one (ps_exn rfl tk x_BadDays hr (by decide) (by rfl) (pa_cons pe_int pa_nil))) pss_nil))), ?_⟩
    refine ⟨fun σ' H' => H' = H ∧ faultF ds (ds.length - 1) 1 = none ∧ ∃ v1 : Option V, σ' = [some (.ref a), v1], ?_, ?_⟩
    · walk_at "go"
      refine ⟨a, _, rfl, hS.or, ?_⟩
      rw [List.length_map]
      walk_at "go"
      refine for_gen (n := ds.length - 1) (fun i σ H1 => H1 = H ∧ faultF ds (ds.length - 1) 1 = faultF ds (ds.length - 1 - i) (1 + i) ∧ ∃ v1 : Option V, σ = [some (.ref a), v1]) ⟨rfl, rfl, none, rfl⟩ ?_ ?_ ?_ ?_
      · intro i σ H1 hi _
        show i < ((ds.length : Int) - 1).toNat
        omega
      · intro σ H1 _
        show ((ds.length : Int) - 1).toNat ≤ ds.length - 1
        omega
      · rintro i σ H1 x H' hi ⟨rfl, e, v1, rfl⟩ ⟨rfl, rfl⟩
        walk_at "go"
        refine ixd hS (j := 1 + i) (by omega) (by omega) ?_
        walk_at "go"
        refine ixd hS (j := i) (by omega) (by omega) ?_
        rw [show ds.length - 1 - i = (ds.length - 1 - (i + 1)) + 1 by omega] at e
        have e : faultF ds (ds.length - 1) 1 = if ds.getD (1 + i) 0 < ds.getD (1 + i - 1) 0 then some (1 + i) else faultF ds (ds.length - 1 - (i + 1)) (1 + i + 1) := e
        rw [show 1 + i - 1 = i by omega] at e
        walk_at "go"
        refine ite2 (fun c => ?_) (fun c => ?_)
        · have c := of_decide_eq_true c
          rw [if_pos c] at e
          walk_at "go"
          have hf : fault ds = some (1 + i) := by
            unfold fault
            rw [e]
          have z := qe _ hf
          rw [show ((1 + i : Nat) : Int) = 1 + (i : Int) by omega] at z
          exact mkx_of z
        · have c : ¬ ds.getD (1 + i) 0 < ds.getD i 0 := fun z => c (decide_eq_true z)
          rw [if_neg c] at e
          exact ⟨rfl, e, _, rfl⟩
      · rintro σ H1 ⟨rfl, e, v1, rfl⟩
        rw [Nat.sub_self] at e
        exact ⟨rfl, e, _, rfl⟩
    rintro σ' H1 ⟨e1, ef, v1, rfl⟩
    rw [e1]
    clear e1 H1
    have hf : fault ds = if ds.length = 0 ∨ ds.getD 0 0 + ds.length < ds.getD (ds.length - 1) 0 then some 0 else none := by
      unfold fault
      rw [ef]
    walk_at "go"
    refine ⟨a, _, rfl, hS.or, ?_⟩
    rw [List.length_map]
    walk_at "go"
    refine ite2 (fun c => ?_) (fun c => ?_)
    · have c : ds.length = 0 := by
        have := V.int.inj (of_decide_eq_true c)
        omega
      rw [if_pos (.inl c)] at hf
      walk_at "go"
      exact (mkx_of (qe _ hf)).2
    · have c : ¬ ds.length = 0 := fun z => c (decide_eq_true (by rw [z]; rfl))
      walk_at "go"
      refine ixl hS (by omega) ?_
      walk_at "go"
      refine ixd hS (j := 0) (by omega) rfl ?_
      walk_at "go"
      refine ⟨a, _, rfl, hS.or, ?_⟩
      rw [List.length_map]
      walk_at "go"
      refine ite2 (fun c2 => ?_) (fun c2 => ?_)
      · have c2 := of_decide_eq_true c2
        rw [if_pos (.inr c2)] at hf
        walk_at "go"
        exact (mkx_of (qe _ hf)).2
      · have c2 : ¬ ds.getD (ds.length - 1) 0 > ds.getD 0 0 + ds.length := fun z => c2 (decide_eq_true z)
        rw [if_neg (by omega)] at hf
        exact q hf
/-! ### day_at -/
def spDayAt (K : PySem.W.Frag) : Sp := fun vs H Q _ => ∃ (b : Bool) (a : Addr) (ds : List Int) (d : Int), vs = [.ref a, .int d] ∧ SqK b K H a (ds.map V.int) ∧ 0 < ds.length ∧ ds.length ≤ 100000 ∧ Q (.int (dv ds d)) H
theorem ok_day_at (F : FnP K "day_at" s_day_at f fd) (m_len : mg "len" = none) : FnOk P w K mg base CX0 1 f fd P_day_at (spDayAt K) := by
  refine F.ok sc_day_at (fun vs H Q E h => ?_) (fun cdv A outer s H vs Q E hr h => ?_)
  · obtain ⟨b, a, ds, d, rfl, _⟩ := h
    rfl
  · obtain ⟨b, a, ds, d, rfl, hS, hp, hl, q⟩ := h
    refine ⟨_, PSs.nox (pss_cons (ps_set (i := 2) sc_day_at.nd rfl (by first | exact .inl rfl | exact .inr rfl) (pe_op op_mul (pe_callB call_len_seq (by rfl) m_len PySem.boot_len (pa_cons (pv 0) pa_nil)) (pe_op op_fdiv (pv 1) (pe_callB call_len_seq (by rfl) m_len PySem.boot_len (pa_cons (pv 0) pa_nil)))))
      (pss_one (ps_ret (pe_op op_add (pe_ix ix_seq (pv 0) (pe_op op_sub (pv 1) (pv 2)) (fun _ _ => rfl)) (pv 2))))), ?_⟩
    walk_at "go"
    refine ⟨a, _, rfl, hS.or, ?_⟩
    rw [List.length_map]
    walk_at "go"
    refine ⟨a, _, rfl, hS.or, ?_⟩
    rw [List.length_map]
    walk_at "go"
    have hn : 0 < (ds.length : Int) := by omega
    have h1 := Int.emod_nonneg d (show (ds.length : Int) ≠ 0 by omega)
    have h2 := Int.emod_lt_of_pos d hn
    refine ixd hS (j := (d % (ds.length : Int)).toNat) (by omega) ?_ ?_
    · rw [Int.toNat_of_nonneg h1, Int.emod_def]
    walk_at "go"
    exact q
/-! ### least_period -/
def spLeast (K : PySem.W.Frag) : Sp := fun vs H Q _ => ∃ (b : Bool) (a : Addr) (ds : List Int), vs = [.ref a] ∧ SqK b K H a (ds.map V.int) ∧ 0 < ds.length ∧ ds.length ≤ 100000 ∧ ∀ (p : Nat) H', Same H H' → Lp (dv ds) p → Q (.int (p : Int)) H'
theorem ok_least_period (F : FnP K "least_period" s_least_period f fd) (m_len : mg "len" = none) (m_range : mg "range" = none) (m_all : mg "all" = none) : FnOk P w K mg base CX0 1 f fd P_least_period (spLeast K) := by
  refine F.ok sc_least_period (fun vs H Q E h => ?_) (fun cdv A outer s H vs Q E hr h => ?_)
  · obtain ⟨b, a, ds, rfl, _⟩ := h
    rfl
  · obtain ⟨b, a, ds, rfl, hS, hp, hl, q⟩ := h
    refine ⟨_, PSs.nox (pss_cons (ps_set (i := 1) sc_least_period.nd rfl (by first | exact .inl rfl | exact .inr rfl) (pe_callB call_len_seq (by rfl) m_len PySem.boot_len (pa_cons (pv 0) pa_nil)))
      (pss_cons (ps_for PassesOwn.never rfl (pi_range2 (by rfl) m_range (pa_cons pe_int (pa_cons (pv 1) pa_nil))) (pg_name (i := 2) sc_least_period.nd rfl (by first | exact .inl rfl | exact .inr rfl))
        (pss_one (ps_if (PW.pt (pw_and (pt_cmpR op_eq (pe_op op_mod (pv 1) (pv 2)) pe_int (nomark _)) (pw_and1 (pt_val (pe_callB (cr_all rfl) (by rfl) m_all (by decide +kernel) (pa_cons (pe_lc (own := [("at", 3)]) (g := (gName 3)) (tt := tYes) (by rfl) sc_least_period.nd (pi_range2 (by rfl) m_range (pa_cons (pv 2) (pa_cons (pv 1) pa_nil))) (blkOk_by (own := [("at", 3)]) (N := N_least_period) (sc := defScope s_least_period) (by decide +kernel)) (fun _ _ _ _ _ => (pg_name (i := 3) sc_least_period.nd rfl (by first | exact .inl rfl | exact .inr rfl))) (fun _ _ _ _ _ => pts_nil) (fun _ _ _ _ _ => (pe_cmpR op_eq (pe_ix (ix_seq_K (K := K) rfl) (pv 0) (pv 3) (fun _ _ => rfl)) (pe_op op_add (pe_ix (ix_seq_K (K := K) rfl) (pv 0) (pe_op op_sub (pv 3) (pv 2)) (fun _ _ => rfl)) (pv 2)) (nomark _)))) pa_nil)))))) (pss_one (ps_ret (pv 2))) pss_nil)))
      (pss_one (ps_ret (pv 1))))), ?_⟩
    walk_at "go"
    refine ⟨a, _, rfl, hS.or, ?_⟩
    rw [List.length_map]
    walk_at "go"
    have of := of_dv hp
    refine for_gen (n := ds.length - 1) (fun i σ H1 => Same H H1 ∧ (∀ k, 0 < k → k < 1 + i → ¬ Blk ds k) ∧ ∃ v2 v3 : Option V, σ = [some (.ref a), some (.int (ds.length : Int)), v2, v3]) ⟨Same.refl _, (fun k h1 h2 => by omega), none, none, rfl⟩ ?_ ?_ ?_ ?_
    · intro i σ H1 hi _
      show i < ((ds.length : Int) - 1).toNat
      omega
    · intro σ H1 _
      show ((ds.length : Int) - 1).toNat ≤ ds.length - 1
      omega
    · rintro i σ H1 x H' hi ⟨s1, hk, v2, v3, rfl⟩ ⟨rfl, rfl⟩
      have hS1 := Z.Same.sqK s1 hS
      have em : ((ds.length : Int) % (1 + (i : Int))) = ((ds.length % (1 + i) : Nat) : Int) := by
        rw [Int.natCast_emod, Int.natCast_add]
        rfl
      have go : ¬ Blk ds (1 + i) → ∀ k, 0 < k → k < 1 + (i + 1) → ¬ Blk ds k := fun z k h1 h2 => by
        by_cases c : k = 1 + i
        · rw [c]
          exact z
        · exact hk k h1 (by omega)
      walk_at "go"
      refine ite2 (fun c => ?_) (fun c => ?_)
      · have c : ds.length % (1 + i) = 0 := by
          have h := V.int.inj (of_decide_eq_true c)
          rw [em] at h
          omega
        walk_at "go"
        intro D nD
        have fB : ∀ k, ((List.range k).map fun t => decide (V.int (ds.getD (1 + i + t) 0) = V.int (ds.getD t 0 + (1 + (i : Int))))).length = k := fun k => by rw [List.length_map, List.length_range]
        refine lc_gen (n := ds.length - (1 + i)) (fun k H2 => Same H' H2 ∧ H2 D = some (.lst (((List.range k).map fun t => decide (V.int (ds.getD (1 + i + t) 0) = V.int (ds.getD t 0 + (1 + (i : Int))))).map V.bl))) ⟨same_new nD, upd_same⟩ ?_ ?_ ?_ ?_
        · intro k H2 hk2 _
          show k < ((ds.length : Int) - (1 + (i : Int))).toNat
          omega
        · intro H2 _
          show ((ds.length : Int) - (1 + (i : Int))).toNat ≤ ds.length - (1 + i)
          omega
        · rintro k H2 x H3 hk2 ⟨s2, eD⟩ ⟨rfl, rfl⟩
          have hS2 := Z.Same.sqK s2 hS1
          walk_at "go"
          refine ixd hS2 (j := 1 + i + k) (by omega) (by omega) ?_
          walk_at "go"
          refine ixd hS2 (j := k) (by omega) (by omega) ?_
          walk_at "go"
          refine ⟨_, eD, ?_, Z.Same.mut s2 nD, ?_⟩
          · rw [List.length_map, fB]
            exact Nat.lt_of_le_of_lt (show k ≤ 100000 by omega) (by decide)
          · rw [upd_same, List.range_succ, List.map_append, List.map_append]
            rfl
        rintro H2 ⟨s2, eD⟩
        walk_at "go"
        refine ⟨D, _, rfl, SqL.of eD, ?_⟩
        have eb : (((List.range (ds.length - (1 + i))).map fun t => decide (V.int (ds.getD (1 + i + t) 0) = V.int (ds.getD t 0 + (1 + (i : Int))))).all id) = true ↔ Blk ds (1 + i) := by
          rw [List.all_eq_true]
          constructor
          · intro h
            refine ⟨c, fun j h1 h2 => ?_⟩
            have := h _ (List.mem_map.mpr ⟨j - (1 + i), List.mem_range.mpr (by omega), rfl⟩)
            have := V.int.inj (of_decide_eq_true this)
            rw [show 1 + i + (j - (1 + i)) = j by omega] at this
            rw [this]
            congr 1
          · rintro ⟨_, h⟩ x hx
            obtain ⟨t, ht, rfl⟩ := List.mem_map.mp hx
            have ht := List.mem_range.mp ht
            have := h (1 + i + t) (by omega) (by omega)
            rw [show 1 + i + t - (1 + i) = t by omega] at this
            refine decide_eq_true ?_
            rw [this]
            congr 1
        walk_at "go"
        refine ite2 (fun c2 => ?_) (fun c2 => ?_)
        · have c2 := eb.mp c2
          walk_at "go"
          have z := q (1 + i) H2 (s1.trans s2) (first_lp (Blk ds) hp of.per (fun k h1 h2 => blk_per of h1 h2) (fun p l _ => lp_blk of l) (by omega) (by omega) hk (fun _ => c2))
          rw [show ((1 + i : Nat) : Int) = 1 + (i : Int) by omega] at z
          exact z
        · exact ⟨s1.trans s2, go (fun z => c2 (eb.mpr z)), _, _, rfl⟩
      · have c : ¬ ds.length % (1 + i) = 0 := fun z => c (decide_eq_true (show V.int ((ds.length : Int) % (1 + (i : Int))) = V.int 0 by rw [em, z]; rfl))
        exact ⟨s1, go (fun z => c z.1), _, _, rfl⟩
    · rintro σ H1 ⟨s1, hk, v2, v3, rfl⟩
      walk_at "go"
      refine q _ _ s1 (first_lp (Blk ds) hp of.per (fun k h1 h2 => blk_per of h1 h2) (fun p l _ => lp_blk of l) hp (Nat.le_refl _) (fun k h1 h2 => hk k h1 (by omega)) (fun z => by omega))
end
end Z
set_option pp.maxSteps 700
set_option Elab.async false
set_option linter.all false
set_option maxRecDepth 100000
set_option maxHeartbeats 4000000
namespace Z
open Dy
open PySem PySem.Spec PyProof.Rows L2
open C8 (pss_cut tCut)
local macro_rules | `(tactic| walk_at "num") => `(tactic| first | rfl | omega | decide | exact Nat.le_of_lt (small1000 (by simp)) | exact ⟨by omega, by omega⟩ | exact ⟨by omega, by omega, by omega⟩ | exact ⟨by decide, by decide, by decide⟩ | exact Or.inl ⟨by omega, by omega⟩ | exact Or.inr ⟨by omega, by omega⟩)
local macro_rules | `(tactic| walk_at "go") => `(tactic| repeat (first | refine ⟨_, rfl, ?_⟩ | refine ⟨_, _, rfl, rfl, ?_⟩ | refine ⟨_, _, rfl, ?_⟩ | (refine ⟨_, _, rfl, rfl, ?_, ?_⟩; focus walk_at "num") | refine Or.inl ⟨_, rfl, ?_⟩ | refine ⟨_, _, _, _, rfl, rfl, (by assumption), (by rfl), ?_⟩ | refine ⟨_, _, _, _, _, rfl, (by assumption), (by assumption), (by assumption), (by rfl), ?_⟩ | refine ⟨rfl, ?_⟩ | (refine And.intro ?_ ?_; focus walk_at "num")))
theorem sIx_hi {n p : Nat} (h : p ≤ n) : HT.sIx n n (some (p : Int)) = p := by
  rw [HT.sIx_nat]
  omega
theorem cut_take {ds : List Int} {p : Nat} (h : p ≤ ds.length) : cutV (ds.map V.int) none (some (p : Int)) = (ds.take p).map V.int := by
  unfold cutV
  rw [List.length_map, sIx_hi h]
  show ((ds.map V.int).drop 0).take (p - 0) = _
  rw [List.drop_zero, Nat.sub_zero, List.map_take]
def bO (b : Bool) (xs : List V) : HO := match b with
  | true => .lst xs
  | false => .tup xs
theorem bO_sq {b : Bool} {K : PySem.W.Frag} {H : Hp} {a : Addr} {xs : List V} (h : H a = some (bO b xs)) : SqK b K H a xs := by
  cases b
  · exact .inl (.inl h)
  · exact .inl (.inl h)
def RuleAt (C : Addr) (K : PySem.W.Frag) (H : Hp) (n : Addr) (ds : List Int) : Prop := ∃ dx t, H n = some (.ins C dx [("days", .ref t)]) ∧ H t = some (.tup (ds.map V.int))
theorem RuleAt.mono {C : Addr} {K : PySem.W.Frag} {H H' : Hp} {n : Addr} {ds : List Int} (s : Same H H') (h : RuleAt C K H n ds) : RuleAt C K H' n ds := by
  obtain ⟨dx, t, e, h2⟩ := h
  exact ⟨dx, t, s _ _ e, s _ _ h2⟩
theorem sqT_ins {K : PySem.W.Frag} {H H' : Hp} {n C dx a : Addr} {fs : List (Str × V)} {xs : List V} (s : SB n H H') (hn : H n = some (.ins C dx fs)) (h : SqT K H a xs) : SqT K H' a xs := by
  have ne : ∀ {o : HO}, H a = some o → (∀ C dx fs, o ≠ .ins C dx fs) → a ≠ n := fun e z w => by
    rw [w, hn] at e
    exact z _ _ _ (Option.some.inj e).symm
  rcases h with (h | ⟨o, h⟩) | h
  · exact .inl (.inl (s _ _ (ne h fun _ _ _ => nofun) h))
  · exact .inl (.inr ⟨o, s _ _ (ne h fun _ _ _ => nofun) h⟩)
  · exact .inr h
section
variable {P : Program} {w : World} {K : PySem.W.Frag} {mg : Str → Option Value} {base : Heap} {f C CD : Addr} {fd : FuncData}
def spInit (C CD : Addr) (K : PySem.W.Frag) : Sp := fun vs H Q E => ∃ (b : Bool) (n dx a : Addr) (ds : List Int), vs = [.ref n, .ref a] ∧ H n = some (.ins C dx []) ∧ H a = some (bO b (ds.map V.int)) ∧ ds.length ≤ 100000 ∧
  (fault ds = none → ∀ (p : Nat) H', SB n H H' → Lp (dv ds) p → RuleAt C K H' n (ds.take p) → Q .non H') ∧ ∀ i, fault ds = some i → ∀ d, H d = none → E (.ref CD) (some d) (upd H d (.xd [("at", .int (i : Int))]))
theorem fault_pos {ds : List Int} (h : fault ds = none) : 0 < ds.length := by
  cases ds with
  | nil => cases h
  | cons x r => exact Nat.succ_pos _
theorem ok_init (F : FnM K "__init__" "DayRule.__init__" s_DayRule___init__ f fd) (cls : Cls K C) (n_days : NoAttr K C "days") (m_tuple : mg "tuple" = none) (c_check_days : CalX P w K mg base 3 "check_days" (spCheck CD K)) (c_least_period : Cal P w K mg base 1 "least_period" (spLeast K)) : FnOk P w K mg base (L2N.CX P w) 4 f fd P_DayRule___init__ (spInit C CD K) := by
  refine F.ok sc_DayRule___init__ (fun vs H Q E h => ?_) (fun cdv A outer s H vs Q E hr h => ?_)
  · obtain ⟨b, n, dx, a, ds, rfl, _⟩ := h
    rfl
  · obtain ⟨b, n, dx, a, ds, rfl, hn, hA, hl, q, qe⟩ := h
    have hS : SqK b K H a (ds.map V.int) := bO_sq hA
    have tk := takes_fn (P := P) (w := w) (K := K) (mg := mg) (base := base) (N := N_DayRule___init__) (qual := "DayRule.__init__") (scope := defScope s_DayRule___init__) (f := f) (cd := cdv) (A := A) (outer := outer) (s := s) (H := H) (E := E)
    refine ⟨_, (pss_cons (ps_expr (pe_clE c_check_days (fun σ => L2N.passAt tk σ) hr (by decide) (by rfl) (pa_cons (pv 1) pa_nil)))
      (pss_one (ps_fld (pv 0) (pe_callTy call_tuple_of (by rfl) m_tuple (by decide +kernel) (pa_cons (pe_slice (sl_list.or sl_tupA) (pv 1) po_none (po_some (pe_cl c_least_period hr (by decide) (by rfl) (pa_cons (pv 1) pa_nil)))) pa_nil)) rfl))), ?_⟩
    walk_at "go"
    refine ⟨b, a, ds, rfl, hS, hl, fun hf => ?_, qe⟩
    have hp := fault_pos hf
    have q := q hf
    walk_at "go"
    refine ⟨b, a, ds, rfl, hS, hp, hl, fun p H1 s1 lp => ?_⟩
    have hS1 := Z.Same.sqK s1 hS
    have hn1 := s1 _ _ hn
    obtain ⟨hpl, ltk, oft⟩ := (of_dv hp).take lp
    -- what is left, the tuple at t
    have fin : ∀ (t : Addr) (H2 : Hp), Same H1 H2 → H2 t = some (.tup ((ds.take p).map V.int)) → Q .non (upd H2 n (.ins C dx [("days", .ref t)])) := by
      intro t H2 s2 hT
      have hn2 := s2 _ _ hn1
      have sb : SB n H2 (upd H2 n (.ins C dx [("days", .ref t)])) := SB.upd (Z.Same.sb (Same.refl _))
      have ne : t ≠ n := fun z => by
        rw [z, hn2] at hT
        cases hT
      exact q p _ ((Z.Same.sb (s1.trans s2)).trans sb) lp ⟨dx, t, upd_same, by rw [upd_ne ne]; exact hT⟩
    walk_at "go"
    cases b with
    | true =>
      refine .inl ⟨a, _, rfl, hS1, fun l nl => ?_⟩
      rw [cut_take hpl]
      have s2 := same_new (o := .lst ((ds.take p).map V.int)) nl
      walk_at "go"
      refine ⟨l, _, rfl, .inl ⟨SqL.of upd_same, fun t nt => ?_⟩⟩
      have s3 := same_new (o := .tup ((ds.take p).map V.int)) nt
      walk_at "go"
      refine ⟨n, C, dx, _, rfl, s3 _ _ (s2 _ _ hn1), cls, n_days, by decide, ?_⟩
      exact fin t _ (s2.trans s3) upd_same
    | false =>
      refine .inr ⟨a, _, rfl, hS1, fun hw => ?_, fun hw l nl => ?_⟩
      · have e : p = ds.length := by
          have := hw.2
          rw [List.length_map, sIx_hi hpl] at this
          exact this
        walk_at "go"
        refine ⟨a, _, rfl, .inr ⟨hS1, ?_⟩⟩
        walk_at "go"
        refine ⟨n, C, dx, _, rfl, hn1, cls, n_days, by decide, ?_⟩
        exact fin a _ (Same.refl _) (by rw [e, List.take_length]; exact s1 _ _ hA)
      · rw [cut_take hpl]
        have s2 := same_new (o := .tup ((ds.take p).map V.int)) nl
        walk_at "go"
        refine ⟨l, _, rfl, .inr ⟨.inl (.inl upd_same), ?_⟩⟩
        walk_at "go"
        refine ⟨n, C, dx, _, rfl, s2 _ _ hn1, cls, n_days, by decide, ?_⟩
        exact fin l _ s2 upd_same
/-! ### period, a call, == -/
def spPeriod (C : Addr) (K : PySem.W.Frag) : Sp := fun vs H Q _ => ∃ (n : Addr) (ds : List Int), vs = [.ref n] ∧ RuleAt C K H n ds ∧ Q (.int (ds.length : Int)) H
theorem ok_period (F : FnM K "period" "DayRule.period" s_DayRule_period f fd) (cls : Cls K C) (n_days : NoAttr K C "days") (m_len : mg "len" = none) : FnOk P w K mg base CX0 1 f fd P_DayRule_period (spPeriod C K) := by
  refine F.ok sc_DayRule_period (fun vs H Q E h => ?_) (fun cdv A outer s H vs Q E hr h => ?_)
  · obtain ⟨n, ds, rfl, _⟩ := h
    rfl
  · obtain ⟨n, ds, rfl, ⟨dx, t, hn, hT⟩, q⟩ := h
    refine ⟨_, PSs.nox (pss_one (ps_ret (pe_callB call_len_seq (by rfl) m_len PySem.boot_len (pa_cons (pe_fld (pv 0) rfl) pa_nil)))), ?_⟩
    walk_at "go"
    refine ⟨t, _, rfl, .inr (SqT.of hT), ?_⟩
    rw [List.length_map]
    exact q
def spCallR (C : Addr) (K : PySem.W.Frag) : Sp := fun vs H Q _ => ∃ (n : Addr) (ds : List Int) (d : Int), vs = [.ref n, .int d] ∧ RuleAt C K H n ds ∧ 0 < ds.length ∧ ds.length ≤ 100000 ∧ Q (.int (dv ds d)) H
theorem ok_call (F : FnM K "__call__" "DayRule.__call__" s_DayRule___call__ f fd) (cls : Cls K C) (n_days : NoAttr K C "days") (c_day_at : Cal P w K mg base 1 "day_at" (spDayAt K)) : FnOk P w K mg base CX0 2 f fd P_DayRule___call__ (spCallR C K) := by
  refine F.ok sc_DayRule___call__ (fun vs H Q E h => ?_) (fun cdv A outer s H vs Q E hr h => ?_)
  · obtain ⟨n, ds, d, rfl, _⟩ := h
    rfl
  · obtain ⟨n, ds, d, rfl, ⟨dx, t, hn, hT⟩, hp, hl, q⟩ := h
    refine ⟨_, PSs.nox (pss_one (ps_ret (pe_cl c_day_at hr (by decide) (by rfl) (pa_cons (pe_fld (pv 0) rfl) (pa_cons (pv 1) pa_nil))))), ?_⟩
    walk_at "go"
    exact ⟨false, t, ds, d, rfl, SqT.of hT, hp, hl, q⟩
theorem eqv_ints (b : Bool) (ns ms : List Int) : PyData.eqv (intsD b ns) (intsD b ms) = decide (ns = ms) := by
  cases b
  · show PyData.eqv (.tuple _) (.tuple _) = _
    rw [PyData.eqv, PySem.W.ked_eqvAll]
  · show PyData.eqv (.list _) (.list _) = _
    rw [PyData.eqv, PySem.W.ked_eqvAll]
def spEqR (C : Addr) (K : PySem.W.Frag) : Sp := fun vs H Q _ => ∃ (n m : Addr) (ds es : List Int), vs = [.ref n, .ref m] ∧ RuleAt C K H n ds ∧ RuleAt C K H m es ∧ Q (.bl (decide (ds = es))) H
theorem ok_eq (F : FnM K "__eq__" "DayRule.__eq__" s_DayRule___eq__ f fd) (isC : C8.InsC K C) (m_isinstance : mg "isinstance" = none) (g_DayRule : mg "DayRule" = some (.ref C)) (cls : Cls K C) (n_days : NoAttr K C "days") : FnOk P w K mg base CX0 1 f fd P_DayRule___eq__ (spEqR C K) := by
  refine F.ok sc_DayRule___eq__ (fun vs H Q E h => ?_) (fun cdv A outer s H vs Q E hr h => ?_)
  · obtain ⟨n, m, ds, es, rfl, _⟩ := h
    rfl
  · obtain ⟨n, m, ds, es, rfl, ⟨dx, t, hn, hT⟩, ⟨dy, u, hm, hU⟩, q⟩ := h
    refine ⟨_, PSs.nox (pss_one (ps_ret (pe_and (pe_callB (C8.call_isC isC) (by rfl) m_isinstance (by decide +kernel) (pa_cons (pv 1) (pa_cons (pe_glob (by rfl) g_DayRule relv_ref) pa_nil))) (pe_one (pe_cmpR (op_eqD hr.units) (pe_fld (pv 0) rfl) (pe_fld (pv 1) rfl) (nomark _)))))), ?_⟩
    walk_at "go"
    refine ⟨m, dy, _, rfl, hm, ?_⟩
    walk_at "go"
    refine ⟨_, _, dp_ints (b := false) (SqT.of hT), dp_ints (b := false) (SqT.of hU), shaped_ints _ _, shaped_ints _ _, ?_⟩
    rw [eqv_ints]
    exact q
end
end Z
set_option pp.maxSteps 700
set_option Elab.async false
set_option linter.all false
set_option maxRecDepth 100000
set_option maxHeartbeats 4000000
namespace Z
open Dy
open PySem PySem.Spec PyProof.Rows L2
open C8 (pss_cut tCut)
local macro_rules | `(tactic| walk_at "num") => `(tactic| first | rfl | omega | decide | exact Nat.le_of_lt (small1000 (by simp)) | exact ⟨by omega, by omega⟩ | exact ⟨by omega, by omega, by omega⟩ | exact ⟨by decide, by decide, by decide⟩ | exact Or.inl ⟨by omega, by omega⟩ | exact Or.inr ⟨by omega, by omega⟩)
local macro_rules | `(tactic| walk_at "go") => `(tactic| repeat (first | refine ⟨_, rfl, ?_⟩ | refine ⟨_, _, rfl, rfl, ?_⟩ | refine ⟨_, _, rfl, ?_⟩ | (refine ⟨_, _, rfl, rfl, ?_, ?_⟩; focus walk_at "num") | refine Or.inl ⟨_, rfl, ?_⟩ | refine ⟨_, _, _, _, rfl, rfl, (by assumption), (by rfl), ?_⟩ | refine ⟨_, _, _, _, _, rfl, (by assumption), (by assumption), (by assumption), (by rfl), ?_⟩ | refine ⟨rfl, ?_⟩ | (refine And.intro ?_ ?_; focus walk_at "num")))
abbrev s_whole : Stmt := topS 20
abbrev N_whole : List Str := ["_law_found"]
abbrev P_whole : List Str := ["_law_found"]
theorem sc_whole : FnScope N_whole P_whole (defScope s_whole) := ⟨rfl, rfl, rfl, by decide +kernel, rfl, by decide +kernel, by decide +kernel⟩
abbrev s_same : Stmt := topS 21
abbrev N_same : List Str := ["_law_found", "_law_due"]
abbrev P_same : List Str := ["_law_found", "_law_due"]
theorem sc_same : FnScope N_same P_same (defScope s_same) := ⟨rfl, rfl, rfl, by decide +kernel, rfl, by decide +kernel, by decide +kernel⟩
abbrev s_row_is : Stmt := topS 22
abbrev N_row_is : List Str := ["_law_found", "_law_due", "_law_k"]
abbrev P_row_is : List Str := ["_law_found", "_law_due"]
theorem sc_row_is : FnScope N_row_is P_row_is (defScope s_row_is) := ⟨rfl, rfl, rfl, by decide +kernel, rfl, by decide +kernel, by decide +kernel⟩
abbrev s_value : Stmt := topS 26
abbrev N_value : List Str := ["_law_days_here", "_law_day", "_law_turns"]
abbrev P_value : List Str := ["_law_days_here", "_law_day"]
theorem sc_value : FnScope N_value P_value (defScope s_value) := ⟨rfl, rfl, rfl, by decide +kernel, rfl, by decide +kernel, by decide +kernel⟩
abbrev s_repeats : Stmt := topS 27
abbrev N_repeats : List Str := ["_law_days_here", "_law_size_here", "_law_day"]
abbrev P_repeats : List Str := ["_law_days_here", "_law_size_here"]
theorem sc_repeats : FnScope N_repeats P_repeats (defScope s_repeats) := ⟨rfl, rfl, rfl, by decide +kernel, rfl, by decide +kernel, by decide +kernel⟩
abbrev s_least : Stmt := topS 28
abbrev N_least : List Str := ["_law_days_here", "_law_size_here"]
abbrev P_least : List Str := ["_law_days_here"]
theorem sc_least : FnScope N_least P_least (defScope s_least) := ⟨rfl, rfl, rfl, by decide +kernel, rfl, by decide +kernel, by decide +kernel⟩
section
variable {P : Program} {w : World} {K : PySem.W.Frag} {mg : Str → Option Value} {base : Heap} {f C CD : Addr} {fd : FuncData}
def spWhole : Sp := fun vs H Q _ => ∃ x : Int, vs = [.int x] ∧ Q (.bl true) H
theorem ok_whole (F : FnP K "_law_whole" s_whole f fd) (m_isinstance : mg "isinstance" = none) (m_int : mg "int" = none) (m_bool : mg "bool" = none) : FnOk P w K mg base CX0 1 f fd P_whole spWhole := by
  refine F.ok sc_whole (fun vs H Q E h => ?_) (fun cdv A outer s H vs Q E hr h => ?_)
  · obtain ⟨x, rfl, _⟩ := h
    rfl
  · obtain ⟨x, rfl, q⟩ := h
    refine ⟨_, PSs.nox (pss_one (ps_ret (pe_and (pe_callB call_isi (by rfl) m_isinstance (by decide +kernel) (pa_cons (pv 0) (pa_cons (pe_bltn (v := .ty "int") (by rfl) m_int (by decide +kernel) rfl) pa_nil))) (pe_one (pe_not (pe_callB call_isi (by rfl) m_isinstance (by decide +kernel) (pa_cons (pv 0) (pa_cons (pe_bltn (v := .ty "bool") (by rfl) m_bool (by decide +kernel) rfl) pa_nil)))))))), ?_⟩
    walk_at "go"
    refine isi (c := "int") (b := true) (.int x) (by decide +kernel) ?_
    walk_at "go"
    refine isi (c := "bool") (b := false) (.int x) (by decide +kernel) ?_
    walk_at "go"
    exact q
def spSame : Sp := fun vs H Q _ => ∃ x : Int, vs = [.int x, .int x] ∧ Q (.bl true) H
theorem ok_same (F : FnP K "_law_same" s_same f fd) (c_whole : Cal P w K mg base 1 "_law_whole" spWhole) : FnOk P w K mg base CX0 2 f fd P_same spSame := by
  refine F.ok sc_same (fun vs H Q E h => ?_) (fun cdv A outer s H vs Q E hr h => ?_)
  · obtain ⟨x, rfl, _⟩ := h
    rfl
  · obtain ⟨x, rfl, q⟩ := h
    refine ⟨_, PSs.nox (pss_one (ps_ret (pe_and (pe_cl c_whole hr (by decide) (by rfl) (pa_cons (pv 0) pa_nil)) (pe_one (pe_cmpR op_eq (pv 0) (pv 1) (nomark _)))))), ?_⟩
    walk_at "go"
    rw [decide_eq_true rfl]
    exact q
theorem okh_whole (F : FnP K "_law_whole" s_whole f fd) (m_isinstance : mg "isinstance" = none) (m_int : mg "int" = none) (m_bool : mg "bool" = none) : L2H.FnH P w K mg base CX0 1 f fd P_whole spWhole := by
  refine fund_okH F sc_whole (fun vs H Q E h => ?_) (fun cdv A outer s H vs Q E p hp hr h => ?_)
  · obtain ⟨x, rfl, _⟩ := h
    rfl
  · obtain ⟨x, rfl, q⟩ := h
    refine ⟨_, (pss_one (ps_ret (pe_and (pe_callB call_isi (by rfl) m_isinstance (by decide +kernel) (pa_cons (pv 0) (pa_cons (pe_bltn (v := .ty "int") (by rfl) m_int (by decide +kernel) rfl) pa_nil))) (pe_one (pe_not (pe_callB call_isi (by rfl) m_isinstance (by decide +kernel) (pa_cons (pv 0) (pa_cons (pe_bltn (v := .ty "bool") (by rfl) m_bool (by decide +kernel) rfl) pa_nil)))))))), ?_⟩
    walk_at "go"
    refine isi (c := "int") (b := true) (.int x) (by decide +kernel) ?_
    walk_at "go"
    refine isi (c := "bool") (b := false) (.int x) (by decide +kernel) ?_
    walk_at "go"
    exact q
theorem okh_same (F : FnP K "_law_same" s_same f fd) (ch_whole : CalH P w K mg base 1 "_law_whole" spWhole) : L2H.FnH P w K mg base CX0 2 f fd P_same spSame := by
  refine fund_okH F sc_same (fun vs H Q E h => ?_) (fun cdv A outer s H vs Q E p hp hr h => ?_)
  · obtain ⟨x, rfl, _⟩ := h
    rfl
  · obtain ⟨x, rfl, q⟩ := h
    refine ⟨_, (pss_one (ps_ret (pe_and (pe_clH ch_whole hr (by decide) (hotC_fn hp) (by rfl) (pa_cons (pv 0) pa_nil)) (pe_one (pe_cmpR op_eq (pv 0) (pv 1) (nomark _)))))), ?_⟩
    walk_at "go"
    rw [decide_eq_true rfl]
    exact q
def spRow (K : PySem.W.Frag) : Sp := fun vs H Q _ => ∃ (t l : Addr) (ds : List Int), vs = [.ref t, .ref l] ∧ H t = some (.tup (ds.map V.int)) ∧ SqT K H l (ds.map V.int) ∧ ds.length ≤ 100000 ∧ Q (.bl true) H
theorem ok_row_is (F : FnP K "_law_row_is" s_row_is f fd) (m_isinstance : mg "isinstance" = none) (m_tuple : mg "tuple" = none) (m_len : mg "len" = none) (m_range : mg "range" = none) (c_same : Cal P w K mg base 2 "_law_same" spSame) : FnOk P w K mg base CX0 3 f fd P_row_is (spRow K) := by
  refine F.ok sc_row_is (fun vs H Q E h => ?_) (fun cdv A outer s H vs Q E hr h => ?_)
  · obtain ⟨t, l, ds, rfl, _⟩ := h
    rfl
  · obtain ⟨t, l, ds, rfl, hT, hL, hl, q⟩ := h
    refine ⟨_, PSs.nox (pss_cons (ps_if (PW.pt (pw_or (pt_not (pt_val (pe_callB call_isi (by rfl) m_isinstance (by decide +kernel) (pa_cons (pv 0) (pa_cons (pe_bltn (v := .ty "tuple") (by rfl) m_tuple (by decide +kernel) rfl) pa_nil))))) (pw_or1 (pt_cmpR op_ne (pe_callB call_len_seq (by rfl) m_len PySem.boot_len (pa_cons (pv 0) pa_nil)) (pe_callB call_len_seq (by rfl) m_len PySem.boot_len (pa_cons (pv 1) pa_nil)) (nomark _))))) (pss_one (ps_ret pe_bl)) pss_nil)
      (pss_cons (ps_for PassesOwn.never rfl (pi_range1 (by rfl) m_range (pa_cons (pe_callB call_len_seq (by rfl) m_len PySem.boot_len (pa_cons (pv 1) pa_nil)) pa_nil)) (pg_name (i := 2) sc_row_is.nd rfl (by first | exact .inl rfl | exact .inr rfl))
        (pss_one (ps_if (pt_not (pt_val (pe_cl c_same hr (by decide) (by rfl) (pa_cons (pe_ix ix_tup (pv 0) (pv 2) (fun _ _ => rfl)) (pa_cons (pe_ix ix_tup (pv 1) (pv 2) (fun _ _ => rfl)) pa_nil))))) (pss_one (ps_ret pe_bl)) pss_nil)))
      (pss_one (ps_ret pe_bl)))), ?_⟩
    walk_at "go"
    refine isi (c := "tuple") (b := true) (.tup hT) (by decide +kernel) ?_
    walk_at "go"
    refine ⟨t, _, rfl, .inr (SqT.of hT), ?_⟩
    walk_at "go"
    refine ⟨l, _, rfl, .inr hL, ?_⟩
    walk_at "go"
    refine ite2 (fun e => ?_) (fun e => ?_)
    · simp at e
    walk_at "go"
    refine ⟨l, _, rfl, .inr hL, ?_⟩
    rw [List.length_map]
    walk_at "go"
    refine for_gen (n := ds.length) (fun i σ H1 => H1 = H ∧ ∃ v2 : Option V, σ = [some (.ref t), some (.ref l), v2]) ⟨rfl, none, rfl⟩ ?_ ?_ ?_ ?_
    · intro i σ H1 hi _
      show i < ((ds.length : Int)).toNat
      omega
    · intro σ H1 _
      show ((ds.length : Int)).toNat ≤ ds.length
      omega
    · rintro i σ H1 x H' hi ⟨rfl, v2, rfl⟩ ⟨rfl, rfl⟩
      have e : atI (ds.map V.int) (0 + (i : Int)) = some (.int ds[i]) := at_of (j := i) (by omega) (by rw [List.getElem?_map, List.getElem?_eq_getElem hi]; rfl)
      walk_at "go"
      refine ⟨t, _, _, _, rfl, rfl, SqT.of hT, e, ?_⟩
      walk_at "go"
      refine ⟨l, _, _, _, rfl, rfl, hL, e, ?_⟩
      walk_at "go"
      exact ⟨_, rfl⟩
    · rintro σ H1 ⟨rfl, v2, rfl⟩
      walk_at "go"
      exact q
def spValue (K : PySem.W.Frag) : Sp := fun vs H Q _ => ∃ (a : Addr) (ds : List Int) (d : Int), vs = [.ref a, .int d] ∧ SqL K H a (ds.map V.int) ∧ 0 < ds.length ∧ ds.length ≤ 100000 ∧ Q (.int (dv ds d)) H
theorem ok_value (F : FnP K "_law_value" s_value f fd) (m_len : mg "len" = none) (m_int : mg "int" = none) : FnOk P w K mg base CX0 1 f fd P_value (spValue K) := by
  refine F.ok sc_value (fun vs H Q E h => ?_) (fun cdv A outer s H vs Q E hr h => ?_)
  · obtain ⟨a, ds, d, rfl, _⟩ := h
    rfl
  · obtain ⟨a, ds, d, rfl, hS, hp, hl, q⟩ := h
    refine ⟨_, PSs.nox (pss_cons (ps_set (i := 2) sc_value.nd rfl (by first | exact .inl rfl | exact .inr rfl) (pe_op op_fdiv (pe_callTy call_int1 (by rfl) m_int (by decide +kernel) (pa_cons (pv 1) pa_nil)) (pe_callB call_len_seq (by rfl) m_len PySem.boot_len (pa_cons (pv 0) pa_nil))))
      (pss_one (ps_ret (pe_op op_add (pe_ix ix_list (pv 0) (pe_op op_mod (pe_callTy call_int1 (by rfl) m_int (by decide +kernel) (pa_cons (pv 1) pa_nil)) (pe_callB call_len_seq (by rfl) m_len PySem.boot_len (pa_cons (pv 0) pa_nil))) (fun _ _ => rfl)) (pe_op op_mul (pe_callB call_len_seq (by rfl) m_len PySem.boot_len (pa_cons (pv 0) pa_nil)) (pv 2)))))), ?_⟩
    have hn : 0 < (ds.length : Int) := by omega
    have h1 := Int.emod_nonneg d (show (ds.length : Int) ≠ 0 by omega)
    have h2 := Int.emod_lt_of_pos d hn
    have e : atI (ds.map V.int) (d % (ds.length : Int)) = some (.int (ds.getD (d % (ds.length : Int)).toNat 0)) := by
      have hj : (d % (ds.length : Int)).toNat < ds.length := by omega
      rw [← Int.toNat_of_nonneg h1, List.getD_eq_getElem?_getD, Int.toNat_natCast, List.getElem?_eq_getElem hj]
      exact at_map (List.getElem?_eq_getElem hj)
    walk_at "go"
    refine ⟨a, _, rfl, .inl hS, ?_⟩
    rw [List.length_map]
    walk_at "go"
    refine ⟨a, _, rfl, .inl hS, ?_⟩
    rw [List.length_map]
    walk_at "go"
    refine ⟨a, _, _, _, rfl, rfl, hS, e, ?_⟩
    walk_at "go"
    refine ⟨a, _, rfl, .inl hS, ?_⟩
    rw [List.length_map]
    walk_at "go"
    exact q
def spRepeats (K : PySem.W.Frag) : Sp := fun vs H Q _ => ∃ (a : Addr) (ds : List Int) (s : Nat), vs = [.ref a, .int (s : Int)] ∧ SqL K H a (ds.map V.int) ∧ 0 < ds.length ∧ ds.length ≤ 100000 ∧ (Per (dv ds) (s : Int) → Q (.bl true) H) ∧ (¬ Per (dv ds) (s : Int) → Q (.bl false) H)
theorem ok_repeats (F : FnP K "_law_repeats" s_repeats f fd) (m_len : mg "len" = none) (m_range : mg "range" = none) (c_value : Cal P w K mg base 1 "_law_value" (spValue K)) : FnOk P w K mg base CX0 2 f fd P_repeats (spRepeats K) := by
  refine F.ok sc_repeats (fun vs H Q E h => ?_) (fun cdv A outer s H vs Q E hr h => ?_)
  · obtain ⟨a, ds, s, rfl, _⟩ := h
    rfl
  · obtain ⟨a, ds, sz, rfl, hS, hp, hl, q1, q2⟩ := h
    refine ⟨_, PSs.nox (pss_cons (ps_for PassesOwn.never rfl (pi_range1 (by rfl) m_range (pa_cons (pe_callB call_len_seq (by rfl) m_len PySem.boot_len (pa_cons (pv 0) pa_nil)) pa_nil)) (pg_name (i := 2) sc_repeats.nd rfl (by first | exact .inl rfl | exact .inr rfl))
        (pss_one (ps_if (pt_cmpR op_ne (pe_cl c_value hr (by decide) (by rfl) (pa_cons (pv 0) (pa_cons (pe_op op_add (pv 2) (pv 1)) pa_nil))) (pe_op op_add (pe_cl c_value hr (by decide) (by rfl) (pa_cons (pv 0) (pa_cons (pv 2) pa_nil))) (pv 1)) (nomark _)) (pss_one (ps_ret pe_bl)) pss_nil)))
      (pss_one (ps_ret pe_bl))), ?_⟩
    walk_at "go"
    refine ⟨a, _, rfl, .inl hS, ?_⟩
    rw [List.length_map]
    walk_at "go"
    refine for_gen (n := ds.length) (fun i σ H1 => H1 = H ∧ (∀ k : Nat, k < i → dv ds ((k : Int) + sz) = dv ds (k : Int) + sz) ∧ ∃ v2 : Option V, σ = [some (.ref a), some (.int (sz : Int)), v2]) ⟨rfl, (fun k hk => by omega), none, rfl⟩ ?_ ?_ ?_ ?_
    · intro i σ H1 hi _
      show i < ((ds.length : Int)).toNat
      omega
    · intro σ H1 _
      show ((ds.length : Int)).toNat ≤ ds.length
      omega
    · rintro i σ H1 x H' hi ⟨rfl, hk, v2, rfl⟩ ⟨rfl, rfl⟩
      walk_at "go"
      refine ⟨a, ds, _, rfl, hS, hp, hl, ?_⟩
      walk_at "go"
      refine ⟨a, ds, _, rfl, hS, hp, hl, ?_⟩
      walk_at "go"
      refine ite2 (fun e => ?_) (fun e => ?_)
      · walk_at "go"
        refine q2 (fun z => ?_)
        have := z (0 + (i : Int))
        rw [this] at e
        simp at e
      · refine ⟨rfl, fun k hk2 => ?_, _, rfl⟩
        by_cases c : k = i
        · subst c
          have e : dv ds (0 + (k : Int) + sz) = dv ds (0 + (k : Int)) + sz := by simpa using e
          rw [Int.zero_add] at e
          exact e
        · exact hk k (by omega)
    · rintro σ H1 ⟨rfl, hk, v2, rfl⟩
      walk_at "go"
      exact q1 (per_of hp (of_dv hp).per (fun i hi => hk i hi))
def spLeastL (K : PySem.W.Frag) : Sp := fun vs H Q _ => ∃ (a : Addr) (ds : List Int), vs = [.ref a] ∧ SqL K H a (ds.map V.int) ∧ 0 < ds.length ∧ ds.length ≤ 100000 ∧ ∀ p : Nat, Lp (dv ds) p → Q (.int (p : Int)) H
theorem ok_least (F : FnP K "_law_least" s_least f fd) (m_len : mg "len" = none) (m_range : mg "range" = none) (c_repeats : Cal P w K mg base 2 "_law_repeats" (spRepeats K)) : FnOk P w K mg base CX0 3 f fd P_least (spLeastL K) := by
  refine F.ok sc_least (fun vs H Q E h => ?_) (fun cdv A outer s H vs Q E hr h => ?_)
  · obtain ⟨a, ds, rfl, _⟩ := h
    rfl
  · obtain ⟨a, ds, rfl, hS, hp, hl, q⟩ := h
    refine ⟨_, PSs.nox (pss_cons (ps_for PassesOwn.never rfl (pi_range2 (by rfl) m_range (pa_cons pe_int (pa_cons (pe_callB call_len_seq (by rfl) m_len PySem.boot_len (pa_cons (pv 0) pa_nil)) pa_nil))) (pg_name (i := 1) sc_least.nd rfl (by first | exact .inl rfl | exact .inr rfl))
        (pss_one (ps_if (pt_val (pe_cl c_repeats hr (by decide) (by rfl) (pa_cons (pv 0) (pa_cons (pv 1) pa_nil)))) (pss_one (ps_ret (pv 1))) pss_nil)))
      (pss_one (ps_ret (pe_callB call_len_seq (by rfl) m_len PySem.boot_len (pa_cons (pv 0) pa_nil))))), ?_⟩
    have of := of_dv hp
    walk_at "go"
    refine ⟨a, _, rfl, .inl hS, ?_⟩
    rw [List.length_map]
    walk_at "go"
    refine for_gen (n := ds.length - 1) (fun i σ H1 => H1 = H ∧ (∀ k, 0 < k → k < 1 + i → ¬ Per (dv ds) (k : Int)) ∧ ∃ v1 : Option V, σ = [some (.ref a), v1]) ⟨rfl, (fun k h1 h2 => by omega), none, rfl⟩ ?_ ?_ ?_ ?_
    · intro i σ H1 hi _
      show i < ((ds.length : Int) - 1).toNat
      omega
    · intro σ H1 _
      show ((ds.length : Int) - 1).toNat ≤ ds.length - 1
      omega
    · rintro i σ H1 x H' hi ⟨rfl, hk, v1, rfl⟩ ⟨rfl, rfl⟩
      walk_at "go"
      refine ⟨a, ds, 1 + i, (by rw [show ((1 + i : Nat) : Int) = 1 + (i : Int) by omega]; rfl), hS, hp, hl, fun z => ?_, fun z => ?_⟩
      · walk_at "go"
        have w := q (1 + i) (first_lp (fun k => Per (dv ds) (k : Int)) hp of.per (fun k _ h2 => h2) (fun p l _ => l.per) (by omega) (by omega) hk (fun _ => z))
        rw [show ((1 + i : Nat) : Int) = 1 + (i : Int) by omega] at w
        exact w
      · walk_at "go"
        refine ⟨fun k h1 h2 => ?_, _, rfl⟩
        by_cases c : k = 1 + i
        · rw [c]
          exact z
        · exact hk k h1 (by omega)
    · rintro σ H1 ⟨rfl, hk, v1, rfl⟩
      walk_at "go"
      refine ⟨a, _, rfl, .inl hS, ?_⟩
      rw [List.length_map]
      refine q _ (first_lp (fun k => Per (dv ds) (k : Int)) hp of.per (fun k _ h2 => h2) (fun p l _ => l.per) hp (Nat.le_refl _) (fun k h1 h2 => hk k h1 (by omega)) (fun z => by omega))
end
end Z
set_option pp.maxSteps 700
set_option Elab.async false
set_option linter.all false
set_option maxRecDepth 100000
set_option maxHeartbeats 4000000
namespace Z
open Dy
open PySem PySem.Spec PyProof.Rows L2
open C8 (pss_cut tCut)
local macro_rules | `(tactic| walk_at "num") => `(tactic| first | rfl | omega | decide | exact Nat.le_of_lt (small1000 (by simp)) | exact ⟨by omega, by omega⟩ | exact ⟨by omega, by omega, by omega⟩ | exact ⟨by decide, by decide, by decide⟩ | exact Or.inl ⟨by omega, by omega⟩ | exact Or.inr ⟨by omega, by omega⟩)
local macro_rules | `(tactic| walk_at "go") => `(tactic| repeat (first | refine ⟨_, rfl, ?_⟩ | refine ⟨_, _, rfl, rfl, ?_⟩ | refine ⟨_, _, rfl, ?_⟩ | (refine ⟨_, _, rfl, rfl, ?_, ?_⟩; focus walk_at "num") | refine Or.inl ⟨_, rfl, ?_⟩ | refine ⟨_, _, _, _, rfl, rfl, (by assumption), (by rfl), ?_⟩ | refine ⟨_, _, _, _, _, rfl, (by assumption), (by assumption), (by assumption), (by rfl), ?_⟩ | refine ⟨rfl, ?_⟩ | (refine And.intro ?_ ?_; focus walk_at "num")))
abbrev s_common_divisor : Stmt := topS 2
abbrev N_common_divisor : List Str := ["numbers", "found", "number"]
abbrev P_common_divisor : List Str := ["numbers"]
theorem sc_common_divisor : FnScope N_common_divisor P_common_divisor (defScope s_common_divisor) := ⟨rfl, rfl, rfl, by decide +kernel, rfl, by decide +kernel, by decide +kernel⟩
abbrev s_common_period : Stmt := topS 13
abbrev N_common_period : List Str := ["rules", "period", "rule"]
abbrev P_common_period : List Str := ["rules"]
theorem sc_common_period : FnScope N_common_period P_common_period (defScope s_common_period) := ⟨rfl, rfl, rfl, by decide +kernel, rfl, by decide +kernel, by decide +kernel⟩
section
variable {P : Program} {w : World} {K : PySem.W.Frag} {mg : Str → Option Value} {base : Heap} {f C CD : Addr} {fd : FuncData}
/-! ### common_divisor -/
def spGcd (K : PySem.W.Frag) : Sp := fun vs H Q _ => ∃ (a : Addr) (x y : Nat), vs = [.ref a] ∧ SqL K H a (([(x : Int), (y : Int)] : List Int).map V.int) ∧ Q (.int (Nat.gcd x y : Nat)) H
theorem ok_common_divisor (F : FnP K "common_divisor" s_common_divisor f fd) (m_abs : mg "abs" = none) : FnOk P w K mg base CX0 1 f fd P_common_divisor (spGcd K) := by
  refine F.ok sc_common_divisor (fun vs H Q E h => ?_) (fun cdv A outer s H vs Q E hr h => ?_)
  · obtain ⟨a, x, y, rfl, _⟩ := h
    rfl
  · obtain ⟨a, x, y, rfl, hS, q⟩ := h
    refine ⟨_, PSs.nox (pss_cons (ps_set (i := 1) sc_common_divisor.nd rfl (by first | exact .inl rfl | exact .inr rfl) pe_int)
      (pss_cons (ps_for PassesOwn.never rfl (pi_list (pv 0)) (pg_name (i := 2) sc_common_divisor.nd rfl (by first | exact .inl rfl | exact .inr rfl))
        (pss_cons (ps_set (i := 2) sc_common_divisor.nd rfl (by first | exact .inl rfl | exact .inr rfl) (pe_callB call_abs (by rfl) m_abs (by decide +kernel) (pa_cons (pv 2) pa_nil)))
      (pss_one (ps_while PassesOwn.never (pt_cmpR op_ne (pv 2) pe_int (nomark _))
        (pss_one (ps_par (i := 1) (j := 2) (by rfl) sc_common_divisor.nd rfl rfl (by decide) rfl rfl (pa_cons (pv 2) (pa_cons (pe_op op_mod (pv 1) (pv 2)) pa_nil)) (by rfl)))))))
      (pss_one (ps_ret (pv 1))))), ?_⟩
    walk_at "go"
    refine ⟨⟨_, hS⟩, ?_⟩
    refine for_lst hS (fun k σ H1 => H1 = H ∧ ∃ (g : Nat) (v2 : Option V), g = ([x, y].take k).foldl Nat.gcd 0 ∧ σ = [some (.ref a), some (.int (g : Int)), v2]) ⟨rfl, 0, none, rfl, rfl⟩ (fun k σ H1 p => by rw [p.1]; exact Same.refl _) ?_ ?_
    · rintro k z σ H1 ez ⟨rfl, g, v2, eg, rfl⟩
      obtain ⟨n, rfl, en⟩ : ∃ n : Nat, z = (n : Int) ∧ ([x, y] : List Nat)[k]? = some n := by
        match k, ez with
        | 0, ez => exact ⟨x, (Option.some.inj ez).symm, rfl⟩
        | 1, ez => exact ⟨y, (Option.some.inj ez).symm, rfl⟩
      have e1 : ([x, y].take (k + 1)).foldl Nat.gcd 0 = Nat.gcd g n := by
        match k, en with
        | 0, en => cases en; rw [eg]; rfl
        | 1, en => cases en; rw [eg]; rfl
      have eab : (if (n : Int) < 0 then -(n : Int) else (n : Int)) = n := if_neg (by omega)
      walk_at "go"
      refine ⟨fun m σ' H' => H' = H1 ∧ ∃ u v : Nat, m = v ∧ Nat.gcd u v = Nat.gcd g n ∧ σ' = [some (.ref a), some (.int (u : Int)), some (.int (v : Int))], ⟨n, rfl, g, n, rfl, rfl, ?_⟩, ?_⟩
      · show [some (V.ref a), some (V.int (g : Int)), some (V.int (if (n : Int) < 0 then -(n : Int) else (n : Int)))] = _
        rw [eab]
      rintro m σ' H' ⟨rfl, u, v, rfl, eg2, rfl⟩
      walk_at "go"
      refine ite2 (fun c => ?_) (fun c => ?_)
      · have hv : 0 < m := by
          rcases Nat.eq_zero_or_pos m with z | z
          · rw [z] at c
            cases c
          · exact z
        refine ⟨fun σ' H2 => H2 = H' ∧ ∃ u v : Nat, v < m ∧ Nat.gcd u v = Nat.gcd g n ∧ σ' = [some (.ref a), some (.int (u : Int)), some (.int (v : Int))], fun σ' H2 z => ?_, ?_⟩
        · obtain ⟨rfl, u2, v2, h1, h2, rfl⟩ := z
          exact ⟨v2, h1, rfl, u2, v2, rfl, h2, rfl⟩
        walk_at "go"
        refine ⟨m, u % m, Nat.mod_lt _ hv, ?_, rfl⟩
        rw [← eg2, Nat.gcd_comm m, ← Nat.gcd_rec, Nat.gcd_comm]
      · have hv : m = 0 := by
          apply Decidable.byContradiction
          intro z
          refine c ?_
          show (!decide (V.int (m : Int) = V.int 0)) = true
          rw [decide_eq_false (fun h => by have := V.int.inj h; omega)]
          rfl
        subst hv
        rw [Nat.gcd_zero_right] at eg2
        refine ⟨rfl, u, _, ?_, rfl⟩
        rw [eg2, e1]
    · rintro σ H1 ⟨rfl, g, v2, eg, rfl⟩
      walk_at "go"
      have e1 : g = Nat.gcd x y := by
        rw [eg]
        show Nat.gcd (Nat.gcd 0 x) y = _
        rw [Nat.gcd_zero_left]
      rw [e1]
      exact q
/-! ### common_period -/
def spPer (C : Addr) (K : PySem.W.Frag) : Sp := fun vs H Q _ => ∃ (l n m : Addr) (ds es : List Int), vs = [.ref l] ∧ H l = some (.lst [.ref n, .ref m]) ∧ RuleAt C K H n ds ∧ RuleAt C K H m es ∧ 0 < ds.length ∧ 0 < es.length ∧ ds.length ≤ 30000 ∧ es.length ≤ 30000 ∧
  ∀ H', Same H H' → Q (.int (Nat.lcm ds.length es.length : Nat)) H'
theorem ok_common_period (F : FnP K "common_period" s_common_period f fd) (m_len : mg "len" = none) (cls : Cls K C) (n_days : NoAttr K C "days") (c_common_divisor : Cal P w K mg base 1 "common_divisor" (spGcd K)) : FnOk P w K mg base CX0 2 f fd P_common_period (spPer C K) := by
  refine F.ok sc_common_period (fun vs H Q E h => ?_) (fun cdv A outer s H vs Q E hr h => ?_)
  · obtain ⟨l, n, m, ds, es, rfl, _⟩ := h
    rfl
  · obtain ⟨l, n, m, ds, es, rfl, hL, hN, hM, d0, e0, d1, e1, q⟩ := h
    refine ⟨_, PSs.nox (pss_cons (ps_set (i := 1) sc_common_period.nd rfl (by first | exact .inl rfl | exact .inr rfl) pe_int)
      (pss_cons (ps_for PassesOwn.never rfl (pi_list (pv 0)) (pg_name (i := 2) sc_common_period.nd rfl (by first | exact .inl rfl | exact .inr rfl))
        (pss_one (ps_set (i := 1) sc_common_period.nd rfl (by first | exact .inl rfl | exact .inr rfl) (pe_op op_fdiv (pe_op op_mul (pv 1) (pe_callB call_len_seq (by rfl) m_len PySem.boot_len (pa_cons (pe_fld (pv 2) rfl) pa_nil))) (pe_cl c_common_divisor hr (by decide) (by rfl) (pa_cons (pe_lst (pa_cons (pv 1) (pa_cons (pe_callB call_len_seq (by rfl) m_len PySem.boot_len (pa_cons (pe_fld (pv 2) rfl) pa_nil)) pa_nil))) pa_nil))))))
      (pss_one (ps_ret (pv 1))))), ?_⟩
    have turn : ∀ (o : Addr) (fs : List Int) (p : Nat), True := fun _ _ _ => trivial
    walk_at "go"
    refine ⟨⟨_, SqL.of hL⟩, ?_⟩
    refine for_vs (SqL.of hL) (fun k σ H1 => Same H H1 ∧ ∃ (p : Nat) (v2 : Option V), (match k with
      | 0 => p = 1
      | 1 => p = ds.length
      | _ => p = Nat.lcm ds.length es.length) ∧ σ = [some (.ref l), some (.int (p : Int)), v2]) ⟨Same.refl _, 1, none, rfl, rfl⟩ (fun k σ H1 p => p.1) ?_ ?_
    · rintro k x σ H1 ex ⟨s1, p, v2, hp, rfl⟩
      obtain ⟨o, fs, rfl, hO, f0, f1, p0, p1, hnext⟩ : ∃ (o : Addr) (fs : List Int), x = .ref o ∧ RuleAt C K H1 o fs ∧ 0 < fs.length ∧ fs.length ≤ 30000 ∧ 0 < p ∧ p ≤ 30000 ∧ (match k + 1 with
        | 0 => p * fs.length / Nat.gcd p fs.length = 1
        | 1 => p * fs.length / Nat.gcd p fs.length = ds.length
        | _ => p * fs.length / Nat.gcd p fs.length = Nat.lcm ds.length es.length) := by
        match k, ex, hp with
        | 0, ex, hp =>
          have hp : p = 1 := hp
          subst hp
          refine ⟨n, ds, (Option.some.inj ex).symm, hN.mono s1, d0, d1, by decide, by decide, ?_⟩
          show 1 * ds.length / Nat.gcd 1 ds.length = ds.length
          rw [Nat.gcd_one_left, Nat.one_mul, Nat.div_one]
        | 1, ex, hp =>
          have hp : p = ds.length := hp
          subst hp
          refine ⟨m, es, (Option.some.inj ex).symm, hM.mono s1, e0, e1, d0, d1, ?_⟩
          rfl
      have hO' := hO
      obtain ⟨dx, t, a1, a2⟩ := hO'
      have g0 : 0 < Nat.gcd p fs.length := Nat.gcd_pos_of_pos_left _ p0
      have g1 : Nat.gcd p fs.length ≤ p := Nat.le_of_dvd p0 (Nat.gcd_dvd_left _ _)
      walk_at "go"
      refine ⟨t, _, rfl, .inr (SqT.of a2), ?_⟩
      rw [List.length_map]
      walk_at "go"
      refine ⟨t, _, rfl, .inr (SqT.of a2), ?_⟩
      rw [List.length_map]
      walk_at "go"
      intro G nG
      generalize eH_ : upd H1 G _ = H2
      have s2 : Same H1 H2 := by rw [← eH_]; exact same_new nG
      have eG : H2 G = some (.lst (([(p : Int), (fs.length : Int)] : List Int).map V.int)) := by rw [← eH_]; exact upd_same
      clear eH_
      walk_at "go"
      refine ⟨G, p, fs.length, rfl, SqL.of eG, ?_⟩
      have e9 : (p : Int) * (fs.length : Int) / ((Nat.gcd p fs.length : Nat) : Int) = ((p * fs.length / Nat.gcd p fs.length : Nat) : Int) := by rw [Int.natCast_ediv, Int.natCast_mul]
      refine ⟨_, _, rfl, rfl, ⟨by omega, by omega⟩, ?_⟩
      walk_at "go"
      refine ⟨s1.trans s2, p * fs.length / Nat.gcd p fs.length, _, ?_, by rw [← e9]; rfl⟩
      match k, hnext with
      | 0, hnext => exact hnext
      | k + 1, hnext => exact hnext
    · rintro σ H1 ⟨s1, p, v2, h1, rfl⟩
      have h1 : p = Nat.lcm ds.length es.length := h1
      walk_at "go"
      rw [h1]
      exact q H1 s1
end
end Z
set_option pp.maxSteps 700
set_option Elab.async false
set_option linter.all false
set_option maxRecDepth 100000
set_option maxHeartbeats 4000000
namespace Z
open Dy
open PySem PySem.Spec PyProof.Rows L2
open C8 (pss_cut tCut)
local macro_rules | `(tactic| walk_at "num") => `(tactic| first | rfl | omega | decide | exact Nat.le_of_lt (small1000 (by simp)) | exact ⟨by omega, by omega⟩ | exact ⟨by omega, by omega, by omega⟩ | exact ⟨by decide, by decide, by decide⟩ | exact Or.inl ⟨by omega, by omega⟩ | exact Or.inr ⟨by omega, by omega⟩)
local macro_rules | `(tactic| walk_at "go") => `(tactic| repeat (first | refine ⟨_, rfl, ?_⟩ | refine ⟨_, _, rfl, rfl, ?_⟩ | refine ⟨_, _, rfl, ?_⟩ | (refine ⟨_, _, rfl, rfl, ?_, ?_⟩; focus walk_at "num") | refine Or.inl ⟨_, rfl, ?_⟩ | refine ⟨_, _, _, _, rfl, rfl, (by assumption), (by rfl), ?_⟩ | refine ⟨_, _, _, _, _, rfl, (by assumption), (by assumption), (by assumption), (by rfl), ?_⟩ | refine ⟨rfl, ?_⟩ | (refine And.intro ?_ ?_; focus walk_at "num")))
abbrev s_used_times : Stmt := topS 11
abbrev N_used_times : List Str := ["days", "count", "reached", "power", "left", "day"]
abbrev P_used_times : List Str := ["days", "count"]
theorem sc_used_times : FnScope N_used_times P_used_times (defScope s_used_times) := ⟨rfl, rfl, rfl, by decide +kernel, rfl, by decide +kernel, by decide +kernel⟩
theorem rgV_map (n : Nat) : rgV 0 (n : Int) = (((List.range n).map fun (i : Nat) => (i : Int)).map V.int) := by
  unfold rgV
  rw [show ((n : Int) - 0).toNat = n by omega, List.map_map]
  congr 1
  funext i
  show V.int (0 + (i : Int)) = V.int (i : Int)
  rw [Int.zero_add]
theorem of_id {n : Nat} (h : 0 < n) : Of (it F 0) ((List.range n).map fun (i : Nat) => (i : Int)) := of_range (F := it F 0) h fun d => rfl
/-- a list of values, led on -/
theorem of_led {F G : Int → Int} {es : List Int} (o : Of F es) (h : Per G (es.length : Int)) : Of (fun d => G (F d)) (es.map G) := by
  refine ⟨by rw [List.length_map]; exact o.pos, by rw [List.length_map]; exact o.per.comp h, fun i hi => ?_⟩
  rw [List.length_map] at hi
  rw [List.getD_eq_getElem?_getD, List.getElem?_map, ← o.at_ i hi, List.getD_eq_getElem?_getD, List.getElem?_eq_getElem hi]
  rfl
section
variable {P : Program} {w : World} {K : PySem.W.Frag} {mg : Str → Option Value} {base : Heap} {f C CD : Addr} {fd : FuncData}
def spUsedT (K : PySem.W.Frag) : Sp := fun vs H Q _ => ∃ (a : Addr) (ds : List Int) (F : Int → Int) (c : Nat), vs = [.ref a, .int (c : Int)] ∧ SqT K H a (ds.map V.int) ∧ Of F ds ∧ ds.length ≤ 30000 ∧
  ∀ (L : Addr) H' (es : List Int), Same H H' → H' L = some (.lst (es.map V.int)) → Of (it F c) es → es.length = ds.length → Q (.ref L) H'
theorem ok_used_times (F : FnP K "used_times" s_used_times f fd) (m_len : mg "len" = none) (m_list : mg "list" = none) (m_range : mg "range" = none) (c_day_at : Cal P w K mg base 1 "day_at" (spDayAt K)) : FnOk P w K mg base CX0 2 f fd P_used_times (spUsedT K) := by
  refine F.ok sc_used_times (fun vs H Q E h => ?_) (fun cdv A outer s H vs Q E hr h => ?_)
  · obtain ⟨a, ds, F, c, rfl, _⟩ := h
    rfl
  · obtain ⟨a, ds, F, c, rfl, hS, o, hl, q⟩ := h
    have hp := o.pos
    refine ⟨_, PSs.nox (pss_cons (ps_set (i := 2) sc_used_times.nd rfl (by first | exact .inl rfl | exact .inr rfl) (pe_listRg rfl (by rfl) m_list (prg_1 (by rfl) m_range (pe_callB call_len_seq (by rfl) m_len PySem.boot_len (pa_cons (pv 0) pa_nil)))))
      (pss_cons (ps_set (i := 3) sc_used_times.nd rfl (by first | exact .inl rfl | exact .inr rfl) (pe_callTy call_list_of (by rfl) m_list (by decide +kernel) (pa_cons (pv 0) pa_nil)))
      (pss_cons (ps_set (i := 4) sc_used_times.nd rfl (by first | exact .inl rfl | exact .inr rfl) (pv 1))
      (pss_cons (ps_while PassesOwn.never (pt_cmpR op_gt (pv 4) pe_int (nomark _))
        (pss_cut (ps_if (pt_cmpR op_eq (pe_op op_mod (pv 4) pe_int) pe_int (nomark _)) (pss_one (ps_setLc (i := 2) (own := [("day", 5)]) (g := (gName 5)) (tt := tYes) (by rfl) sc_used_times.nd rfl rfl (sw_true rfl rfl rfl (by decide +kernel)) (pi_list (pv 2)) (blkOk_by (own := [("day", 5)]) (N := N_used_times) (sc := defScope s_used_times) (by decide +kernel)) (fun _ _ _ _ _ => (pg_name (i := 5) sc_used_times.nd rfl (by first | exact .inl rfl | exact .inr rfl))) (fun _ _ _ _ _ => pts_nil) (fun _ _ _ _ _ => (pe_cl c_day_at hr (by decide) (by rfl) (pa_cons (pv 3) (pa_cons (pv 5) pa_nil)))))) pss_nil)
      (pss_cons (ps_set (i := 3) sc_used_times.nd rfl (by first | exact .inl rfl | exact .inr rfl) (pe_lc (own := [("day", 5)]) (g := (gName 5)) (tt := tYes) (by rfl) sc_used_times.nd (pi_list (pv 3)) (blkOk_by (own := [("day", 5)]) (N := N_used_times) (sc := defScope s_used_times) (by decide +kernel)) (fun _ _ _ _ _ => (pg_name (i := 5) sc_used_times.nd rfl (by first | exact .inl rfl | exact .inr rfl))) (fun _ _ _ _ _ => pts_nil) (fun _ _ _ _ _ => (pe_cl c_day_at hr (by decide) (by rfl) (pa_cons (pv 3) (pa_cons (pv 5) pa_nil))))))
      (pss_one (ps_set (i := 4) sc_used_times.nd rfl (by first | exact .inl rfl | exact .inr rfl) (pe_op op_fdiv (pv 4) pe_int))))))
      (pss_one (ps_ret (pv 2))))))), ?_⟩
    walk_at "go"
    refine ⟨a, _, rfl, .inr (hS), ?_⟩
    rw [List.length_map]
    walk_at "go"
    rw [rgV_map]
    intro R nR
    generalize eH_ : upd H R _ = H1
    have s1 : Same H H1 := by rw [← eH_]; exact same_new nR
    have eR : H1 R = some (.lst (((List.range ds.length).map fun (i : Nat) => (i : Int)).map V.int)) := by rw [← eH_]; exact upd_same
    clear eH_
    walk_at "go"
    refine ⟨a, _, rfl, .inr (Z.Same.sqT s1 hS), ?_⟩
    intro W nW
    generalize eH_ : upd H1 W _ = H2
    have s2 : Same H1 H2 := by rw [← eH_]; exact same_new nW
    have eW : H2 W = some (.lst (ds.map V.int)) := by rw [← eH_]; exact upd_same
    clear eH_
    walk_at "go"
    refine ⟨fun m σ' H' => Same H H' ∧ ∃ (R W : Addr) (rs ws : List Int) (x y : Nat), H' R = some (.lst (rs.map V.int)) ∧ H' W = some (.lst (ws.map V.int)) ∧ Of (it F x) rs ∧ Of (it F y) ws ∧ rs.length = ds.length ∧ ws.length = ds.length ∧ x + y * m = c ∧ σ' = [some (.ref a), some (.int (c : Int)), some (.ref R), some (.ref W), some (.int (m : Int)), none], ⟨c, s1.trans s2, R, W, _, ds, 0, 1, s2 _ _ eR, eW, of_range (F := it F 0) hp fun d => rfl, o, by rw [List.length_map, List.length_range], rfl, by omega, rfl⟩, ?_⟩
    clear s1 s2 eR eW nR nW
    clear R W H1 H2
    rintro m σ' H1 ⟨s1, R, W, rs, ws, x, y, eR, eW, oR, oW, lR, lW, hc, rfl⟩
    have pR := oR.per
    have pW := oW.per
    rw [lR] at pR
    rw [lW] at pW
    walk_at "go"
    refine ite2 (fun e => ?_) (fun e => ?_)
    rotate_left
    · have hm : m = 0 := by
        have := of_decide_eq_false (Bool.eq_false_iff.mpr e)
        omega
      subst hm
      walk_at "go"
      rw [Nat.mul_zero, Nat.add_zero] at hc
      rw [hc] at oR
      exact q R H1 rs s1 eR oR lR
    have hm : 0 < m := by
      have := of_decide_eq_true e
      omega
    refine ⟨fun σ' H' => Same H H' ∧ ∃ (R W : Addr) (rs ws : List Int) (x y : Nat), H' R = some (.lst (rs.map V.int)) ∧ H' W = some (.lst (ws.map V.int)) ∧ Of (it F x) rs ∧ Of (it F y) ws ∧ rs.length = ds.length ∧ ws.length = ds.length ∧ x + y * (m / 2) = c ∧ σ' = [some (.ref a), some (.int (c : Int)), some (.ref R), some (.ref W), some (.int ((m / 2 : Nat) : Int)), none], fun σ' H' z => ?_, ?_⟩
    · obtain ⟨s, z⟩ := z
      exact ⟨m / 2, Nat.div_lt_self hm (by decide), s, z⟩
    refine ⟨fun σ' H' => Same H1 H' ∧ H' W = some (.lst (ws.map V.int)) ∧ ∃ (R : Addr) (rs : List Int) (x' : Nat), H' R = some (.lst (rs.map V.int)) ∧ Of (it F x') rs ∧ rs.length = ds.length ∧ x' + y * 2 * (m / 2) = c ∧ σ' = [some (.ref a), some (.int (c : Int)), some (.ref R), some (.ref W), some (.int (m : Int)), none], ?_, ?_⟩
    · have e2 : y * m = y * (m % 2) + y * 2 * (m / 2) := by
        rw [Nat.mul_assoc, ← Nat.mul_add]
        congr 1
        omega
      walk_at "go"
      refine ite2 (fun e => ?_) (fun e => ?_)
      · have hm2 : m % 2 = 1 := by
          have := V.int.inj (of_decide_eq_true e)
          omega
        rw [hm2, Nat.mul_one] at e2
        walk_at "go"
        refine ⟨⟨_, SqL.of eR⟩, fun D nD => ?_⟩
        refine lc_lst (SqL.of eR) (it F y) (by omega) nD (fun _ => rfl) ?_ ?_
        · intro z H2 Q1 hz s2 q1
          walk_at "go"
          refine ⟨true, W, ws, z, rfl, SqL.of (s2 _ _ eW), oW.pos, by omega, ?_⟩
          rw [oW.dv]
          exact q1 _ (Same.refl _)
        intro H2 s2 eD
        walk_at "go"
        refine ⟨s2 _ _ eW, D, _, x + y, eD, of_congr (of_led oR (by rw [lR]; exact pW)) (fun d => (it_add F x y d).symm), by rw [List.length_map]; exact lR, by omega, rfl⟩
      · have hm2 : m % 2 = 0 := by
          have : ¬ (m : Int) % 2 = 1 := fun z => e (decide_eq_true (congrArg V.int z))
          omega
        rw [hm2, Nat.mul_zero] at e2
        exact ⟨Same.refl _, eW, R, rs, x, eR, oR, lR, by omega, rfl⟩
    rintro σ' H2 ⟨s2, eW2, R2, rs2, x2, eR2, oR2, lR2, hc2, rfl⟩
    walk_at "go"
    refine ⟨⟨_, SqL.of eW2⟩, fun D nD => ?_⟩
    refine lc_lst (SqL.of eW2) (it F y) (by omega) nD (fun _ => rfl) ?_ ?_
    · intro z H3 Q1 hz s3 q1
      walk_at "go"
      refine ⟨true, W, ws, z, rfl, SqL.of (s3 _ _ eW2), oW.pos, by omega, ?_⟩
      rw [oW.dv]
      exact q1 _ (Same.refl _)
    intro H3 s3 eD
    walk_at "go"
    refine ⟨s1.trans (s2.trans s3), R2, D, rs2, _, x2, y + y, s3 _ _ eR2, eD, oR2, of_congr (of_led oW (by rw [lW]; exact pW)) (fun d => (it_add F y y d).symm), lR2, by rw [List.length_map]; exact lW, by rw [show y + y = y * 2 by omega]; exact hc2, by rw [Int.natCast_ediv]; rfl⟩
end
end Z
set_option pp.maxSteps 700
set_option Elab.async false
set_option linter.all false
set_option maxRecDepth 100000
set_option maxHeartbeats 4000000
namespace Z
open Dy
open PySem PySem.Spec PyProof.Rows L2
open C8 (pss_cut tCut)
local macro_rules | `(tactic| walk_at "num") => `(tactic| first | rfl | omega | decide | exact Nat.le_of_lt (small1000 (by simp)) | exact ⟨by omega, by omega⟩ | exact ⟨by omega, by omega, by omega⟩ | exact ⟨by decide, by decide, by decide⟩ | exact Or.inl ⟨by omega, by omega⟩ | exact Or.inr ⟨by omega, by omega⟩)
local macro_rules | `(tactic| walk_at "go") => `(tactic| repeat (first | refine ⟨_, rfl, ?_⟩ | refine ⟨_, _, rfl, rfl, ?_⟩ | refine ⟨_, _, rfl, ?_⟩ | (refine ⟨_, _, rfl, rfl, ?_, ?_⟩; focus walk_at "num") | refine Or.inl ⟨_, rfl, ?_⟩ | refine ⟨_, _, _, _, rfl, rfl, (by assumption), (by rfl), ?_⟩ | refine ⟨_, _, _, _, _, rfl, (by assumption), (by assumption), (by assumption), (by rfl), ?_⟩ | refine ⟨rfl, ?_⟩ | (refine And.intro ?_ ?_; focus walk_at "num")))
abbrev s_DayRule___rshift__ : Stmt := inClass (topS 14) 4
abbrev N_DayRule___rshift__ : List Str := ["self", "other", "many", "day"]
abbrev P_DayRule___rshift__ : List Str := ["self", "other"]
theorem sc_DayRule___rshift__ : FnScope N_DayRule___rshift__ P_DayRule___rshift__ (defScope s_DayRule___rshift__) := ⟨rfl, rfl, rfl, by decide +kernel, rfl, by decide +kernel, by decide +kernel⟩
abbrev s_DayRule___or__ : Stmt := inClass (topS 14) 5
abbrev N_DayRule___or__ : List Str := ["self", "other", "many", "day"]
abbrev P_DayRule___or__ : List Str := ["self", "other"]
theorem sc_DayRule___or__ : FnScope N_DayRule___or__ P_DayRule___or__ (defScope s_DayRule___or__) := ⟨rfl, rfl, rfl, by decide +kernel, rfl, by decide +kernel, by decide +kernel⟩
abbrev s_DayRule___and__ : Stmt := inClass (topS 14) 6
abbrev N_DayRule___and__ : List Str := ["self", "other", "many", "day"]
abbrev P_DayRule___and__ : List Str := ["self", "other"]
theorem sc_DayRule___and__ : FnScope N_DayRule___and__ P_DayRule___and__ (defScope s_DayRule___and__) := ⟨rfl, rfl, rfl, by decide +kernel, rfl, by decide +kernel, by decide +kernel⟩
abbrev s_DayRule___mul__ : Stmt := inClass (topS 14) 7
abbrev N_DayRule___mul__ : List Str := ["self", "count"]
abbrev P_DayRule___mul__ : List Str := ["self", "count"]
theorem sc_DayRule___mul__ : FnScope N_DayRule___mul__ P_DayRule___mul__ (defScope s_DayRule___mul__) := ⟨rfl, rfl, rfl, by decide +kernel, rfl, by decide +kernel, by decide +kernel⟩
/-- a rule and its function; all periods divide M -/
structure RuleF (C : Addr) (K : PySem.W.Frag) (H : Hp) (n : Addr) (M : Nat) (F : Int → Int) : Prop where
  ex : ∃ ds, RuleAt C K H n ds ∧ Of F ds ∧ Lp F ds.length
  per : Per F (M : Int)
  mon : Mon F
theorem RuleF.mono {C : Addr} {K : PySem.W.Frag} {H H' : Hp} {n : Addr} {M : Nat} {F : Int → Int} (s : Same H H') (h : RuleF C K H n M F) : RuleF C K H' n M F := by
  obtain ⟨⟨ds, a, b⟩, c, d⟩ := h
  exact ⟨⟨ds, a.mono s, b⟩, c, d⟩
theorem RuleF.at_ {C : Addr} {K : PySem.W.Frag} {H : Hp} {n : Addr} {M : Nat} {F : Int → Int} (h : RuleF C K H n M F) : ∃ dx fs, H n = some (.ins C dx fs) := by
  obtain ⟨⟨ds, ⟨dx, t, e, _⟩, _⟩, _⟩ := h
  exact ⟨_, _, e⟩
theorem RuleF.congr {C : Addr} {K : PySem.W.Frag} {H : Hp} {n : Addr} {M : Nat} {F G : Int → Int} (h : RuleF C K H n M F) (e : ∀ d, F d = G d) : RuleF C K H n M G := by
  have : F = G := funext e
  rw [← this]
  exact h
section
variable {P : Program} {w : World} {K : PySem.W.Frag} {mg : Str → Option Value} {base : Heap} {f C CD CC : Addr} {fd : FuncData}
/-- DayRule(es), es the values of F -/
theorem mk_rule {b : Bool} {n dx l : Addr} {H : Hp} {es : List Int} {F : Int → Int} {M : Nat} {R : Hp → Prop} {E : XK} (n1 : H n = none) (n2 : H dx = none) (n3 : dx ≠ n) (hA : H l = some (bO b (es.map V.int))) (hl : es.length ≤ 100000) (o : Of F es) (mo : Mon F) (pm : Per F (M : Int)) (q : ∀ H', Same H H' → RuleF C K H' n M F → R H') :
    spInit C CD K [.ref n, .ref l] (upd (upd H dx (.own n)) n (.ins C dx [])) (fun v H2 => v = .non ∧ R H2) E := by
  have g := Gd.of o mo
  have s1 : Same H (upd (upd H dx (.own n)) n (.ins C dx [])) := Z.Same.mut (same_new n2) n1
  refine ⟨b, n, dx, l, es, rfl, upd_same, s1 _ _ hA, hl, fun hf p H1 sb lp r => ⟨rfl, ?_⟩, fun i hf => by rw [g.fault] at hf; cases hf⟩
  have e : dv es = F := funext o.dv
  rw [e] at lp
  obtain ⟨h1, h2, h3⟩ := o.take lp
  exact q H1 (fun c x h => sb c x (ne_of_none h n1) (s1 _ _ h)) ⟨⟨_, r, h3, by rw [h2]; exact lp⟩, pm, mo⟩
def spOp (C : Addr) (K : PySem.W.Frag) (h : (Int → Int) → (Int → Int) → Int → Int) : Sp := fun vs H Q _ => ∃ (n m : Addr) (M : Nat) (F G : Int → Int), vs = [.ref n, .ref m] ∧ RuleF C K H n M F ∧ RuleF C K H m M G ∧ 0 < M ∧ M ≤ 30000 ∧ ∀ (r : Addr) H', Same H H' → RuleF C K H' r M (h F G) → Q (.ref r) H'
theorem rd_bin {n m : Addr} {H : Hp} {M : Nat} {F G : Int → Int} {h : (Int → Int) → (Int → Int) → Int → Int} {R : VK} (hF : RuleF C K H n M F) (hG : RuleF C K H m M G) (h0 : 0 < M) (h1 : M ≤ 30000) (q : ∀ (r : Addr) H', Same H H' → RuleF C K H' r M (h F G) → R (.ref r) H') : rBin C (spOp C K h) (.ref n) (.ref m) H R := by
  obtain ⟨dx, fs, e⟩ := hF.at_
  obtain ⟨dy, gs, e2⟩ := hG.at_
  exact ⟨n, m, dx, dy, fs, gs, rfl, rfl, e, e2, n, m, M, F, G, rfl, hF, hG, h0, h1, fun r H' s hr => ⟨r, rfl, q r H' s hr⟩⟩
theorem lp_le {F : Int → Int} {p M : Nat} (l : Lp F p) (h0 : 0 < M) (h : Per F (M : Int)) : p ≤ M := l.least M h0 h
theorem lcm_le {F G : Int → Int} {p q M : Nat} (l : Lp F p) (k : Lp G q) (h0 : 0 < M) (h : Per F (M : Int)) (h2 : Per G (M : Int)) : 0 < Nat.lcm p q ∧ Nat.lcm p q ≤ M ∧ Per F ((Nat.lcm p q : Nat) : Int) ∧ Per G ((Nat.lcm p q : Nat) : Int) := by
  have d1 := Nat.dvd_of_mod_eq_zero (l.dvd h)
  have d2 := Nat.dvd_of_mod_eq_zero (k.dvd h2)
  exact ⟨Nat.lcm_pos l.pos k.pos, Nat.le_of_dvd h0 (Nat.lcm_dvd d1 d2), l.per.dvd (Nat.mod_eq_zero_of_dvd (Nat.dvd_lcm_left p q)), k.per.dvd (Nat.mod_eq_zero_of_dvd (Nat.dvd_lcm_right p q))⟩
theorem ok_rshift (F : FnM K "__rshift__" "DayRule.__rshift__" s_DayRule___rshift__ f fd) (m_range : mg "range" = none) (cls : Cls K C) (n_days : NoAttr K C "days") (c_day_at : Cal P w K mg base 1 "day_at" (spDayAt K)) (c_common_period : Cal P w K mg base 2 "common_period" (spPer C K)) (k_DayRule : MakX P w K mg base 4 "DayRule" C (spInit C CD K)) : FnOk P w K mg base CX0 6 f fd P_DayRule___rshift__ (spOp C K fun F G d => G (F d)) := by
  refine F.ok sc_DayRule___rshift__ (fun vs H Q E h => ?_) (fun cdv A outer s H vs Q E hr h => ?_)
  · obtain ⟨n, m, M, F, G, rfl, _⟩ := h
    rfl
  · obtain ⟨n, m, M, F, G, rfl, hF, hG, m0, m1, q⟩ := h
    refine ⟨_, PSs.nox (pss_cons (ps_set (i := 2) sc_DayRule___rshift__.nd rfl (by first | exact .inl rfl | exact .inr rfl) (pe_cl c_common_period hr (by decide) (by rfl) (pa_cons (pe_lst (pa_cons (pv 0) (pa_cons (pv 1) pa_nil))) pa_nil)))
      (pss_one (ps_ret (pe_mkE k_DayRule (fun _ => passS0) hr (by decide) (by rfl) (pa_cons (pe_lc (own := [("day", 3)]) (g := (gName 3)) (tt := tYes) (by rfl) sc_DayRule___rshift__.nd (pi_range1 (by rfl) m_range (pa_cons (pv 2) pa_nil)) (blkOk_by (own := [("day", 3)]) (N := N_DayRule___rshift__) (sc := defScope s_DayRule___rshift__) (by decide +kernel)) (fun _ _ _ _ _ => (pg_name (i := 3) sc_DayRule___rshift__.nd rfl (by first | exact .inl rfl | exact .inr rfl))) (fun _ _ _ _ _ => pts_nil) (fun _ _ _ _ _ => (pe_cl c_day_at hr (by decide) (by rfl) (pa_cons (pe_fld_K (K := K) rfl (pv 1) rfl) (pa_cons (pe_cl c_day_at hr (by decide) (by rfl) (pa_cons (pe_fld_K (K := K) rfl (pv 0) rfl) (pa_cons (pv 3) pa_nil))) pa_nil))))) pa_nil))))), ?_⟩
    obtain ⟨⟨ds, rN, oF, lF⟩, pF, moF⟩ := hF
    obtain ⟨⟨es, rM, oG, lG⟩, pG, moG⟩ := hG
    have lds := lp_le lF m0 pF
    have les := lp_le lG m0 pG
    obtain ⟨k0, k1, pF2, pG2⟩ := lcm_le lF lG m0 pF pG
    walk_at "go"
    intro l nl
    generalize eH_ : upd H l _ = H1
    have s1 : Same H H1 := by rw [← eH_]; exact same_new nl
    have el : H1 l = some (.lst [.ref n, .ref m]) := by rw [← eH_]; exact upd_same
    clear eH_
    have rN1 := rN.mono s1
    have rM1 := rM.mono s1
    walk_at "go"
    refine ⟨l, n, m, ds, es, rfl, el, rN1, rM1, oF.pos, oG.pos, by omega, by omega, fun H2 s2 => ?_⟩
    generalize Nat.lcm ds.length es.length = N at k0 k1 pF2 pG2 ⊢
    obtain ⟨dx, t, a1, a2⟩ := rN1.mono s2
    obtain ⟨dy, u, b1, b2⟩ := rM1.mono s2
    walk_at "go"
    intro D nD
    refine lc_rng (K := K) (n := N) (fun k => G (F (k : Int))) (by omega) nD (fun _ => rfl) ?_ ?_
    · intro k H3 Q1 hk s3 q1
      have a13 := s3 _ _ a1
      have b13 := s3 _ _ b1
      walk_at "go"
      refine ⟨false, t, ds, _, rfl, SqT.of (s3 _ _ a2), oF.pos, by omega, ?_⟩
      walk_at "go"
      refine ⟨false, u, es, _, rfl, SqT.of (s3 _ _ b2), oG.pos, by omega, ?_⟩
      rw [oF.dv, oG.dv, Int.zero_add]
      exact q1 _ (Same.refl _)
    intro H3 s3 eD
    walk_at "go"
    intro r dz n1 n2 n3
    refine mk_rule (b := true) n1 n2 n3 eD ?_ (of_range (F := fun d => G (F d)) k0 (pF2.comp pG2)) (moF.comp moG) (pF.comp pG) (fun H4 s4 rF => ?_)
    · rw [List.length_map, List.length_range]
      omega
    exact q r H4 (s1.trans (s2.trans (s3.trans s4))) rF
theorem ok_or (F : FnM K "__or__" "DayRule.__or__" s_DayRule___or__ f fd) (m_range : mg "range" = none) (m_max : mg "max" = none) (cls : Cls K C) (n_days : NoAttr K C "days") (c_day_at : Cal P w K mg base 1 "day_at" (spDayAt K)) (c_common_period : Cal P w K mg base 2 "common_period" (spPer C K)) (k_DayRule : MakX P w K mg base 4 "DayRule" C (spInit C CD K)) : FnOk P w K mg base CX0 6 f fd P_DayRule___or__ (spOp C K fun F G d => max (F d) (G d)) := by
  refine F.ok sc_DayRule___or__ (fun vs H Q E h => ?_) (fun cdv A outer s H vs Q E hr h => ?_)
  · obtain ⟨n, m, M, F, G, rfl, _⟩ := h
    rfl
  · obtain ⟨n, m, M, F, G, rfl, hF, hG, m0, m1, q⟩ := h
    refine ⟨_, PSs.nox (pss_cons (ps_set (i := 2) sc_DayRule___or__.nd rfl (by first | exact .inl rfl | exact .inr rfl) (pe_cl c_common_period hr (by decide) (by rfl) (pa_cons (pe_lst (pa_cons (pv 0) (pa_cons (pv 1) pa_nil))) pa_nil)))
      (pss_one (ps_ret (pe_mkE k_DayRule (fun _ => passS0) hr (by decide) (by rfl) (pa_cons (pe_lc (own := [("day", 3)]) (g := (gName 3)) (tt := tYes) (by rfl) sc_DayRule___or__.nd (pi_range1 (by rfl) m_range (pa_cons (pv 2) pa_nil)) (blkOk_by (own := [("day", 3)]) (N := N_DayRule___or__) (sc := defScope s_DayRule___or__) (by decide +kernel)) (fun _ _ _ _ _ => (pg_name (i := 3) sc_DayRule___or__.nd rfl (by first | exact .inl rfl | exact .inr rfl))) (fun _ _ _ _ _ => pts_nil) (fun _ _ _ _ _ => (pe_callB (call_max2 rfl) (by rfl) m_max (by decide +kernel) (pa_cons (pe_cl c_day_at hr (by decide) (by rfl) (pa_cons (pe_fld_K (K := K) rfl (pv 0) rfl) (pa_cons (pv 3) pa_nil))) (pa_cons (pe_cl c_day_at hr (by decide) (by rfl) (pa_cons (pe_fld_K (K := K) rfl (pv 1) rfl) (pa_cons (pv 3) pa_nil))) pa_nil))))) pa_nil))))), ?_⟩
    obtain ⟨⟨ds, rN, oF, lF⟩, pF, moF⟩ := hF
    obtain ⟨⟨es, rM, oG, lG⟩, pG, moG⟩ := hG
    have lds := lp_le lF m0 pF
    have les := lp_le lG m0 pG
    obtain ⟨k0, k1, pF2, pG2⟩ := lcm_le lF lG m0 pF pG
    walk_at "go"
    intro l nl
    generalize eH_ : upd H l _ = H1
    have s1 : Same H H1 := by rw [← eH_]; exact same_new nl
    have el : H1 l = some (.lst [.ref n, .ref m]) := by rw [← eH_]; exact upd_same
    clear eH_
    have rN1 := rN.mono s1
    have rM1 := rM.mono s1
    walk_at "go"
    refine ⟨l, n, m, ds, es, rfl, el, rN1, rM1, oF.pos, oG.pos, by omega, by omega, fun H2 s2 => ?_⟩
    generalize Nat.lcm ds.length es.length = N at k0 k1 pF2 pG2 ⊢
    obtain ⟨dx, t, a1, a2⟩ := rN1.mono s2
    obtain ⟨dy, u, b1, b2⟩ := rM1.mono s2
    walk_at "go"
    intro D nD
    refine lc_rng (K := K) (n := N) (fun k => max (F (k : Int)) (G (k : Int))) (by omega) nD (fun _ => rfl) ?_ ?_
    · intro k H3 Q1 hk s3 q1
      have a13 := s3 _ _ a1
      have b13 := s3 _ _ b1
      walk_at "go"
      refine ⟨false, t, ds, _, rfl, SqT.of (s3 _ _ a2), oF.pos, by omega, ?_⟩
      walk_at "go"
      refine ⟨false, u, es, _, rfl, SqT.of (s3 _ _ b2), oG.pos, by omega, ?_⟩
      rw [oF.dv, oG.dv, Int.zero_add]
      have z := q1 _ (Same.refl _)
      rw [show max (F (k : Int)) (G (k : Int)) = if G (k : Int) > F (k : Int) then G (k : Int) else F (k : Int) by (split <;> omega)] at z
      exact ⟨_, _, rfl, z⟩
    intro H3 s3 eD
    walk_at "go"
    intro r dz n1 n2 n3
    refine mk_rule (b := true) n1 n2 n3 eD ?_ (of_range (F := fun d => max (F d) (G d)) k0 (pF2.max pG2)) (moF.max moG) (pF.max pG) (fun H4 s4 rF => ?_)
    · rw [List.length_map, List.length_range]
      omega
    exact q r H4 (s1.trans (s2.trans (s3.trans s4))) rF
theorem ok_and (F : FnM K "__and__" "DayRule.__and__" s_DayRule___and__ f fd) (m_range : mg "range" = none) (m_min : mg "min" = none) (cls : Cls K C) (n_days : NoAttr K C "days") (c_day_at : Cal P w K mg base 1 "day_at" (spDayAt K)) (c_common_period : Cal P w K mg base 2 "common_period" (spPer C K)) (k_DayRule : MakX P w K mg base 4 "DayRule" C (spInit C CD K)) : FnOk P w K mg base CX0 6 f fd P_DayRule___and__ (spOp C K fun F G d => min (F d) (G d)) := by
  refine F.ok sc_DayRule___and__ (fun vs H Q E h => ?_) (fun cdv A outer s H vs Q E hr h => ?_)
  · obtain ⟨n, m, M, F, G, rfl, _⟩ := h
    rfl
  · obtain ⟨n, m, M, F, G, rfl, hF, hG, m0, m1, q⟩ := h
    refine ⟨_, PSs.nox (pss_cons (ps_set (i := 2) sc_DayRule___and__.nd rfl (by first | exact .inl rfl | exact .inr rfl) (pe_cl c_common_period hr (by decide) (by rfl) (pa_cons (pe_lst (pa_cons (pv 0) (pa_cons (pv 1) pa_nil))) pa_nil)))
      (pss_one (ps_ret (pe_mkE k_DayRule (fun _ => passS0) hr (by decide) (by rfl) (pa_cons (pe_lc (own := [("day", 3)]) (g := (gName 3)) (tt := tYes) (by rfl) sc_DayRule___and__.nd (pi_range1 (by rfl) m_range (pa_cons (pv 2) pa_nil)) (blkOk_by (own := [("day", 3)]) (N := N_DayRule___and__) (sc := defScope s_DayRule___and__) (by decide +kernel)) (fun _ _ _ _ _ => (pg_name (i := 3) sc_DayRule___and__.nd rfl (by first | exact .inl rfl | exact .inr rfl))) (fun _ _ _ _ _ => pts_nil) (fun _ _ _ _ _ => (pe_callB (call_min2 rfl) (by rfl) m_min (by decide +kernel) (pa_cons (pe_cl c_day_at hr (by decide) (by rfl) (pa_cons (pe_fld_K (K := K) rfl (pv 0) rfl) (pa_cons (pv 3) pa_nil))) (pa_cons (pe_cl c_day_at hr (by decide) (by rfl) (pa_cons (pe_fld_K (K := K) rfl (pv 1) rfl) (pa_cons (pv 3) pa_nil))) pa_nil))))) pa_nil))))), ?_⟩
    obtain ⟨⟨ds, rN, oF, lF⟩, pF, moF⟩ := hF
    obtain ⟨⟨es, rM, oG, lG⟩, pG, moG⟩ := hG
    have lds := lp_le lF m0 pF
    have les := lp_le lG m0 pG
    obtain ⟨k0, k1, pF2, pG2⟩ := lcm_le lF lG m0 pF pG
    walk_at "go"
    intro l nl
    generalize eH_ : upd H l _ = H1
    have s1 : Same H H1 := by rw [← eH_]; exact same_new nl
    have el : H1 l = some (.lst [.ref n, .ref m]) := by rw [← eH_]; exact upd_same
    clear eH_
    have rN1 := rN.mono s1
    have rM1 := rM.mono s1
    walk_at "go"
    refine ⟨l, n, m, ds, es, rfl, el, rN1, rM1, oF.pos, oG.pos, by omega, by omega, fun H2 s2 => ?_⟩
    generalize Nat.lcm ds.length es.length = N at k0 k1 pF2 pG2 ⊢
    obtain ⟨dx, t, a1, a2⟩ := rN1.mono s2
    obtain ⟨dy, u, b1, b2⟩ := rM1.mono s2
    walk_at "go"
    intro D nD
    refine lc_rng (K := K) (n := N) (fun k => min (F (k : Int)) (G (k : Int))) (by omega) nD (fun _ => rfl) ?_ ?_
    · intro k H3 Q1 hk s3 q1
      have a13 := s3 _ _ a1
      have b13 := s3 _ _ b1
      walk_at "go"
      refine ⟨false, t, ds, _, rfl, SqT.of (s3 _ _ a2), oF.pos, by omega, ?_⟩
      walk_at "go"
      refine ⟨false, u, es, _, rfl, SqT.of (s3 _ _ b2), oG.pos, by omega, ?_⟩
      rw [oF.dv, oG.dv, Int.zero_add]
      have z := q1 _ (Same.refl _)
      rw [show min (F (k : Int)) (G (k : Int)) = if G (k : Int) < F (k : Int) then G (k : Int) else F (k : Int) by (split <;> omega)] at z
      exact ⟨_, _, rfl, z⟩
    intro H3 s3 eD
    walk_at "go"
    intro r dz n1 n2 n3
    refine mk_rule (b := true) n1 n2 n3 eD ?_ (of_range (F := fun d => min (F d) (G d)) k0 (pF2.min pG2)) (moF.min moG) (pF.min pG) (fun H4 s4 rF => ?_)
    · rw [List.length_map, List.length_range]
      omega
    exact q r H4 (s1.trans (s2.trans (s3.trans s4))) rF
def spMul (C CC : Addr) (K : PySem.W.Frag) : Sp := fun vs H Q E => ∃ (n : Addr) (M : Nat) (F : Int → Int) (c : Int), vs = [.ref n, .int c] ∧ RuleF C K H n M F ∧ 0 < M ∧ M ≤ 30000 ∧ (∀ k : Nat, c = (k : Int) → ∀ (r : Addr) H', Same H H' → RuleF C K H' r M (it F k) → Q (.ref r) H') ∧ (c < 0 → ∀ d, H d = none → E (.ref CC) (some d) (upd H d (.xd [("value", .int c)])))
theorem ok_mul (F : FnM K "__mul__" "DayRule.__mul__" s_DayRule___mul__ f fd) (cls : Cls K C) (n_days : NoAttr K C "days") (x_BadCount : Exn P w K mg base "BadCount" CC "value") (c_used_times : Cal P w K mg base 2 "used_times" (spUsedT K)) (k_DayRule : MakX P w K mg base 4 "DayRule" C (spInit C CD K)) : FnOk P w K mg base (L2N.CX P w) 6 f fd P_DayRule___mul__ (spMul C CC K) := by
  refine F.ok sc_DayRule___mul__ (fun vs H Q E h => ?_) (fun cdv A outer s H vs Q E hr h => ?_)
  · obtain ⟨n, M, F, c, rfl, _⟩ := h
    rfl
  · obtain ⟨n, M, F, c, rfl, hF, m0, m1, q, qe⟩ := h
    have tk := takes_fn (P := P) (w := w) (K := K) (mg := mg) (base := base) (N := N_DayRule___mul__) (qual := "DayRule.__mul__") (scope := defScope s_DayRule___mul__) (f := f) (cd := cdv) (A := A) (outer := outer) (s := s) (H := H) (E := E)
    refine ⟨_, (pss_cons (ps_if (pt_cmpR op_lt (pv 1) pe_int (nomark _)) (pss_one (ps_exn rfl tk x_BadCount hr (by decide) (by rfl) (pa_cons (pv 1) pa_nil))) pss_nil)
      (pss_one (ps_ret (pe_mkE k_DayRule (fun σ => L2N.passAt tk σ) hr (by decide) (by rfl) (pa_cons (pe_cl c_used_times hr (by decide) (by rfl) (pa_cons (pe_fld (pv 0) rfl) (pa_cons (pv 1) pa_nil))) pa_nil))))), ?_⟩
    obtain ⟨⟨ds, rN, oF, lF⟩, pF, moF⟩ := hF
    have lds := lp_le lF m0 pF
    obtain ⟨dx, t, a1, a2⟩ := rN
    walk_at "go"
    refine ite2 (fun e => ?_) (fun e => ?_)
    · have e := of_decide_eq_true e
      walk_at "go"
      exact mkx_of (qe e)
    · have e : ¬ c < 0 := fun z => e (decide_eq_true z)
      obtain ⟨k, rfl⟩ := Int.eq_ofNat_of_zero_le (show 0 ≤ c by omega)
      walk_at "go"
      refine ⟨t, ds, F, k, rfl, SqT.of a2, oF, by omega, fun L H1 es s1 eL oL lL => ?_⟩
      walk_at "go"
      intro r dz n1 n2 n3
      refine mk_rule (b := true) n1 n2 n3 eL (by omega) oL (moF.it k) (pF.it k) (fun H4 s4 rF => ?_)
      exact q k rfl r H4 (s1.trans s4) rF
end
end Z
set_option pp.maxSteps 700
set_option Elab.async false
set_option linter.all false
set_option maxRecDepth 100000
set_option maxHeartbeats 4000000
namespace Z
open Dy
open PySem PySem.Spec PyProof.Rows L2
open C8 (pss_cut tCut)
local macro_rules | `(tactic| walk_at "num") => `(tactic| first | rfl | omega | decide | exact Nat.le_of_lt (small1000 (by simp)) | exact ⟨by omega, by omega⟩ | exact ⟨by omega, by omega, by omega⟩ | exact ⟨by decide, by decide, by decide⟩ | exact Or.inl ⟨by omega, by omega⟩ | exact Or.inr ⟨by omega, by omega⟩)
local macro_rules | `(tactic| walk_at "go") => `(tactic| repeat (first | refine ⟨_, rfl, ?_⟩ | refine ⟨_, _, rfl, rfl, ?_⟩ | refine ⟨_, _, rfl, ?_⟩ | (refine ⟨_, _, rfl, rfl, ?_, ?_⟩; focus walk_at "num") | refine Or.inl ⟨_, rfl, ?_⟩ | refine ⟨_, _, _, _, rfl, rfl, (by assumption), (by rfl), ?_⟩ | refine ⟨_, _, _, _, _, rfl, (by assumption), (by assumption), (by assumption), (by rfl), ?_⟩ | refine ⟨rfl, ?_⟩ | (refine And.intro ?_ ?_; focus walk_at "num")))
abbrev s_first : Stmt := topS 23
abbrev N_first : List Str := ["_law_draw", "_law_room", "_law_day", "_law_k"]
abbrev P_first : List Str := ["_law_draw", "_law_room"]
theorem sc_first : FnScope N_first P_first (defScope s_first) := ⟨rfl, rfl, rfl, by decide +kernel, rfl, by decide +kernel, by decide +kernel⟩
abbrev s_size : Stmt := topS 24
abbrev N_size : List Str := ["_law_draws_here", "_law_place", "_law_most"]
abbrev P_size : List Str := ["_law_draws_here", "_law_place", "_law_most"]
theorem sc_size : FnScope N_size P_size (defScope s_size) := ⟨rfl, rfl, rfl, by decide +kernel, rfl, by decide +kernel, by decide +kernel⟩
abbrev s_days : Stmt := topS 25
abbrev N_days : List Str := ["_law_draws_here", "_law_place", "_law_size_here", "_law_day", "_law_left", "_law_days_here", "_law_k", "_law_draw", "_law_step"]
abbrev P_days : List Str := ["_law_draws_here", "_law_place", "_law_size_here"]
theorem sc_days : FnScope N_days P_days (defScope s_days) := ⟨rfl, rfl, rfl, by decide +kernel, rfl, by decide +kernel, by decide +kernel⟩
/-! ### the draws -/
structure Tk (K : PySem.W.Frag) (a p : Addr) (ds : List Int) (n : Nat) (H0 H1 : Hp) : Prop where
  hA : H1 a = some (.lst (ds.map V.int))
  hd : Dr n ds
  ne : a ≠ p
  sb : SB p H0 H1
  pl : ∃ m : Nat, H1 p = some (.lst [.int (m : Int)])
theorem Tk.more {K : PySem.W.Frag} {a p : Addr} {ds : List Int} {n : Nat} {H0 H1 H2 : Hp} (t : Tk K a p ds n H0 H1) (s : Same H1 H2) : Tk K a p ds n H0 H2 := by
  obtain ⟨m, e⟩ := t.pl
  exact ⟨s _ _ t.hA, t.hd, t.ne, t.sb.trans (Z.Same.sb s), m, s _ _ e⟩
theorem Tk.mut {K : PySem.W.Frag} {a p q : Addr} {ds : List Int} {n : Nat} {H0 H1 : Hp} {o : HO} (t : Tk K a p ds n H0 H1) (h : H0 q = none) (h2 : SB q H1 (upd H1 q o)) (nq : q ≠ p) (na : upd H1 q o a = some (.lst (ds.map V.int))) : Tk K a p ds n H0 (upd H1 q o) := by
  obtain ⟨m, e⟩ := t.pl
  refine ⟨na, t.hd, t.ne, fun b u n1 n2 => ?_, m, h2 _ _ nq.symm e⟩
  exact h2 _ _ (ne_of_none n2 h) (t.sb b u n1 n2)
theorem Tk.next {K : PySem.W.Frag} {a p : Addr} {ds : List Int} {n m : Nat} {H0 H1 : Hp} (t : Tk K a p ds n H0 H1) (e : H1 p = some (.lst [.int (m : Int)])) : Tk K a p ds n H0 (upd H1 p (.lst [.int ((m + 1 : Nat) : Int)])) ∧ SB p H1 (upd H1 p (.lst [.int ((m + 1 : Nat) : Int)])) := by
  have sb : SB p H1 (upd H1 p (.lst [.int ((m + 1 : Nat) : Int)])) := SB.upd (Z.Same.sb (Same.refl H1))
  exact ⟨⟨sb _ _ t.ne t.hA, t.hd, t.ne, t.sb.trans sb, m + 1, upd_same⟩, sb⟩

section
variable {P : Program} {w : World} {K : PySem.W.Frag} {mg : Str → Option Value} {base : Heap} {f C CD : Addr} {fd : FuncData}
def spFirst : Sp := fun vs H Q _ => ∃ (d r : Int), vs = [.int d, .int r] ∧ 0 ≤ d ∧ d < 1000000 ∧ 0 ≤ r ∧ r ≤ 100000 ∧ ∀ x : Int, x.natAbs ≤ 10 ^ 41 → Q (.int x) H
theorem ok_first (F : FnP K "_law_first" s_first f fd) (m_int : mg "int" = none) (m_range : mg "range" = none) : FnOk P w K mg base CX0 1 f fd P_first spFirst := by
  refine F.ok sc_first (fun vs H Q E h => ?_) (fun cdv A outer s H vs Q E hr h => ?_)
  · obtain ⟨d, r, rfl, _⟩ := h
    rfl
  · obtain ⟨d, r, rfl, h0, h1, hr0, hr1, q⟩ := h
    refine ⟨_, PSs.nox (pss_cons (ps_set (i := 2) sc_first.nd rfl (by first | exact .inl rfl | exact .inr rfl) (pe_op op_sub (pe_op op_mod (pe_callTy call_int1 (by rfl) m_int (by decide +kernel) (pa_cons (pe_op op_fdiv (pe_callTy call_int1 (by rfl) m_int (by decide +kernel) (pa_cons (pv 0) pa_nil)) pe_int) pa_nil)) pe_int) pe_int))
      (pss_cut (ps_if (pt_cmpR op_eq (pe_op op_mod (pe_callTy call_int1 (by rfl) m_int (by decide +kernel) (pa_cons (pv 0) pa_nil)) pe_int) pe_int (nomark _)) (pss_one (ps_for PassesOwn.never rfl (pi_range1 (by rfl) m_range (pa_cons (pe_op op_mod (pe_callTy call_int1 (by rfl) m_int (by decide +kernel) (pa_cons (pe_op op_fdiv (pe_callTy call_int1 (by rfl) m_int (by decide +kernel) (pa_cons (pv 0) pa_nil)) pe_int) pa_nil)) pe_int) pa_nil)) (pg_name (i := 3) sc_first.nd rfl (by first | exact .inl rfl | exact .inr rfl))
        (pss_one (ps_set (i := 2) sc_first.nd rfl (by first | exact .inl rfl | exact .inr rfl) (pe_op op_add (pe_op op_mul (pv 2) pe_int) (pe_op op_mod (pe_callTy call_int1 (by rfl) m_int (by decide +kernel) (pa_cons (pe_op op_fdiv (pe_callTy call_int1 (by rfl) m_int (by decide +kernel) (pa_cons (pv 0) pa_nil)) (pe_op op_add (pv 3) pe_int)) pa_nil)) pe_int)))))) pss_nil)
      (pss_cut (ps_if (pt_cmpR op_eq (pe_op op_mod (pe_callTy call_int1 (by rfl) m_int (by decide +kernel) (pa_cons (pv 0) pa_nil)) pe_int) pe_int (nomark _)) (pss_cons (ps_set (i := 2) sc_first.nd rfl (by first | exact .inl rfl | exact .inr rfl) (pe_op op_sub (pe_op op_sub (pe_op op_pow pe_int pe_int) pe_int) (pv 1)))
      (pss_one (ps_if (pt_cmpR op_eq (pe_op op_mod (pe_callTy call_int1 (by rfl) m_int (by decide +kernel) (pa_cons (pe_op op_fdiv (pe_callTy call_int1 (by rfl) m_int (by decide +kernel) (pa_cons (pv 0) pa_nil)) pe_int) pa_nil)) pe_int) pe_int (nomark _)) (pss_one (ps_set (i := 2) sc_first.nd rfl (by first | exact .inl rfl | exact .inr rfl) (pe_op op_sub (pe_op op_add (pv 1) pe_int) (pe_op op_pow pe_int pe_int)))) pss_nil))) pss_nil)
      (pss_one (ps_ret (pv 2)))))), ?_⟩
    walk_at "go"
    refine ⟨fun σ' H' => H' = H ∧ ∃ (x : Int) (v3 : Option V), x.natAbs ≤ 10 ^ 41 ∧ σ' = [some (.int d), some (.int r), some (.int x), v3], ?_, ?_⟩
    · walk_at "go"
      refine ite2 (fun e => ?_) (fun e => ?_)
      rotate_left
      · exact ⟨rfl, d / 8 % 41 - 20, none, by omega, rfl⟩
      walk_at "go"
      refine for_gen (n := (d / 328 % 37).toNat) (fun i σ H1 => H1 = H ∧ ∃ (x : Int) (v3 : Option V), x.natAbs < 21 * 10 ^ i ∧ σ = [some (.int d), some (.int r), some (.int x), v3]) ⟨rfl, d / 8 % 41 - 20, none, by omega, rfl⟩ (fun i σ H1 hi _ => hi) (fun σ H1 _ => Nat.le_refl _) ?_ ?_
      · rintro i σ H1 x H' hi ⟨rfl, x2, v3, hx, rfl⟩ ⟨rfl, rfl⟩
        have e10 : 10 ^ (i + 1) = 10 ^ i * 10 := Nat.pow_succ ..
        walk_at "go"
        refine ⟨x2 * 10 + d / (0 + (i : Int) + 2) % 10, some (.int (0 + (i : Int))), ?_, rfl⟩
        rw [e10]
        generalize 10 ^ i = p at *
        omega
      · rintro σ H1 ⟨rfl, x, v3, hx, rfl⟩
        refine ⟨rfl, x, v3, ?_, rfl⟩
        have h36 : (d / 328 % 37).toNat ≤ 36 := by omega
        have hpow : 10 ^ (d / 328 % 37).toNat ≤ 10 ^ 36 := Nat.pow_le_pow_right (by decide) h36
        omega
    rintro σ' H1 ⟨e1, x, v3, hx, rfl⟩
    rw [e1]
    clear e1 H1
    refine ⟨fun σ' H' => H' = H ∧ ∃ (x : Int) (v3 : Option V), x.natAbs ≤ 10 ^ 41 ∧ σ' = [some (.int d), some (.int r), some (.int x), v3], ?_, ?_⟩
    · walk_at "go"
      refine ite2 (fun e => ?_) (fun e => ?_)
      rotate_left
      · exact ⟨rfl, x, v3, hx, rfl⟩
      walk_at "go"
      refine ite2 (fun e => ?_) (fun e => ?_)
      rotate_left
      · exact ⟨rfl, 10 ^ 40 - 1 - r, v3, by omega, rfl⟩
      walk_at "go"
      exact ⟨r + 1 - 10 ^ 40, v3, by omega, rfl⟩
    rintro σ' H1 ⟨e1, x, v3, hx, rfl⟩
    rw [e1]
    walk_at "go"
    exact q x hx
def spSize (K : PySem.W.Frag) : Sp := fun vs H Q _ => ∃ (a p : Addr) (n m : Nat) (ds : List Int), vs = [.ref a, .ref p, .int (m : Int)] ∧ Tk K a p ds n H H ∧ 0 < m ∧ ∀ (r : Nat) H', Tk K a p ds n H H' → 0 < r → r ≤ m → Q (.int (r : Int)) H'
theorem ok_size (F : FnP K "_law_size" s_size f fd) (m_int : mg "int" = none) (c_take : Cal P w K mg base 1 "_law_take" (spTake K)) : FnOk P w K mg base CX0 2 f fd P_size (spSize K) := by
  refine F.ok sc_size (fun vs H Q E h => ?_) (fun cdv A outer s H vs Q E hr h => ?_)
  · obtain ⟨a, p, n, m, ds, rfl, _⟩ := h
    rfl
  · obtain ⟨a, p, n, m, ds, rfl, hT, hm, q⟩ := h
    refine ⟨_, PSs.nox (pss_one (ps_ret (pe_op op_add pe_int (pe_op op_mod (pe_callTy call_int1 (by rfl) m_int (by decide +kernel) (pa_cons (pe_cl c_take hr (by decide) (by rfl) (pa_cons (pv 0) (pa_cons (pv 1) pa_nil))) pa_nil)) (pv 2))))), ?_⟩
    walk_at "go"
    obtain ⟨mm, em⟩ := hT.pl
    refine ⟨a, p, n, mm, ds, rfl, SqL.of hT.hA, hT.hd, em, hT.ne, fun r r0 r1 => ?_⟩
    obtain ⟨hT', _⟩ := hT.next em
    walk_at "go"
    have h1 := Int.emod_nonneg r (show (m : Int) ≠ 0 by omega)
    have h2 := Int.emod_lt_of_pos r (show 0 < (m : Int) by omega)
    obtain ⟨c, hc⟩ := Int.eq_ofNat_of_zero_le (show 0 ≤ 1 + r % (m : Int) by omega)
    have z := q c _ hT' (by omega) (by omega)
    rw [← hc] at z
    exact z
end
end Z
set_option pp.maxSteps 700
set_option Elab.async false
set_option linter.all false
set_option maxRecDepth 100000
set_option maxHeartbeats 4000000
namespace Z
open Dy
open PySem PySem.Spec PyProof.Rows L2
open C8 (pss_cut tCut)
local macro_rules | `(tactic| walk_at "num") => `(tactic| first | rfl | omega | decide | exact Nat.le_of_lt (small1000 (by simp)) | exact ⟨by omega, by omega⟩ | exact ⟨by omega, by omega, by omega⟩ | exact ⟨by decide, by decide, by decide⟩ | exact Or.inl ⟨by omega, by omega⟩ | exact Or.inr ⟨by omega, by omega⟩)
local macro_rules | `(tactic| walk_at "go") => `(tactic| repeat (first | refine ⟨_, rfl, ?_⟩ | refine ⟨_, _, rfl, rfl, ?_⟩ | refine ⟨_, _, rfl, ?_⟩ | (refine ⟨_, _, rfl, rfl, ?_, ?_⟩; focus walk_at "num") | refine Or.inl ⟨_, rfl, ?_⟩ | refine ⟨_, _, _, _, rfl, rfl, (by assumption), (by rfl), ?_⟩ | refine ⟨_, _, _, _, _, rfl, (by assumption), (by assumption), (by assumption), (by rfl), ?_⟩ | refine ⟨rfl, ?_⟩ | (refine And.intro ?_ ?_; focus walk_at "num")))
section
variable {P : Program} {w : World} {K : PySem.W.Frag} {mg : Str → Option Value} {base : Heap} {f C CD : Addr} {fd : FuncData}
theorem getD_app_left {xs ys : List Int} {i : Nat} (h : i < xs.length) : (xs ++ ys).getD i 0 = xs.getD i 0 := by
  rw [List.getD_eq_getElem?_getD, List.getD_eq_getElem?_getD, List.getElem?_append_left h]
theorem getD_app_last {xs : List Int} {y : Int} : (xs ++ [y]).getD xs.length 0 = y := by
  rw [List.getD_eq_getElem?_getD, List.getElem?_append_right (Nat.le_refl _), Nat.sub_self]
  rfl
/-! ### _law_days -/
def spDays (K : PySem.W.Frag) : Sp := fun vs H Q _ => ∃ (a p : Addr) (n sz : Nat) (ds : List Int), vs = [.ref a, .ref p, .int (sz : Int)] ∧ Tk K a p ds n H H ∧ 0 < sz ∧ sz ≤ 1000 ∧ ∀ (L : Addr) H' (es : List Int), H L = none → L ≠ p → Tk K a p ds n H H' → H' L = some (.lst (es.map V.int)) → es.length = sz → Gd es → (es.getD 0 0).natAbs ≤ 10 ^ 41 → Q (.ref L) H'
theorem ok_days (F : FnP K "_law_days" s_days f fd) (m_int : mg "int" = none) (m_range : mg "range" = none) (m_min : mg "min" = none) (c_take : Cal P w K mg base 1 "_law_take" (spTake K)) (c_first : Cal P w K mg base 1 "_law_first" spFirst) : FnOk P w K mg base CX0 2 f fd P_days (spDays K) := by
  refine F.ok sc_days (fun vs H Q E h => ?_) (fun cdv A outer s H vs Q E hr h => ?_)
  · obtain ⟨a, p, n, sz, ds, rfl, _⟩ := h
    rfl
  · obtain ⟨a, p, n, sz, ds, rfl, hT, hz0, hz1, q⟩ := h
    refine ⟨_, PSs.nox (pss_cons (ps_set (i := 3) sc_days.nd rfl (by first | exact .inl rfl | exact .inr rfl) (pe_cl c_first hr (by decide) (by rfl) (pa_cons (pe_cl c_take hr (by decide) (by rfl) (pa_cons (pv 0) (pa_cons (pv 1) pa_nil))) (pa_cons (pe_op op_add (pe_op op_mul pe_int (pv 2)) pe_int) pa_nil))))
      (pss_cons (ps_set (i := 4) sc_days.nd rfl (by first | exact .inl rfl | exact .inr rfl) (pv 2))
      (pss_cons (ps_set (i := 5) sc_days.nd rfl (by first | exact .inl rfl | exact .inr rfl) (pe_lst (pa_cons (pv 3) pa_nil)))
      (pss_cons (ps_for PassesOwn.never rfl (pi_range1 (by rfl) m_range (pa_cons (pe_op op_sub (pv 2) pe_int) pa_nil)) (pg_name (i := 6) sc_days.nd rfl (by first | exact .inl rfl | exact .inr rfl))
        (pss_cons (ps_set (i := 7) sc_days.nd rfl (by first | exact .inl rfl | exact .inr rfl) (pe_callTy call_int1 (by rfl) m_int (by decide +kernel) (pa_cons (pe_cl c_take hr (by decide) (by rfl) (pa_cons (pv 0) (pa_cons (pv 1) pa_nil))) pa_nil)))
      (pss_cons (ps_set (i := 8) sc_days.nd rfl (by first | exact .inl rfl | exact .inr rfl) (pe_callB (call_min2 rfl) (by rfl) m_min (by decide +kernel) (pa_cons (pv 4) (pa_cons (pe_ix ix_list (pe_lst (pa_cons pe_int (pa_cons pe_int (pa_cons pe_int (pa_cons pe_int (pa_cons pe_int (pa_cons pe_int (pa_cons (pe_op op_mod (pe_callTy call_int1 (by rfl) m_int (by decide +kernel) (pa_cons (pe_op op_fdiv (pv 7) pe_int) pa_nil)) pe_int) (pa_cons (pe_op op_mod (pe_callTy call_int1 (by rfl) m_int (by decide +kernel) (pa_cons (pe_op op_fdiv (pv 7) pe_int) pa_nil)) (pe_op op_add (pv 4) pe_int)) pa_nil))))))))) (pe_op op_mod (pe_callTy call_int1 (by rfl) m_int (by decide +kernel) (pa_cons (pv 7) pa_nil)) pe_int) (fun _ _ => rfl)) pa_nil))))
      (pss_cons (ps_set (i := 3) sc_days.nd rfl (by first | exact .inl rfl | exact .inr rfl) (pe_op op_add (pv 3) (pv 8)))
      (pss_cons (ps_set (i := 4) sc_days.nd rfl (by first | exact .inl rfl | exact .inr rfl) (pe_op op_sub (pv 4) (pv 8)))
      (pss_one (ps_expr (pe_bm PySem.F.plainAttrs_list PySem.F.slot_list_append PySem.F.type_list_append mt_append (pv 5) (pa_cons (pv 3) pa_nil)))))))))
      (pss_one (ps_ret (pv 5))))))), ?_⟩
    walk_at "go"
    obtain ⟨mm, em⟩ := hT.pl
    refine ⟨a, p, n, mm, ds, rfl, SqL.of hT.hA, hT.hd, em, hT.ne, fun r r0 r1 => ?_⟩
    obtain ⟨hT1, _⟩ := hT.next em
    generalize upd H p (.lst [.int ((mm + 1 : Nat) : Int)]) = H1 at hT1 ⊢
    walk_at "go"
    intro x0 hx0
    walk_at "go"
    intro L nL
    have sL := same_new (o := .lst [.int x0]) nL
    have hT2 := hT1.more sL
    have eL := upd_same (H := H1) (a := L) (o := .lst [.int x0])
    obtain ⟨m1, em1⟩ := hT1.pl
    have Lp : L ≠ p := (ne_of_none em1 nL).symm
    have nHL : H L = none := by
      cases e : H L with
      | none => rfl
      | some o =>
        have := hT1.sb L o Lp e
        rw [nL] at this
        cases this
    generalize upd H1 L (.lst [.int x0]) = H2 at hT2 eL ⊢
    walk_at "go"
    refine for_gen (n := sz - 1) (fun i σ H3 => ∃ (es : List Int) (x l : Int) (v7 v8 v9 : Option V), Tk K a p ds n H H3 ∧ H3 L = some (.lst (es.map V.int)) ∧ es.length = i + 1 ∧ (∀ j, j < i → es.getD j 0 ≤ es.getD (j + 1) 0) ∧ es.getD i 0 = x ∧ es.getD 0 0 = x0 ∧ 0 ≤ l ∧ x - es.getD 0 0 + l = sz ∧ σ = [some (.ref a), some (.ref p), some (.int (sz : Int)), some (.int x), some (.int l), some (.ref L), v7, v8, v9]) ⟨[x0], x0, sz, none, none, none, hT2, eL, rfl, (fun j hj => by omega), rfl, rfl, by omega, (by show x0 - x0 + (sz : Int) = sz; omega), rfl⟩ ?_ ?_ ?_ ?_
    · intro i σ H3 hi _
      show i < ((sz : Int) - 1).toNat
      omega
    · intro σ H3 _
      show ((sz : Int) - 1).toNat ≤ sz - 1
      omega
    · rintro i σ H3 x H' hi ⟨es, x, l, v7, v8, v9, hT3, eL3, el, ea, ex, ez, l0, ed, rfl⟩ ⟨rfl, rfl⟩
      walk_at "go"
      obtain ⟨mm, em⟩ := hT3.pl
      refine ⟨a, p, n, mm, ds, rfl, SqL.of hT3.hA, hT3.hd, em, hT3.ne, fun r r0 r1 => ?_⟩
      obtain ⟨hT4, sb4⟩ := hT3.next em
      have eL4 := sb4 _ _ Lp eL3
      generalize upd H' p (.lst [.int ((mm + 1 : Nat) : Int)]) = H4 at hT4 eL4 ⊢
      walk_at "go"
      intro B nB
      have sB := same_new (o := .lst [.int 1, .int 1, .int 1, .int 0, .int 0, .int 2, .int (r / 8 % 4), .int (r / 8 % (l + 1))]) nB
      have eB : SqL K (upd H4 B (.lst [.int 1, .int 1, .int 1, .int 0, .int 0, .int 2, .int (r / 8 % 4), .int (r / 8 % (l + 1))])) B (([1, 1, 1, 0, 0, 2, r / 8 % 4, r / 8 % (l + 1)] : List Int).map V.int) := SqL.of upd_same
      have hT5 := hT4.more sB
      have eL5 := sB _ _ eL4
      generalize upd H4 B (.lst [.int 1, .int 1, .int 1, .int 0, .int 0, .int 2, .int (r / 8 % 4), .int (r / 8 % (l + 1))]) = H5 at hT5 eL5 eB ⊢
      obtain ⟨y, y0, ey⟩ : ∃ y : Int, 0 ≤ y ∧ atI (([1, 1, 1, 0, 0, 2, r / 8 % 4, r / 8 % (l + 1)] : List Int).map V.int) (r % 8) = some (.int y) := by
        have hp : ∀ y ∈ ([1, 1, 1, 0, 0, 2, r / 8 % 4, r / 8 % (l + 1)] : List Int), 0 ≤ y := by
          have h1 : 0 ≤ r / 8 % (l + 1) := Int.emod_nonneg _ (by omega)
          intro y hy
          simp only [List.mem_cons, List.not_mem_nil, or_false] at hy
          omega
        have hj : (r % 8).toNat < ([1, 1, 1, 0, 0, 2, r / 8 % 4, r / 8 % (l + 1)] : List Int).length := by
          show (r % 8).toNat < 8
          omega
        refine ⟨_, hp _ (List.getElem_mem hj), at_of (j := (r % 8).toNat) (by omega) ?_⟩
        rw [List.getElem?_map, List.getElem?_eq_getElem hj]
        rfl
      walk_at "go"
      refine ⟨B, _, _, _, rfl, rfl, eB, ey, ?_⟩
      walk_at "go"
      refine ⟨.inl ⟨rfl, _, .inl (.inl eL5)⟩, ?_⟩
      walk_at "go"
      refine ⟨_, _, _, rfl, rfl, eL5, ?_, ?_⟩
      · rw [List.length_map, el]
        exact Nat.lt_of_le_of_lt (show i + 1 ≤ 1000 by omega) (by decide)
      have hst : 0 ≤ (if y < l then y else l) ∧ (if y < l then y else l) ≤ l := by split <;> omega
      generalize (if y < l then y else l) = st at hst
      have sbL : SB L H5 (upd H5 L (.lst (es.map V.int ++ [.int (x + st)]))) := SB.upd (Z.Same.sb (Same.refl _))
      have aL : a ≠ L := fun z => by
        have := hT.hA
        rw [z, nHL] at this
        cases this
      have hT6 : Tk K a p ds n H (upd H5 L (.lst (es.map V.int ++ [.int (x + st)]))) := hT5.mut nHL sbL Lp (sbL _ _ aL hT5.hA)
      refine ⟨es ++ [x + st], x + st, l - st, _, _, _, hT6, by rw [upd_same, List.map_append]; rfl, by rw [List.length_append, el]; rfl, fun j hj => ?_, ?_, (by rw [getD_app_left (by omega)]; exact ez), by omega, ?_, rfl⟩
      · by_cases c : j < i
        · rw [getD_app_left (by omega), getD_app_left (by omega)]
          exact ea j c
        · obtain rfl : j = i := by omega
          rw [getD_app_left (by omega), ← el, getD_app_last, ex]
          omega
      · rw [← el]
        exact getD_app_last
      · rw [getD_app_left (by omega)]
        omega
    · rintro σ H3 ⟨es, x, l, v7, v8, v9, hT3, eL3, el, ea, ex, ez, l0, ed, rfl⟩
      walk_at "go"
      refine q L H3 es nHL Lp hT3 eL3 (by omega) ⟨by omega, fun j hj => ea j (by omega), ?_⟩ (by rw [ez]; exact hx0)
      rw [el, show sz - 1 + 1 - 1 = sz - 1 by omega, ex]
      omega
end
end Z
set_option Elab.async false
set_option linter.all false
namespace Dy
/-! ### the adjoints exist -/
theorem search {F : Int → Int} {l : Int} : ∀ (n : Nat) (lo : Int), F lo ≤ l → l < F (lo + n) → ∃ x, F x ≤ l ∧ l < F (x + 1)
  | 0, lo, h1, h2 => by
    rw [show lo + ((0 : Nat) : Int) = lo by simp] at h2
    omega
  | n + 1, lo, h1, h2 => by
    by_cases c : F (lo + 1) ≤ l
    · refine search n (lo + 1) c ?_
      rw [show lo + 1 + (n : Int) = lo + ((n + 1 : Nat) : Int) by omega]
      exact h2
    · exact ⟨lo, h1, by omega⟩
theorem lat_at {F : Int → Int} {n : Nat} (hn : 0 < n) (m : Mon F) (p : Per F (n : Int)) (l : Int) : ∃ x, ∀ d, F d ≤ l ↔ d ≤ x := by
  have nn : (1 : Int) ≤ n := by omega
  have h1 := p.imul (-((F 0 - l).toNat : Int)) 0
  have h2 := p.imul ((l - F 0).toNat + 1 : Int) 0
  have e1 : ((F 0 - l).toNat : Int) * 1 ≤ ((F 0 - l).toNat : Int) * n := Int.mul_le_mul_of_nonneg_left nn (by omega)
  have e2 : ((l - F 0).toNat + 1 : Int) * 1 ≤ ((l - F 0).toNat + 1 : Int) * n := Int.mul_le_mul_of_nonneg_left nn (by omega)
  rw [Int.neg_mul] at h1
  generalize ((F 0 - l).toNat : Int) * n = a at *
  generalize ((l - F 0).toNat + 1 : Int) * n = b at *
  obtain ⟨x, x1, x2⟩ := search (F := F) (l := l) (b + a).toNat (0 + -a) (by omega) (by
    rw [show (0 + -a) + ((b + a).toNat : Int) = 0 + b by omega]
    omega)
  refine ⟨x, fun d => ⟨fun h => ?_, fun h => ?_⟩⟩
  · apply Decidable.byContradiction
    intro z
    have := m.le (show x + 1 ≤ d by omega)
    omega
  · have := m.le h
    omega
theorem lat_ex {F : Int → Int} {n : Nat} (hn : 0 < n) (m : Mon F) (p : Per F (n : Int)) : ∃ L, Lat F L := by
  refine ⟨fun l => Classical.choose (lat_at hn m p l), fun d l => ?_⟩
  exact Classical.choose_spec (lat_at hn m p l) d
/-- the greatest day of the rest r at which F is at most 0 -/
def gr (ds : List Int) (r : Nat) : Int := r + (ds.length : Int) * ((0 - ds.getD r 0) / (ds.length : Int))
theorem gr_le {F L : Int → Int} {ds : List Int} (o : Of F ds) (a : Lat F L) (r : Nat) (hr : r < ds.length) : gr ds r ≤ L 0 := by
  refine (a _ _).mp ?_
  have hn : (0 : Int) < ds.length := by have := o.pos; omega
  have h := o.per.imul ((0 - ds.getD r 0) / (ds.length : Int)) (r : Int)
  have h2 := Int.emod_add_mul_ediv (0 - ds.getD r 0) (ds.length : Int)
  have h3 := Int.emod_nonneg (0 - ds.getD r 0) (show (ds.length : Int) ≠ 0 by omega)
  unfold gr
  rw [Int.mul_comm, h, ← o.at_ r hr, Int.mul_comm]
  omega
theorem gr_top {F L : Int → Int} {ds : List Int} (o : Of F ds) (a : Lat F L) : ∃ r, r < ds.length ∧ gr ds r = L 0 := by
  have hn : (0 : Int) < ds.length := by have := o.pos; omega
  have h1 := Int.emod_nonneg (L 0) (show (ds.length : Int) ≠ 0 by omega)
  have h2 := Int.emod_lt_of_pos (L 0) hn
  have h3 := Int.emod_add_mul_ediv (L 0) (ds.length : Int)
  have hr : (L 0 % (ds.length : Int)).toNat < ds.length := by omega
  refine ⟨(L 0 % (ds.length : Int)).toNat, hr, ?_⟩
  have hle := gr_le o a _ hr
  have hF : F (L 0) ≤ 0 := (a _ _).mpr (Int.le_refl _)
  have h4 := o.per.imul (L 0 / (ds.length : Int)) ((L 0 % (ds.length : Int)).toNat : Int)
  rw [← o.at_ _ hr, Int.toNat_of_nonneg h1, Int.mul_comm, h3] at h4
  have h5 : L 0 / (ds.length : Int) ≤ (0 - ds.getD (L 0 % (ds.length : Int)).toNat 0) / (ds.length : Int) := by
    rw [Int.le_ediv_iff_mul_le hn, Int.mul_comm]
    omega
  have h6 := Int.mul_le_mul_of_nonneg_left h5 (show (0 : Int) ≤ ds.length by omega)
  unfold gr at hle ⊢
  rw [Int.toNat_of_nonneg h1] at hle ⊢
  omega
end Dy
set_option pp.maxSteps 700
set_option Elab.async false
set_option linter.all false
set_option maxRecDepth 100000
set_option maxHeartbeats 4000000
namespace Z
open Dy
open PySem PySem.Spec PyProof.Rows L2
open C8 (pss_cut tCut)
local macro_rules | `(tactic| walk_at "num") => `(tactic| first | rfl | omega | decide | exact Nat.le_of_lt (small1000 (by simp)) | exact ⟨by omega, by omega⟩ | exact ⟨by omega, by omega, by omega⟩ | exact ⟨by decide, by decide, by decide⟩ | exact Or.inl ⟨by omega, by omega⟩ | exact Or.inr ⟨by omega, by omega⟩)
local macro_rules | `(tactic| walk_at "go") => `(tactic| repeat (first | refine ⟨_, rfl, ?_⟩ | refine ⟨_, _, rfl, rfl, ?_⟩ | refine ⟨_, _, rfl, ?_⟩ | (refine ⟨_, _, rfl, rfl, ?_, ?_⟩; focus walk_at "num") | refine Or.inl ⟨_, rfl, ?_⟩ | refine ⟨_, _, _, _, rfl, rfl, (by assumption), (by rfl), ?_⟩ | refine ⟨_, _, _, _, _, rfl, (by assumption), (by assumption), (by assumption), (by rfl), ?_⟩ | refine ⟨rfl, ?_⟩ | (refine And.intro ?_ ?_; focus walk_at "num")))
abbrev s_latest_days : Stmt := topS 12
abbrev N_latest_days : List Str := ["days", "many", "at", "last", "found", "limit"]
abbrev P_latest_days : List Str := ["days"]
theorem sc_latest_days : FnScope N_latest_days P_latest_days (defScope s_latest_days) := ⟨rfl, rfl, rfl, by decide +kernel, rfl, by decide +kernel, by decide +kernel⟩
abbrev s_DayRule_latest : Stmt := inClass (topS 14) 8
abbrev N_DayRule_latest : List Str := ["self"]
abbrev P_DayRule_latest : List Str := ["self"]
theorem sc_DayRule_latest : FnScope N_DayRule_latest P_DayRule_latest (defScope s_DayRule_latest) := ⟨rfl, rfl, rfl, by decide +kernel, rfl, by decide +kernel, by decide +kernel⟩
theorem RuleF.at2 {C : Addr} {K : PySem.W.Frag} {H : Hp} {n : Addr} {M : Nat} {F : Int → Int} (h : RuleF C K H n M F) : ∃ dx t, H n = some (.ins C dx [("days", .ref t)]) := by
  obtain ⟨⟨ds, ⟨dx, t, e, _⟩, _⟩, _⟩ := h
  exact ⟨_, _, e⟩
section
variable {P : Program} {w : World} {K : PySem.W.Frag} {mg : Str → Option Value} {base : Heap} {f C CD CC : Addr} {fd : FuncData}
/-! ### latest_days -/
def spLatD (K : PySem.W.Frag) : Sp := fun vs H Q _ => ∃ (a : Addr) (ds : List Int) (F L : Int → Int), vs = [.ref a] ∧ SqT K H a (ds.map V.int) ∧ Of F ds ∧ ds.length ≤ 30000 ∧ Lat F L ∧
  ∀ (D : Addr) H' (es : List Int), Same H H' → H' D = some (.lst (es.map V.int)) → Of L es → es.length = ds.length → Q (.ref D) H'
theorem ok_latest_days (F : FnP K "latest_days" s_latest_days f fd) (m_len : mg "len" = none) (m_range : mg "range" = none) (m_max : mg "max" = none) (c_day_at : Cal P w K mg base 1 "day_at" (spDayAt K)) : FnOk P w K mg base CX0 2 f fd P_latest_days (spLatD K) := by
  refine F.ok sc_latest_days (fun vs H Q E h => ?_) (fun cdv A outer s H vs Q E hr h => ?_)
  · obtain ⟨a, ds, F, L, rfl, _⟩ := h
    rfl
  · obtain ⟨a, ds, F, L, rfl, hS, o, hl, lat, q⟩ := h
    have hp := o.pos
    refine ⟨_, PSs.nox (pss_cons (ps_set (i := 1) sc_latest_days.nd rfl (by first | exact .inl rfl | exact .inr rfl) (pe_callB call_len_seq (by rfl) m_len PySem.boot_len (pa_cons (pv 0) pa_nil)))
      (pss_cons (ps_set (i := 3) sc_latest_days.nd rfl (by first | exact .inl rfl | exact .inr rfl) (pe_callB (cr_max rfl) (by rfl) m_max (by decide +kernel) (pa_cons (pe_lc (own := [("at", 2)]) (g := (gName 2)) (tt := tYes) (by rfl) sc_latest_days.nd (pi_range1 (by rfl) m_range (pa_cons (pv 1) pa_nil)) (blkOk_by (own := [("at", 2)]) (N := N_latest_days) (sc := defScope s_latest_days) (by decide +kernel)) (fun _ _ _ _ _ => (pg_name (i := 2) sc_latest_days.nd rfl (by first | exact .inl rfl | exact .inr rfl))) (fun _ _ _ _ _ => pts_nil) (fun _ _ _ _ _ => (pe_op op_add (pv 2) (pe_op op_mul (pv 1) (pe_op op_fdiv (pe_op op_sub pe_int (pe_ix (ix_tup_K (K := K) rfl) (pv 0) (pv 2) (fun _ _ => rfl))) (pv 1)))))) pa_nil)))
      (pss_cons (ps_set (i := 4) sc_latest_days.nd rfl (by first | exact .inl rfl | exact .inr rfl) (pe_lst pa_nil))
      (pss_cons (ps_for PassesOwn.never rfl (pi_range1 (by rfl) m_range (pa_cons (pv 1) pa_nil)) (pg_name (i := 5) sc_latest_days.nd rfl (by first | exact .inl rfl | exact .inr rfl))
        (pss_cons (ps_while PassesOwn.never (pt_cmpR op_le (pe_cl c_day_at hr (by decide) (by rfl) (pa_cons (pv 0) (pa_cons (pe_op op_add (pv 3) pe_int) pa_nil))) (pv 5) (nomark _))
        (pss_one (ps_set (i := 3) sc_latest_days.nd rfl (by first | exact .inl rfl | exact .inr rfl) (pe_op op_add (pv 3) pe_int))))
      (pss_one (ps_expr (pe_bm PySem.F.plainAttrs_list PySem.F.slot_list_append PySem.F.type_list_append mt_append (pv 4) (pa_cons (pv 3) pa_nil))))))
      (pss_one (ps_ret (pv 4))))))), ?_⟩
    walk_at "go"
    refine ⟨a, _, rfl, .inr (hS), ?_⟩
    rw [List.length_map]
    walk_at "go"
    intro B nB
    refine lc_rng (K := K) (n := ds.length) (fun k => gr ds k) (by omega) nB (fun _ => rfl) ?_ ?_
    · intro k H1 Q1 hk s1 q1
      walk_at "go"
      refine rd_atT (Z.Same.sqT s1 hS) (by omega) (by omega) ?_
      walk_at "go"
      rw [show (0 + (k : Int)).toNat = k by omega]
      have z := q1 _ (Same.refl _)
      unfold gr at z
      rw [show (0 + (k : Int)) = (k : Int) by omega]
      exact z
    intro H1 s1 eB
    walk_at "go"
    refine ⟨B, _, rfl, SqL.of eB, by rw [List.length_map, List.length_range]; exact hp, fun m hm hx => ?_⟩
    have em : m = L 0 := by
      obtain ⟨r, hr, er⟩ := gr_top o lat
      have h1 := hx _ (List.mem_map.mpr ⟨r, List.mem_range.mpr hr, rfl⟩)
      obtain ⟨r2, hr2, er2⟩ := List.mem_map.mp hm
      have h2 := gr_le o lat r2 (List.mem_range.mp hr2)
      have er2 : gr ds r2 = m := er2
      have h1 : gr ds r ≤ m := h1
      omega
    subst em
    walk_at "go"
    intro D nD
    generalize eH_ : upd H1 D _ = H2
    have s2 : Same H1 H2 := by rw [← eH_]; exact same_new nD
    have eD : H2 D = some (.lst []) := by rw [← eH_]; exact upd_same
    clear eH_
    have nHD : H D = none := by
      cases e : H D with
      | none => rfl
      | some ob =>
        rw [s1 _ _ e] at nD
        cases nD
    walk_at "go"
    refine for_gen (n := ds.length) (fun i σ H3 => Same H H3 ∧ H3 D = some (.lst (((List.range i).map fun (k : Nat) => L (k : Int)).map V.int)) ∧ ∃ v2 v5 : Option V, σ = [some (.ref a), some (.int (ds.length : Int)), v2, some (.int (L ((i - 1 : Nat) : Int))), some (.ref D), v5]) ⟨s1.trans s2, eD, none, none, rfl⟩ ?_ ?_ ?_ ?_
    · intro i σ H3 hi _
      show i < (ds.length : Int).toNat
      omega
    · intro σ H3 _
      show (ds.length : Int).toNat ≤ ds.length
      omega
    · rintro i σ H3 x H' hi ⟨s3, eD3, v2, v5, rfl⟩ ⟨rfl, rfl⟩
      have hS3 := Z.Same.sqT s3 hS
      have l0 : L ((i - 1 : Nat) : Int) ≤ L (i : Int) := lat.mon.le (by omega)
      refine ⟨fun m σ' H4 => H4 = H' ∧ ∃ y : Int, m = (L (i : Int) - y).toNat ∧ y ≤ L (i : Int) ∧ σ' = [some (.ref a), some (.int (ds.length : Int)), v2, some (.int y), some (.ref D), some (.int (0 + (i : Int)))], ⟨_, rfl, _, rfl, l0, rfl⟩, ?_⟩
      rintro m σ' H4 ⟨rfl, y, em, hy, rfl⟩
      walk_at "go"
      refine ⟨false, a, ds, y + 1, rfl, hS3, hp, by omega, ?_⟩
      rw [o.dv]
      walk_at "go"
      have key := lat (y + 1) (i : Int)
      refine ite2 (fun e => ?_) (fun e => ?_)
      · have e := of_decide_eq_true e
        have h1 := key.mp (by omega)
        refine ⟨fun σ' H5 => H5 = H4 ∧ ∃ y : Int, (L (i : Int) - y).toNat < m ∧ y ≤ L (i : Int) ∧ σ' = [some (.ref a), some (.int (ds.length : Int)), v2, some (.int y), some (.ref D), some (.int (0 + (i : Int)))], fun σ' H5 z => ?_, ?_⟩
        · obtain ⟨rfl, y2, g1, g2, rfl⟩ := z
          exact ⟨_, g1, rfl, y2, rfl, g2, rfl⟩
        walk_at "go"
        exact ⟨y + 1, by omega, h1, rfl⟩
      · have e : ¬ F (y + 1) ≤ 0 + (i : Int) := fun z => e (decide_eq_true z)
        have h1 : ¬ y + 1 ≤ L (i : Int) := fun z => e (by have := key.mpr z; omega)
        obtain rfl : y = L (i : Int) := by omega
        walk_at "go"
        refine ⟨.inl ⟨rfl, _, .inl (.inl eD3)⟩, ?_⟩
        walk_at "go"
        refine ⟨_, _, _, rfl, rfl, eD3, ?_, ?_⟩
        · rw [List.length_map, List.length_map, List.length_range]
          exact Nat.lt_of_lt_of_le hi (Nat.le_trans hl (by decide))
        refine ⟨Z.Same.mut s3 nHD, ?_, _, _, rfl⟩
        rw [upd_same, List.range_succ, List.map_append, List.map_append]
        rfl
    · rintro σ H3 ⟨s3, eD3, v2, v5, rfl⟩
      walk_at "go"
      exact q D H3 _ s3 eD3 (of_range hp (lat.per o.per)) (by rw [List.length_map, List.length_range])
/-! ### latest, soonest -/
def spLatest (C : Addr) (K : PySem.W.Frag) : Sp := fun vs H Q _ => ∃ (n : Addr) (M : Nat) (F : Int → Int), vs = [.ref n] ∧ RuleF C K H n M F ∧ 0 < M ∧ M ≤ 30000 ∧ ∀ (r : Addr) H' (L : Int → Int), Same H H' → Lat F L → RuleF C K H' r M L → Q (.ref r) H'
def spSoonest (C : Addr) (K : PySem.W.Frag) : Sp := fun vs H Q _ => ∃ (n : Addr) (M : Nat) (F : Int → Int), vs = [.ref n] ∧ RuleF C K H n M F ∧ 0 < M ∧ M ≤ 30000 ∧ ∀ (r : Addr) H' (S : Int → Int), Same H H' → Soo F S → RuleF C K H' r M S → Q (.ref r) H'
theorem ok_latest (F : FnM K "latest" "DayRule.latest" s_DayRule_latest f fd) (cls : Cls K C) (n_days : NoAttr K C "days") (c_latest_days : Cal P w K mg base 2 "latest_days" (spLatD K)) (k_DayRule : MakX P w K mg base 4 "DayRule" C (spInit C CD K)) : FnOk P w K mg base CX0 6 f fd P_DayRule_latest (spLatest C K) := by
  refine F.ok sc_DayRule_latest (fun vs H Q E h => ?_) (fun cdv A outer s H vs Q E hr h => ?_)
  · obtain ⟨n, M, F, rfl, _⟩ := h
    rfl
  · obtain ⟨n, M, F, rfl, hF, m0, m1, q⟩ := h
    refine ⟨_, PSs.nox (pss_one (ps_ret (pe_mkE k_DayRule (fun _ => passS0) hr (by decide) (by rfl) (pa_cons (pe_cl c_latest_days hr (by decide) (by rfl) (pa_cons (pe_fld (pv 0) rfl) pa_nil)) pa_nil)))), ?_⟩
    obtain ⟨⟨ds, rN, oF, lF⟩, pF, moF⟩ := hF
    have lds := lp_le lF m0 pF
    obtain ⟨dx, t, a1, a2⟩ := rN
    obtain ⟨L, lat⟩ := lat_ex m0 moF pF
    walk_at "go"
    refine ⟨t, ds, F, L, rfl, SqT.of a2, oF, by omega, lat, fun D H1 es s1 eD oD lD => ?_⟩
    walk_at "go"
    intro r dz n1 n2 n3
    refine mk_rule (b := true) n1 n2 n3 eD (by omega) oD lat.mon (lat.per pF) (fun H4 s4 rF => ?_)
    exact q r H4 L (s1.trans s4) lat rF
end
end Z
set_option Elab.async false
set_option linter.all false
namespace Dy
/-! ### the first ring -/
/-- days and uses in the order in which they are asked: fewer uses first, then lesser days -/
structure Frst (F : Int → Int) (p d u : Nat) : Prop where
  d1 : d < p
  u0 : 0 < u
  hit : (it F u (d : Int) - d) % (p : Int) = 0
  uses : ∀ v e : Nat, 0 < v → v < u → e < p → (it F v (e : Int) - e) % (p : Int) ≠ 0
  day : ∀ e : Nat, e < d → (it F u (e : Int) - e) % (p : Int) ≠ 0
theorem Frst.uniq {F : Int → Int} {p d u e v : Nat} (a : Frst F p d u) (b : Frst F p e v) : d = e ∧ u = v := by
  have h1 : u = v := by
    rcases Nat.lt_trichotomy u v with h | h | h
    · exact absurd a.hit (b.uses u d a.u0 h a.d1)
    · exact h
    · exact absurd b.hit (a.uses v e b.u0 h b.d1)
  subst h1
  refine ⟨?_, rfl⟩
  rcases Nat.lt_trichotomy d e with h | h | h
  · exact absurd a.hit (b.day d h)
  · exact h
  · exact absurd b.hit (a.day e h)
theorem Frst.le {F : Int → Int} {p d u : Nat} (a : Frst F p d u) (h : Per F (p : Int)) : u ≤ p := by
  obtain ⟨e, v, h1, h2, h3, h4⟩ := ring_ex (Nat.lt_of_le_of_lt (Nat.zero_le d) a.d1) h
  apply Decidable.byContradiction
  intro z
  exact a.uses v e h2 (by omega) h1 h4
theorem Frst.rg {F : Int → Int} {p d u : Nat} (a : Frst F p d u) : Rg F p d u (it F u d - d) := ⟨by omega, a.hit⟩
/-- nothing was met in the first u rounds -/
def NoRg (F : Int → Int) (p u : Nat) : Prop := ∀ v e : Nat, 0 < v → v < u → e < p → (it F v (e : Int) - e) % (p : Int) ≠ 0
theorem NoRg.le {F : Int → Int} {p u : Nat} (a : NoRg F p u) (hp : 0 < p) (h : Per F (p : Int)) : u ≤ p := by
  obtain ⟨e, v, h1, h2, h3, h4⟩ := ring_ex hp h
  apply Decidable.byContradiction
  intro z
  exact a v e h2 (by omega) h1 h4
theorem NoRg.next {F : Int → Int} {p u : Nat} (a : NoRg F p u) (b : ∀ e : Nat, e < p → (it F u (e : Int) - e) % (p : Int) ≠ 0) : NoRg F p (u + 1) := fun v e h0 h1 he => by
  by_cases c : v = u
  · subst c
    exact b e he
  · exact a v e h0 (by omega) he
theorem pace_gen {F : Int → Int} {n u v : Nat} {d e g k : Int} (hn : 0 < n) (mo : Mon F) (h : Per F (n : Int)) (hu : 0 < u) (r : Rg F n d u g) (s : ∀ j : Nat, it F (j * v) e = e + j * k) : (u : Int) * k = v * g := by
  have key : ∀ j : Nat, -((u : Int) * n) < (j : Int) * (u * k - v * g) ∧ (j : Int) * (u * k - v * g) < (u : Int) * n := fun j => by
    have h1 := pace (m := j * v) (x := e) hn mo h hu r
    rw [s j, show e + j * k - e = j * k by omega] at h1
    have e1 : (j : Int) * (u * k - v * g) = u * (j * k) - ((j * v : Nat) : Int) * g := by
      rw [Int.mul_sub, Int.natCast_mul, Int.mul_left_comm, Int.mul_assoc]
    rw [e1]
    exact h1
  have a1 := bound_zero (fun j => (key j).2)
  have a2 := bound_zero (a := -(u * k - v * g)) (c := u * n) (fun j => by
    have := (key j).1
    rw [Int.mul_neg]
    omega)
  omega
/-- the pace of many uses -/
theorem pace_it {F : Int → Int} {n q u v c : Nat} {d e g k : Int} (hn : 0 < n) (mo : Mon F) (h : Per F (n : Int)) (hq : Per (it F c) (q : Int)) (hu : 0 < u) (r : Rg F n d u g) (s : Rg (it F c) q e v k) : (u : Int) * k = c * g * v := by
  have h1 := pace_gen (v := c * v) (e := e) (k := k) hn mo h hu r (fun j => by
    rw [show j * (c * v) = c * (j * v) by rw [Nat.mul_left_comm], it_mul]
    exact s.many hq j)
  rw [h1, Int.natCast_mul, Int.mul_assoc, Int.mul_assoc, Int.mul_comm (v : Int) g]
theorem Lat.lp {F L : Int → Int} {p q : Nat} (a : Lat F L) (h : Lp F p) (k : Lp L q) : p = q := by
  have h1 := h.least q k.pos (a.flip.per k.per)
  have h2 := k.least p h.pos (a.per h.per)
  omega
/-- moved by whole periods -/
theorem it_moved {F : Int → Int} {p : Nat} {t : Int} (h : Per F (p : Int)) : ∀ (u : Nat) (d : Int), it (fun d => F d + p * t) u d = it F u d + u * p * t
  | 0, d => by
    show d = d + _
    simp
  | u + 1, d => by
    show F (it (fun d => F d + p * t) u d) + p * t = F (it F u d) + _
    rw [it_moved h u d]
    have h1 := h.imul (u * t) (it F u d)
    rw [show (u : Int) * p * t = u * t * p by rw [Int.mul_assoc, Int.mul_comm (p : Int) t, Int.mul_assoc], h1]
    have e2 : ((u + 1 : Nat) : Int) * p * t = u * t * p + p * t := by
      rw [Int.natCast_add, Int.add_mul, Int.add_mul, Int.mul_assoc, Int.mul_comm (p : Int) t, Int.mul_assoc]
      simp [Int.mul_comm, Int.mul_left_comm, Int.mul_assoc]
    rw [e2]
    omega
theorem lp_moved {F : Int → Int} {p q : Nat} {t : Int} (h : Lp F p) (k : Lp (fun d => F d + t) q) : p = q := by
  have h1 := h.least q k.pos (fun d => by
    have h3 : F (d + q) + t = F d + t + q := k.per d
    omega)
  have h2 := k.least p h.pos (fun d => by
    have := h.per d
    show F (d + p) + t = F d + t + p
    omega)
  omega
theorem Frst.moved {F : Int → Int} {p d u : Nat} {t : Int} (a : Frst F p d u) (h : Per F (p : Int)) : Frst (fun d => F d + p * t) p d u := by
  have key : ∀ (v e : Nat), (it (fun d => F d + p * t) v (e : Int) - e) % (p : Int) = (it F v (e : Int) - e) % (p : Int) := fun v e => by
    rw [it_moved h, show it F v e + v * p * t - e = (it F v e - e) + p * (v * t) by rw [Int.mul_comm (v : Int) p, Int.mul_assoc]; omega, Int.add_mul_emod_self_left]
  exact ⟨a.d1, a.u0, by rw [key]; exact a.hit, fun v e h0 h1 h2 => by rw [key]; exact a.uses v e h0 h1 h2, fun e h1 => by rw [key]; exact a.day e h1⟩
end Dy
set_option pp.maxSteps 700
set_option Elab.async false
set_option linter.all false
set_option maxRecDepth 100000
set_option maxHeartbeats 4000000
namespace Z
open Dy
open PySem PySem.Spec PyProof.Rows L2
open C8 (pss_cut tCut)
local macro_rules | `(tactic| walk_at "num") => `(tactic| first | rfl | omega | decide | exact Nat.le_of_lt (small1000 (by simp)) | exact ⟨by omega, by omega⟩ | exact ⟨by omega, by omega, by omega⟩ | exact ⟨by decide, by decide, by decide⟩ | exact Or.inl ⟨by omega, by omega⟩ | exact Or.inr ⟨by omega, by omega⟩)
local macro_rules | `(tactic| walk_at "go") => `(tactic| repeat (first | refine ⟨_, rfl, ?_⟩ | refine ⟨_, _, rfl, rfl, ?_⟩ | refine ⟨_, _, rfl, ?_⟩ | (refine ⟨_, _, rfl, rfl, ?_, ?_⟩; focus walk_at "num") | refine Or.inl ⟨_, rfl, ?_⟩ | refine ⟨_, _, _, _, rfl, rfl, (by assumption), (by rfl), ?_⟩ | refine ⟨_, _, _, _, _, rfl, (by assumption), (by assumption), (by assumption), (by rfl), ?_⟩ | refine ⟨rfl, ?_⟩ | (refine And.intro ?_ ?_; focus walk_at "num")))
abbrev s_asked : Stmt := topS 29
abbrev N_asked : List Str := ["_law_script", "_law_many", "_law_far", "_law_k", "_law_found", "_law_cell_here", "_law_day"]
abbrev P_asked : List Str := ["_law_script", "_law_many"]
theorem sc_asked : FnScope N_asked P_asked (defScope s_asked) := ⟨rfl, rfl, rfl, by decide +kernel, rfl, by decide +kernel, by decide +kernel⟩
abbrev s_shift : Stmt := topS 15
abbrev N_shift : List Str := ["days"]
abbrev P_shift : List Str := ["days"]
theorem sc_shift : FnScope N_shift P_shift (defScope s_shift) := ⟨rfl, rfl, rfl, by decide +kernel, rfl, by decide +kernel, by decide +kernel⟩
abbrev s_DayRule_ring : Stmt := inClass (topS 14) 11
abbrev N_DayRule_ring : List Str := ["self", "reached", "uses", "day"]
abbrev P_DayRule_ring : List Str := ["self"]
theorem sc_DayRule_ring : FnScope N_DayRule_ring P_DayRule_ring (defScope s_DayRule_ring) := ⟨rfl, rfl, rfl, by decide +kernel, rfl, by decide +kernel, by decide +kernel⟩
section
variable {P : Program} {w : World} {K : PySem.W.Frag} {mg : Str → Option Value} {base : Heap} {f C CD CC CH : Addr} {fd : FuncData}
/-! ### asked -/
def spAsked (K : PySem.W.Frag) : Sp := fun vs H Q _ => ∃ (a : Addr) (ns : List Int) (m : Nat), vs = [.ref a, .int (m : Int)] ∧ SqL K H a (ns.map V.int) ∧ ns.length ≤ 63 ∧ m ≤ 1000 ∧ ∀ (L : Addr) H' (xs : List Int), Same H H' → H L = none → H' L = some (.lst (xs.map V.int)) → (1 ≤ m → 12 ≤ xs.length) → xs.length ≤ 1000 → Q (.ref L) H'
theorem ok_asked (F : FnP K "_law_asked" s_asked f fd) (m_int : mg "int" = none) (m_range : mg "range" = none) (m_min : mg "min" = none) (m_max : mg "max" = none) (m_len : mg "len" = none) (c_cell : Cal P w K mg base 1 "_law_cell" (spCell K)) : FnOk P w K mg base CX0 2 f fd P_asked (spAsked K) := by
  refine F.ok sc_asked (fun vs H Q E h => ?_) (fun cdv A outer s H vs Q E hr h => ?_)
  · obtain ⟨a, ns, m, rfl, _⟩ := h
    rfl
  · obtain ⟨a, ns, m, rfl, hS, hl, hm, q⟩ := h
    refine ⟨_, PSs.nox (pss_cons (ps_set (i := 2) sc_asked.nd rfl (by first | exact .inl rfl | exact .inr rfl) (pe_op op_mulX (pe_op op_mulX (pe_op op_pow pe_int pe_int) (pe_op op_pow pe_int pe_int)) (pe_op op_pow pe_int pe_int)))
      (pss_cons (ps_setLc (i := 4) (own := [("_law_k", 3)]) (g := (gName 3)) (tt := tYes) (by rfl) sc_asked.nd rfl rfl (sw_true rfl rfl rfl (by decide +kernel)) (pi_range1 (by rfl) m_range (pa_cons (pe_callB (call_min2 rfl) (by rfl) m_min (by decide +kernel) (pa_cons (pe_op op_add (pe_op op_mul pe_int (pv 1)) pe_int) (pa_cons pe_int pa_nil))) pa_nil)) (blkOk_by (own := [("_law_k", 3)]) (N := N_asked) (sc := defScope s_asked) (by decide +kernel)) (fun _ _ _ _ _ => (pg_name (i := 3) sc_asked.nd rfl (by first | exact .inl rfl | exact .inr rfl))) (fun _ _ _ _ _ => pts_nil) (fun _ _ _ _ _ => (pe_op op_sub (pe_op op_sub (pv 3) (pv 1)) pe_int)))
      (pss_cons (ps_for PassesOwn.never rfl (pi_range2 (by rfl) m_range (pa_cons pe_int (pa_cons (pe_callB (call_max2 rfl) (by rfl) m_max (by decide +kernel) (pa_cons pe_int (pa_cons (pe_callB call_len_seq (by rfl) m_len PySem.boot_len (pa_cons (pv 0) pa_nil)) pa_nil))) pa_nil))) (pg_name (i := 3) sc_asked.nd rfl (by first | exact .inl rfl | exact .inr rfl))
        (pss_cons (ps_set (i := 5) sc_asked.nd rfl (by first | exact .inl rfl | exact .inr rfl) (pe_op op_add (pe_cl c_cell hr (by decide) (by rfl) (pa_cons (pv 0) (pa_cons (pv 3) pa_nil))) (pe_op op_mul pe_int (pv 3))))
      (pss_cons (ps_set (i := 6) sc_asked.nd rfl (by first | exact .inl rfl | exact .inr rfl) (pe_op op_sub (pe_op op_mod (pe_callTy call_int1 (by rfl) m_int (by decide +kernel) (pa_cons (pe_op op_fdiv (pv 5) pe_int) pa_nil)) pe_int) pe_int))
      (pss_cut (ps_if (pt_cmpR op_gt (pe_op op_mod (pe_callTy call_int1 (by rfl) m_int (by decide +kernel) (pa_cons (pv 5) pa_nil)) pe_int) pe_int (nomark _)) (pss_one (ps_set (i := 6) sc_asked.nd rfl (by first | exact .inl rfl | exact .inr rfl) (pe_op op_sub (pe_op op_mod (pe_callTy call_int1 (by rfl) m_int (by decide +kernel) (pa_cons (pe_op op_fdiv (pv 5) pe_int) pa_nil)) (pe_op op_add (pe_op op_mul pe_int (pv 2)) pe_int)) (pv 2)))) pss_nil)
      (pss_one (ps_expr (pe_bm PySem.F.plainAttrs_list PySem.F.slot_list_append PySem.F.type_list_append mt_append (pv 4) (pa_cons (pv 6) pa_nil))))))))
      (pss_one (ps_ret (pv 4)))))), ?_⟩
    walk_at "go"
    refine ⟨big_mul (by decide +kernel) (by decide +kernel), ?_⟩
    walk_at "go"
    refine ⟨big_mul (by decide +kernel) (by decide +kernel), ?_⟩
    walk_at "go"
    generalize eF : (fun i j : Int => V.int (i * j)) _ _ = vF
    have hF : vF = .int (10 ^ 180) := by
      rw [← eF]
      decide +kernel
    clear eF
    subst hF
    generalize eK : (if (60 : Int) < 3 * (m : Int) + 3 then (60 : Int) else 3 * (m : Int) + 3) = kI
    obtain ⟨k, hk⟩ := Int.eq_ofNat_of_zero_le (show 0 ≤ kI by rw [← eK]; split <;> omega)
    have hk1 : k ≤ 90 := by split at eK <;> omega
    have hk2 : 1 ≤ m → 6 ≤ k := by split at eK <;> omega
    intro D nD
    refine lc_gen (n := k) (fun i H1 => Same H H1 ∧ ∃ xs : List Int, H1 D = some (.lst (xs.map V.int)) ∧ xs.length = i) ⟨same_new nD, [], upd_same, rfl⟩ ?_ ?_ ?_ ?_
    · intro i H1 hi _
      show i < kI.toNat
      omega
    · intro H1 _
      show kI.toNat ≤ k
      omega
    · rintro i H1 x H' hi ⟨s1, xs, e1, l1⟩ ⟨rfl, rfl⟩
      walk_at "go"
      refine ⟨_, e1, ?_, Z.Same.mut s1 nD, xs ++ [0 + (i : Int) - m - 1], ?_, ?_⟩
      · rw [List.length_map, l1]
        exact Nat.lt_of_lt_of_le (show i < 1000 by omega) (by decide)
      · rw [upd_same, List.map_append]
        rfl
      · rw [List.length_append, l1]
        rfl
    rintro H1 ⟨s1, xs, e1, l1⟩
    have hS1 := s1.seq hS
    walk_at "go"
    refine ⟨a, _, rfl, .inl hS1, ?_⟩
    rw [List.length_map]
    walk_at "go"
    have hN : (if (ns.length : Int) > 9 then (ns.length : Int) else 9).toNat - 3 = max 9 ns.length - 3 := by split <;> omega
    refine for_gen (n := max 9 ns.length - 3) (fun i σ H2 => Same H H2 ∧ (∃ ys : List Int, H2 D = some (.lst (ys.map V.int)) ∧ ys.length = k + i) ∧ ∃ v3 v5 v6 : Option V, σ = [some (.ref a), some (.int (m : Int)), some (.int (10 ^ 180)), v3, some (.ref D), v5, v6]) ⟨s1, ⟨xs, e1, l1⟩, none, none, none, rfl⟩ ?_ ?_ ?_ ?_
    · intro i σ H2 hi _
      show i < ((if (ns.length : Int) > 9 then (ns.length : Int) else 9) - 3).toNat
      split <;> omega
    · intro σ H2 _
      show ((if (ns.length : Int) > 9 then (ns.length : Int) else 9) - 3).toNat ≤ _
      split <;> omega
    · rintro i σ H2 x H' hi ⟨s2, ⟨ys, e2, l2⟩, v3, v5, v6, rfl⟩ ⟨rfl, rfl⟩
      walk_at "go"
      refine ⟨a, ns, 3 + i, by rw [show ((3 + i : Nat) : Int) = 3 + (i : Int) by omega]; rfl, s2.seq hS, ?_⟩
      walk_at "go"
      refine ⟨fun σ' H1 => H1 = H' ∧ ∃ (x : Int), σ' = [some (.ref a), some (.int (m : Int)), some (.int (10 ^ 180)), some (.int (3 + (i : Int))), some (.ref D), some (.int (ns.getD (3 + i) 0 + 77 * (3 + (i : Int)))), some (.int x)], ?_, ?_⟩
      · walk_at "go"
        refine ite2 (fun e => ?_) (fun e => ?_)
        · walk_at "go"
          exact ⟨_, rfl⟩
        · exact ⟨rfl, _, rfl⟩
      rintro σ' H3 ⟨rfl, x, rfl⟩
      walk_at "go"
      refine ⟨.inl ⟨rfl, _, .inl (.inl e2)⟩, ?_⟩
      walk_at "go"
      refine ⟨_, _, _, rfl, rfl, e2, ?_, ?_⟩
      · rw [List.length_map, l2]
        exact Nat.lt_of_lt_of_le (show k + i < 1000 by omega) (by decide)
      refine ⟨Z.Same.mut s2 nD, ⟨ys ++ [x], ?_, ?_⟩, _, _, _, rfl⟩
      · rw [upd_same, List.map_append]
        rfl
      · rw [List.length_append, l2]
        rfl
    · rintro σ H2 ⟨s2, ⟨ys, e2, l2⟩, v3, v5, v6, rfl⟩
      walk_at "go"
      exact q D H2 ys s2 nD e2 (fun h => by have := hk2 h; omega) (by omega)
/-! ### shift -/
def spShift (C : Addr) (K : PySem.W.Frag) : Sp := fun vs H Q _ => ∃ (c : Int) (M : Nat), vs = [.int c] ∧ ∀ (r : Addr) H', Same H H' → RuleF C K H' r M (fun d => d + c) → Q (.ref r) H'
theorem ok_shift (F : FnP K "shift" s_shift f fd) (k_DayRule : MakX P w K mg base 4 "DayRule" C (spInit C CD K)) : FnOk P w K mg base CX0 6 f fd P_shift (spShift C K) := by
  refine F.ok sc_shift (fun vs H Q E h => ?_) (fun cdv A outer s H vs Q E hr h => ?_)
  · obtain ⟨c, M, rfl, _⟩ := h
    rfl
  · obtain ⟨c, M, rfl, q⟩ := h
    refine ⟨_, PSs.nox (pss_one (ps_ret (pe_mkE k_DayRule (fun _ => passS0) hr (by decide) (by rfl) (pa_cons (pe_lst (pa_cons (pv 0) pa_nil)) pa_nil)))), ?_⟩
    walk_at "go"
    intro L nL
    generalize eH_ : upd H L _ = H1
    have s1 : Same H H1 := by rw [← eH_]; exact same_new nL
    have eL : H1 L = some (.lst (([c] : List Int).map V.int)) := by rw [← eH_]; exact upd_same
    clear eH_
    walk_at "go"
    intro r dz n1 n2 n3
    refine mk_rule (b := true) (F := fun d => d + c) n1 n2 n3 eL (by simp) ⟨by simp, fun d => (by show d + ((1 : Nat) : Int) + c = d + c + ((1 : Nat) : Int); omega), fun i hi => ?_⟩ (fun d => by show d + c ≤ d + 1 + c; omega) (fun d => by show d + (M : Int) + c = d + c + (M : Int); omega) (fun H4 s4 rF => q r H4 (s1.trans s4) rF)
    obtain rfl : i = 0 := by simpa using hi
    show c = 0 + c
    omega
/-! ### ring -/
def its (F : Int → Int) (u p : Nat) : List Int := (List.range p).map fun (e : Nat) => it F u (e : Int)
theorem its_len (F : Int → Int) (u p : Nat) : (its F u p).length = p := by
  unfold its
  rw [List.length_map, List.length_range]
theorem its_at {F : Int → Int} {u p e : Nat} (h : e < p) : (its F u p).getD e 0 = it F u (e : Int) := by
  unfold its
  rw [List.getD_eq_getElem?_getD, List.getElem?_map, List.getElem?_range h]
  rfl
theorem its_next (F : Int → Int) (u p : Nat) : (its F u p).map F = its F (u + 1) p := by
  unfold its
  rw [List.map_map]
  rfl
def spRing (C : Addr) (K : PySem.W.Frag) : Sp := fun vs H Q _ => ∃ (n : Addr) (M : Nat) (F : Int → Int), vs = [.ref n] ∧ RuleF C K H n M F ∧ 0 < M ∧ M ≤ 30000 ∧ ∀ (t : Addr) H' (p d u : Nat), Same H H' → Lp F p → Frst F p d u → H' t = some (.tup [.int (d : Int), .int (u : Int), .int (it F u (d : Int) - d)]) → Q (.ref t) H'
theorem ok_mring (F : FnM K "ring" "DayRule.ring" s_DayRule_ring f fd) (m_len : mg "len" = none) (m_list : mg "list" = none) (m_range : mg "range" = none) (cls : Cls K C) (n_days : NoAttr K C "days") (c_day_at : Cal P w K mg base 1 "day_at" (spDayAt K)) : FnOk P w K mg base CX0 2 f fd P_DayRule_ring (spRing C K) := by
  refine F.ok sc_DayRule_ring (fun vs H Q E h => ?_) (fun cdv A outer s H vs Q E hr h => ?_)
  · obtain ⟨n, M, F, rfl, _⟩ := h
    rfl
  · obtain ⟨n, M, F, rfl, hF, m0, m1, q⟩ := h
    refine ⟨_, PSs.nox (pss_cons (ps_set (i := 1) sc_DayRule_ring.nd rfl (by first | exact .inl rfl | exact .inr rfl) (pe_callTy call_list_of (by rfl) m_list (by decide +kernel) (pa_cons (pe_fld (pv 0) rfl) pa_nil)))
      (pss_cons (ps_set (i := 2) sc_DayRule_ring.nd rfl (by first | exact .inl rfl | exact .inr rfl) pe_int)
      (pss_one (ps_while PassesOwn.never (pt_val pe_bl)
        (pss_cons (ps_for PassesOwn.never rfl (pi_range1 (by rfl) m_range (pa_cons (pe_callB call_len_seq (by rfl) m_len PySem.boot_len (pa_cons (pe_fld (pv 0) rfl) pa_nil)) pa_nil)) (pg_name (i := 3) sc_DayRule_ring.nd rfl (by first | exact .inl rfl | exact .inr rfl))
        (pss_one (ps_if (pt_cmpR op_eq (pe_op op_mod (pe_op op_sub (pe_ix ix_list (pv 1) (pv 3) (fun _ _ => rfl)) (pv 3)) (pe_callB call_len_seq (by rfl) m_len PySem.boot_len (pa_cons (pe_fld (pv 0) rfl) pa_nil))) pe_int (nomark _)) (pss_one (ps_ret (pe_tup (pa_cons (pv 3) (pa_cons (pv 2) (pa_cons (pe_op op_sub (pe_ix ix_list (pv 1) (pv 3) (fun _ _ => rfl)) (pv 3)) pa_nil)))))) pss_nil)))
      (pss_cons (ps_setLc (i := 1) (own := [("day", 3)]) (g := (gName 3)) (tt := tYes) (by rfl) sc_DayRule_ring.nd rfl rfl (sw_true rfl rfl rfl (by decide +kernel)) (pi_list (pv 1)) (blkOk_by (own := [("day", 3)]) (N := N_DayRule_ring) (sc := defScope s_DayRule_ring) (by decide +kernel)) (fun _ _ _ _ _ => (pg_name (i := 3) sc_DayRule_ring.nd rfl (by first | exact .inl rfl | exact .inr rfl))) (fun _ _ _ _ _ => pts_nil) (fun _ _ _ _ _ => (pe_cl c_day_at hr (by decide) (by rfl) (pa_cons (pe_fld_K (K := K) rfl (pv 0) rfl) (pa_cons (pv 3) pa_nil)))))
      (pss_one (ps_set (i := 2) sc_DayRule_ring.nd rfl (by first | exact .inl rfl | exact .inr rfl) (pe_op op_add (pv 2) pe_int))))))))), ?_⟩
    obtain ⟨⟨ds, rN, oF, lF⟩, pF, moF⟩ := hF
    have lds := lp_le lF m0 pF
    have hp := lF.pos
    generalize ep : ds.length = p at *
    have eds : ds = its F 1 p := oF.eq (of_range hp lF.per) (by rw [ep, its_len])
    obtain ⟨dx, t, a1, a2⟩ := rN
    walk_at "go"
    refine ⟨t, _, rfl, .inr (SqT.of a2), ?_⟩
    intro R nR
    generalize eH_ : upd H R _ = H1
    have s1 : Same H H1 := by rw [← eH_]; exact same_new nR
    have eR : H1 R = some (.lst (ds.map V.int)) := by rw [← eH_]; exact upd_same
    clear eH_
    walk_at "go"
    rw [eds] at eR
    refine ⟨fun m σ' H2 => Same H H2 ∧ ∃ (u : Nat) (R : Addr) (v3 : Option V), m = p + 1 - u ∧ 0 < u ∧ NoRg F p u ∧ H2 R = some (.lst ((its F u p).map V.int)) ∧ σ' = [some (.ref n), some (.ref R), some (.int (u : Int)), v3], ⟨_, s1, 1, R, none, rfl, by decide, fun v e h0 h1 _ => absurd h0 (by omega), eR, rfl⟩, ?_⟩
    rintro m σ' H2 ⟨s2, u, R2, v3, rfl, u0, nr, eR2, rfl⟩
    have b1 := s2 _ _ a1
    have b2 := s2 _ _ a2
    walk_at "go"
    refine ite2 (fun _ => ?_) (fun e => absurd rfl e)
    refine ⟨fun σ' H5 => Same H H5 ∧ ∃ (R : Addr) (v3 : Option V), NoRg F p (u + 1) ∧ H5 R = some (.lst ((its F (u + 1) p).map V.int)) ∧ σ' = [some (.ref n), some (.ref R), some (.int ((u + 1 : Nat) : Int)), v3], fun σ' H5 z => ?_, ?_⟩
    · obtain ⟨z1, R, v3, z2, z3, rfl⟩ := z
      have := nr.le hp lF.per
      exact ⟨_, by omega, z1, u + 1, R, v3, rfl, by omega, z2, z3, rfl⟩
    walk_at "go"
    refine ⟨t, _, rfl, .inr (SqT.of b2), ?_⟩
    rw [List.length_map]
    walk_at "go"
    rw [ep]
    walk_at "go"
    refine for_gen (n := p) (fun i σ H3 => H3 = H2 ∧ (∀ e : Nat, e < i → (it F u (e : Int) - e) % (p : Int) ≠ 0) ∧ ∃ v3 : Option V, σ = [some (.ref n), some (.ref R2), some (.int (u : Int)), v3]) ⟨rfl, fun e h => absurd h (by omega), _, rfl⟩ ?_ ?_ ?_ ?_
    · intro i σ H3 hi _
      show i < (p : Int).toNat
      omega
    · intro σ H3 _
      show (p : Int).toNat ≤ p
      omega
    · rintro i σ H3 x H' hi ⟨rfl, no, v3, rfl⟩ ⟨rfl, rfl⟩
      have ei := its_at (F := F) (u := u) hi
      walk_at "go"
      refine rd_at (SqL.of eR2) (by omega) (by rw [its_len]; omega) ?_
      rw [show (0 + (i : Int)).toNat = i by omega, ei, show 0 + (i : Int) = (i : Int) by omega]
      walk_at "go"
      refine ⟨t, _, rfl, .inr (SqT.of b2), ?_⟩
      rw [List.length_map]
      walk_at "go"
      rw [ep]
      walk_at "go"
      refine ite2 (fun e => ?_) (fun e => ?_)
      · have e := of_decide_eq_true e
        walk_at "go"
        refine rd_at (SqL.of eR2) (by omega) (by rw [its_len]; omega) ?_
        rw [show (i : Int).toNat = i by omega, ei]
        walk_at "go"
        intro T nT
        have hit : (it F u (i : Int) - i) % (p : Int) = 0 := V.int.inj e
        exact q T _ p i u (s2.trans (same_new nT)) lF ⟨hi, u0, hit, nr, no⟩ upd_same
      · refine ⟨rfl, fun e' he => ?_, _, rfl⟩
        by_cases c : e' = i
        · subst c
          exact fun z => e (decide_eq_true (show V.int ((it F u (e' : Int) - e') % (p : Int)) = V.int 0 by rw [z]))
        · exact no e' (by omega)
    · rintro σ H3 ⟨rfl, no, v3, rfl⟩
      walk_at "go"
      refine ⟨⟨_, SqL.of eR2⟩, fun D nD => ?_⟩
      refine lc_lst (SqL.of eR2) F (by rw [its_len]; omega) nD (fun _ => rfl) ?_ ?_
      · intro x H4 Q1 hx s4 q1
        have c1 := s4 _ _ b1
        walk_at "go"
        refine ⟨false, t, ds, x, rfl, SqT.of (s4 _ _ b2), by omega, by omega, ?_⟩
        rw [oF.dv]
        exact q1 _ (Same.refl _)
      intro H4 s4 eD
      rw [its_next] at eD
      walk_at "go"
      exact ⟨s2.trans s4, D, _, nr.next no, eD, rfl⟩
end
end Z
set_option pp.maxSteps 700
set_option Elab.async false
set_option linter.all false
set_option maxRecDepth 100000
set_option maxHeartbeats 4000000
namespace Z
open Dy
open PySem PySem.Spec PyProof.Rows L2
open C8 (pss_cut tCut)
local macro_rules | `(tactic| walk_at "num") => `(tactic| first | rfl | omega | decide | exact Nat.le_of_lt (small1000 (by simp)) | exact ⟨by omega, by omega⟩ | exact ⟨by omega, by omega, by omega⟩ | exact ⟨by decide, by decide, by decide⟩ | exact Or.inl ⟨by omega, by omega⟩ | exact Or.inr ⟨by omega, by omega⟩)
local macro_rules | `(tactic| walk_at "go") => `(tactic| repeat (first | refine ⟨_, rfl, ?_⟩ | refine ⟨_, _, rfl, rfl, ?_⟩ | refine ⟨_, _, rfl, ?_⟩ | (refine ⟨_, _, rfl, rfl, ?_, ?_⟩; focus walk_at "num") | refine Or.inl ⟨_, rfl, ?_⟩ | refine ⟨_, _, _, _, rfl, rfl, (by assumption), (by rfl), ?_⟩ | refine ⟨_, _, _, _, _, rfl, (by assumption), (by assumption), (by assumption), (by rfl), ?_⟩ | refine ⟨rfl, ?_⟩ | (refine And.intro ?_ ?_; focus walk_at "num")))
abbrev s_ring : Stmt := topS 30
abbrev N_ring : List Str := ["_law_days_here", "_law_period", "_law_day", "_law_reached", "_law_uses"]
abbrev P_ring : List Str := ["_law_days_here", "_law_period"]
theorem sc_ring : FnScope N_ring P_ring (defScope s_ring) := ⟨rfl, rfl, rfl, by decide +kernel, rfl, by decide +kernel, by decide +kernel⟩
abbrev s_keeps_pace : Stmt := topS 31
abbrev N_keeps_pace : List Str := ["_law_ring_here", "_law_period", "_law_uses", "_law_gain", "_law_far"]
abbrev P_keeps_pace : List Str := ["_law_ring_here", "_law_period", "_law_uses", "_law_gain"]
theorem sc_keeps_pace : FnScope N_keeps_pace P_keeps_pace (defScope s_keeps_pace) := ⟨rfl, rfl, rfl, by decide +kernel, rfl, by decide +kernel, by decide +kernel⟩
abbrev s_few_uses_keep_pace : Stmt := topS 32
abbrev N_few_uses_keep_pace : List Str := ["_law_days_here", "_law_ring_here", "_law_period", "_law_asked_here", "_law_day", "_law_led", "_law_uses"]
abbrev P_few_uses_keep_pace : List Str := ["_law_days_here", "_law_ring_here", "_law_period", "_law_asked_here"]
theorem sc_few_uses_keep_pace : FnScope N_few_uses_keep_pace P_few_uses_keep_pace (defScope s_few_uses_keep_pace) := ⟨rfl, rfl, rfl, by decide +kernel, rfl, by decide +kernel, by decide +kernel⟩
abbrev s_many_uses_keep_pace : Stmt := topS 33
abbrev N_many_uses_keep_pace : List Str := ["_law_rule", "_law_ring_here", "_law_period", "_law_asked_here", "_law_uses", "_law_more", "_law_day", "_law_led", "_law_told"]
abbrev P_many_uses_keep_pace : List Str := ["_law_rule", "_law_ring_here", "_law_period", "_law_asked_here", "_law_uses"]
theorem sc_many_uses_keep_pace : FnScope N_many_uses_keep_pace P_many_uses_keep_pace (defScope s_many_uses_keep_pace) := ⟨rfl, rfl, rfl, by decide +kernel, rfl, by decide +kernel, by decide +kernel⟩
section
variable {P : Program} {w : World} {K : PySem.W.Frag} {mg : Str → Option Value} {base : Heap} {f C CD CC CH : Addr} {fd : FuncData}
/-! ### _law_ring -/
def spRingL (K : PySem.W.Frag) : Sp := fun vs H Q _ => ∃ (a : Addr) (ds : List Int) (p : Nat), vs = [.ref a, .int (p : Int)] ∧ SqL K H a (ds.map V.int) ∧ 0 < ds.length ∧ ds.length ≤ 30000 ∧ Lp (dv ds) p ∧ ∀ (t : Addr) H' (d u : Nat), Same H H' → Frst (dv ds) p d u → H' t = some (.tup [.int (d : Int), .int (u : Int), .int (it (dv ds) u (d : Int) - d)]) → Q (.ref t) H'
theorem ok_ring (F : FnP K "_law_ring" s_ring f fd) (m_range : mg "range" = none) (m_int : mg "int" = none) (c_value : Cal P w K mg base 1 "_law_value" (spValue K)) : FnOk P w K mg base CX0 2 f fd P_ring (spRingL K) := by
  refine F.ok sc_ring (fun vs H Q E h => ?_) (fun cdv A outer s H vs Q E hr h => ?_)
  · obtain ⟨a, ds, p, rfl, _⟩ := h
    rfl
  · obtain ⟨a, ds, p, rfl, hS, d0, d1, lF, q⟩ := h
    refine ⟨_, PSs.nox (pss_cons (ps_setLc (i := 3) (own := [("_law_day", 2)]) (g := (gName 2)) (tt := tYes) (by rfl) sc_ring.nd rfl rfl (sw_true rfl rfl rfl (by decide +kernel)) (pi_range1 (by rfl) m_range (pa_cons (pv 1) pa_nil)) (blkOk_by (own := [("_law_day", 2)]) (N := N_ring) (sc := defScope s_ring) (by decide +kernel)) (fun _ _ _ _ _ => (pg_name (i := 2) sc_ring.nd rfl (by first | exact .inl rfl | exact .inr rfl))) (fun _ _ _ _ _ => pts_nil) (fun _ _ _ _ _ => (pe_cl c_value hr (by decide) (by rfl) (pa_cons (pv 0) (pa_cons (pv 2) pa_nil)))))
      (pss_cons (ps_for PassesOwn.never rfl (pi_range2 (by rfl) m_range (pa_cons pe_int (pa_cons (pe_op op_add (pv 1) pe_int) pa_nil))) (pg_name (i := 4) sc_ring.nd rfl (by first | exact .inl rfl | exact .inr rfl))
        (pss_cons (ps_for PassesOwn.never rfl (pi_range1 (by rfl) m_range (pa_cons (pv 1) pa_nil)) (pg_name (i := 2) sc_ring.nd rfl (by first | exact .inl rfl | exact .inr rfl))
        (pss_one (ps_if (pt_cmpR op_eq (pe_op op_mod (pe_callTy call_int1 (by rfl) m_int (by decide +kernel) (pa_cons (pe_op op_sub (pe_ix ix_list (pv 3) (pv 2) (fun _ _ => rfl)) (pv 2)) pa_nil)) (pv 1)) pe_int (nomark _)) (pss_one (ps_ret (pe_tup (pa_cons (pv 2) (pa_cons (pv 4) (pa_cons (pe_op op_sub (pe_ix ix_list (pv 3) (pv 2) (fun _ _ => rfl)) (pv 2)) pa_nil)))))) pss_nil)))
      (pss_one (ps_setLc (i := 3) (own := [("_law_day", 2)]) (g := (gName 2)) (tt := tYes) (by rfl) sc_ring.nd rfl rfl (sw_true rfl rfl rfl (by decide +kernel)) (pi_list (pv 3)) (blkOk_by (own := [("_law_day", 2)]) (N := N_ring) (sc := defScope s_ring) (by decide +kernel)) (fun _ _ _ _ _ => (pg_name (i := 2) sc_ring.nd rfl (by first | exact .inl rfl | exact .inr rfl))) (fun _ _ _ _ _ => pts_nil) (fun _ _ _ _ _ => (pe_cl c_value hr (by decide) (by rfl) (pa_cons (pv 0) (pa_cons (pv 2) pa_nil))))))))
      (pss_one (ps_ret pe_non)))), ?_⟩
    have hp := lF.pos
    have lp := lF.least _ d0 (of_dv d0).per
    walk_at "go"
    intro D nD
    refine lc_rng (K := K) (n := p) (fun k => dv ds (k : Int)) (by omega) nD (fun _ => rfl) ?_ ?_
    · intro k H1 Q1 hk s1 q1
      walk_at "go"
      refine ⟨a, ds, _, rfl, s1.seq hS, d0, by omega, ?_⟩
      rw [Int.zero_add]
      exact q1 _ (Same.refl _)
    intro H1 s1 eD
    walk_at "go"
    refine for_gen (n := p) (fun i σ H2 => Same H H2 ∧ ∃ (R : Addr) (v2 v4 : Option V), NoRg (dv ds) p (i + 1) ∧ H2 R = some (.lst ((its (dv ds) (i + 1) p).map V.int)) ∧ σ = [some (.ref a), some (.int (p : Int)), v2, some (.ref R), v4]) ⟨s1, D, none, none, fun v e h0 h1 _ => absurd h0 (by omega), eD, rfl⟩ ?_ ?_ ?_ ?_
    · intro i σ H3 hi _
      show i < ((p : Int) + 1 - 1).toNat
      omega
    · intro σ H3 _
      show ((p : Int) + 1 - 1).toNat ≤ p
      omega
    · rintro i σ H2 x H' hi ⟨s2, R2, v2, v4, nr, eR2, rfl⟩ ⟨rfl, rfl⟩
      walk_at "go"
      refine for_gen (n := p) (fun j σ H3 => H3 = H' ∧ (∀ e : Nat, e < j → (it (dv ds) (i + 1) (e : Int) - e) % (p : Int) ≠ 0) ∧ ∃ v2 : Option V, σ = [some (.ref a), some (.int (p : Int)), v2, some (.ref R2), some (.int (1 + (i : Int)))]) ⟨rfl, fun e h => absurd h (by omega), _, rfl⟩ ?_ ?_ ?_ ?_
      · intro i σ H3 hi _
        show i < (p : Int).toNat
        omega
      · intro σ H3 _
        show (p : Int).toNat ≤ p
        omega
      · rintro j σ H3 x H4 hj ⟨rfl, no, v2, rfl⟩ ⟨rfl, rfl⟩
        have ej := its_at (F := dv ds) (u := i + 1) hj
        walk_at "go"
        refine rd_at (SqL.of eR2) (by omega) (by rw [its_len]; omega) ?_
        rw [show (0 + (j : Int)).toNat = j by omega, ej, show 0 + (j : Int) = (j : Int) by omega]
        walk_at "go"
        refine ite2 (fun e => ?_) (fun e => ?_)
        · have e := of_decide_eq_true e
          walk_at "go"
          refine rd_at (SqL.of eR2) (by omega) (by rw [its_len]; omega) ?_
          rw [show (j : Int).toNat = j by omega, ej]
          walk_at "go"
          intro T nT
          have hit : (it (dv ds) (i + 1) (j : Int) - j) % (p : Int) = 0 := V.int.inj e
          refine q T _ j (i + 1) (s2.trans (same_new nT)) ⟨hj, by omega, hit, nr, no⟩ ?_
          rw [show ((i + 1 : Nat) : Int) = 1 + (i : Int) by omega]
          exact upd_same
        · refine ⟨rfl, fun e' he => ?_, _, rfl⟩
          by_cases c : e' = j
          · subst c
            exact fun z => e (decide_eq_true (show V.int ((it (dv ds) (i + 1) (e' : Int) - e') % (p : Int)) = V.int 0 by rw [z]))
          · exact no e' (by omega)
      · rintro σ H3 ⟨rfl, no, v2, rfl⟩
        walk_at "go"
        refine ⟨⟨_, SqL.of eR2⟩, fun D nD => ?_⟩
        refine lc_lst (SqL.of eR2) (dv ds) (by rw [its_len]; omega) nD (fun _ => rfl) ?_ ?_
        · intro x H4 Q1 hx s4 q1
          walk_at "go"
          refine ⟨a, ds, x, rfl, (s2.trans s4).seq hS, d0, by omega, ?_⟩
          exact q1 _ (Same.refl _)
        intro H4 s4 eD
        rw [its_next] at eD
        walk_at "go"
        exact ⟨s2.trans s4, D, _, _, nr.next no, eD, rfl⟩
    · rintro σ H2 ⟨s2, R2, v2, v4, nr, eR2, rfl⟩
      have := nr.le hp lF.per
      omega
/-! ### keeps_pace -/
theorem big_of {x : Int} {n : Nat} (h : x.natAbs ≤ n) (hn : n < 2 ^ 4000) : x.natAbs < 2 ^ 4000 := Nat.lt_of_le_of_lt h hn
def spKeeps (K : PySem.W.Frag) : Sp := fun vs H Q _ => ∃ (r : Addr) (p u : Nat) (d g m x : Int), vs = [.ref r, .int (p : Int), .int m, .int x] ∧ SqT K H r [.int d, .int (u : Int), .int g] ∧ u ≤ 100000 ∧ m.natAbs < 2 ^ 4000 ∧ g.natAbs < 2 ^ 4000 ∧ -((u : Int) * p) < u * x - m * g ∧ u * x - m * g < (u : Int) * p ∧ Q (.bl true) H
theorem ok_keeps_pace (F : FnP K "_law_keeps_pace" s_keeps_pace f fd) : FnOk P w K mg base CX0 1 f fd P_keeps_pace (spKeeps K) := by
  refine F.ok sc_keeps_pace (fun vs H Q E h => ?_) (fun cdv A outer s H vs Q E hr h => ?_)
  · obtain ⟨r, p, u, d, g, m, x, rfl, _⟩ := h
    rfl
  · obtain ⟨r, p, u, d, g, m, x, rfl, hT, u1, bm, bg, k1, k2, q⟩ := h
    refine ⟨_, PSs.nox (pss_cons (ps_set (i := 4) sc_keeps_pace.nd rfl (by first | exact .inl rfl | exact .inr rfl) (pe_op op_sub (pe_op op_mul (pe_ix ix_tup (pv 0) pe_int (fun _ _ => rfl)) (pv 3)) (pe_op op_mulX (pv 2) (pe_ix ix_tup (pv 0) pe_int (fun _ _ => rfl)))))
      (pss_one (ps_ret (pe_and (pe_cmpR op_lt (pe_op op_sub pe_int (pe_op op_mul (pe_ix ix_tup (pv 0) pe_int (fun _ _ => rfl)) (pv 1))) (pv 4) (nomark _)) (pe_one (pe_cmpR op_lt (pv 4) (pe_op op_mul (pe_ix ix_tup (pv 0) pe_int (fun _ _ => rfl)) (pv 1)) (nomark _))))))), ?_⟩
    walk_at "go"
    refine ⟨big_mul bm bg, ?_⟩
    walk_at "go"
    rw [show (decide (0 - (u : Int) * p < u * x - m * g)) = true from decide_eq_true (by omega)]
    walk_at "go"
    show Q (V.bl (decide ((u : Int) * x - m * g < u * p))) _
    rw [decide_eq_true k2]
    exact q
/-! ### few -/
def spFew (K : PySem.W.Frag) : Sp := fun vs H Q _ => ∃ (a r L : Addr) (ds xs : List Int) (p d u : Nat), vs = [.ref a, .ref r, .int (p : Int), .ref L] ∧ SqL K H a (ds.map V.int) ∧ SqL K H L (xs.map V.int) ∧ 0 < ds.length ∧ ds.length ≤ 30000 ∧ Mon (dv ds) ∧ Lp (dv ds) p ∧ Frst (dv ds) p d u ∧ SqT K H r [.int (d : Int), .int (u : Int), .int (it (dv ds) u (d : Int) - d)] ∧ (it (dv ds) u (d : Int) - d).natAbs < 2 ^ 4000 ∧ Q (.bl true) H
theorem ok_few_uses_keep_pace (F : FnP K "_law_few_uses_keep_pace" s_few_uses_keep_pace f fd) (m_range : mg "range" = none) (c_value : Cal P w K mg base 1 "_law_value" (spValue K)) (c_keeps_pace : Cal P w K mg base 1 "_law_keeps_pace" (spKeeps K)) : FnOk P w K mg base CX0 2 f fd P_few_uses_keep_pace (spFew K) := by
  refine F.ok sc_few_uses_keep_pace (fun vs H Q E h => ?_) (fun cdv A outer s H vs Q E hr h => ?_)
  · obtain ⟨a, r, L, ds, xs, p, d, u, rfl, _⟩ := h
    rfl
  · obtain ⟨a, r, L, ds, xs, p, d, u, rfl, hS, hL, d0, d1, mo, lF, fr, hT, bg, q⟩ := h
    refine ⟨_, PSs.nox (pss_cons (ps_for PassesOwn.never rfl (pi_list (pv 3)) (pg_name (i := 4) sc_few_uses_keep_pace.nd rfl (by first | exact .inl rfl | exact .inr rfl))
        (pss_cons (ps_set (i := 5) sc_few_uses_keep_pace.nd rfl (by first | exact .inl rfl | exact .inr rfl) (pv 4))
      (pss_one (ps_for PassesOwn.never rfl (pi_range2 (by rfl) m_range (pa_cons pe_int (pa_cons pe_int pa_nil))) (pg_name (i := 6) sc_few_uses_keep_pace.nd rfl (by first | exact .inl rfl | exact .inr rfl))
        (pss_cons (ps_set (i := 5) sc_few_uses_keep_pace.nd rfl (by first | exact .inl rfl | exact .inr rfl) (pe_cl c_value hr (by decide) (by rfl) (pa_cons (pv 0) (pa_cons (pv 5) pa_nil))))
      (pss_one (ps_if (pt_not (pt_val (pe_cl c_keeps_pace hr (by decide) (by rfl) (pa_cons (pv 1) (pa_cons (pv 2) (pa_cons (pv 6) (pa_cons (pe_op op_sub (pv 5) (pv 4)) pa_nil))))))) (pss_one (ps_ret pe_bl)) pss_nil)))))))
      (pss_one (ps_ret pe_bl))), ?_⟩
    have up := fr.le lF.per
    have lp := lF.least _ d0 (of_dv d0).per
    walk_at "go"
    refine ⟨⟨_, hL⟩, ?_⟩
    refine for_lst hL (fun k σ H2 => H2 = H ∧ ∃ v4 v5 v6 : Option V, σ = [some (.ref a), some (.ref r), some (.int (p : Int)), some (.ref L), v4, v5, v6]) ⟨rfl, none, none, none, rfl⟩ (fun k σ H2 p => by rw [p.1]; exact Same.refl _) ?_ ?_
    · rintro k x σ H2 ex ⟨rfl, v4, v5, v6, rfl⟩
      walk_at "go"
      refine for_gen (n := 12) (fun i σ H3 => H3 = H2 ∧ ∃ v6 : Option V, σ = [some (.ref a), some (.ref r), some (.int (p : Int)), some (.ref L), some (.int x), some (.int (it (dv ds) i x)), v6]) ⟨rfl, _, rfl⟩ (fun i σ H3 hi _ => hi) (fun σ H3 _ => Nat.le_refl _) ?_ ?_
      · rintro i σ H3 y H' hi ⟨rfl, v6, rfl⟩ ⟨rfl, rfl⟩
        walk_at "go"
        refine ⟨a, ds, _, rfl, hS, d0, by omega, ?_⟩
        walk_at "go"
        have k1 := pace (m := i + 1) (x := x) lF.pos mo lF.per fr.u0 fr.rg
        rw [show ((i + 1 : Nat) : Int) = 1 + (i : Int) by omega] at k1
        refine ⟨r, p, u, _, _, 1 + (i : Int), _, rfl, hT, by omega, big_of (n := 100) (by omega) (by decide +kernel), bg, k1.1, k1.2, ?_⟩
        walk_at "go"
        exact ⟨_, rfl⟩
      · rintro σ H3 ⟨rfl, v6, rfl⟩
        exact ⟨rfl, _, _, _, rfl⟩
    · rintro σ H2 ⟨rfl, v4, v5, v6, rfl⟩
      walk_at "go"
      exact q
/-! ### many -/
def spMany (C : Addr) (K : PySem.W.Frag) : Sp := fun vs H Q _ => ∃ (n r L : Addr) (M : Nat) (F : Int → Int) (xs : List Int) (p d u c : Nat), vs = [.ref n, .ref r, .int (p : Int), .ref L, .int (c : Int)] ∧ RuleF C K H n M F ∧ 0 < M ∧ M ≤ 30000 ∧ SqL K H L (xs.map V.int) ∧ Lp F p ∧ Frst F p d u ∧ SqT K H r [.int (d : Int), .int (u : Int), .int (it F u (d : Int) - d)] ∧ (∀ e, (F e - e).natAbs ≤ 10 ^ 42) ∧ c ≤ 10 ^ 40 ∧ ∀ H', Same H H' → Q (.bl true) H'
theorem ok_many_uses_keep_pace (F : FnP K "_law_many_uses_keep_pace" s_many_uses_keep_pace f fd) (m_isinstance : mg "isinstance" = none) (m_tuple : mg "tuple" = none) (m_len : mg "len" = none) (cls : Cls K C) (c_whole : Cal P w K mg base 1 "_law_whole" spWhole) (c_keeps_pace : Cal P w K mg base 1 "_law_keeps_pace" (spKeeps K)) (co_call : Cob P w K mg base 2 C (spCallR C K)) (o_mul : BinI P w K mg base 6 C .Mult (spMul C CC K)) (me_ring : Met P w K mg base 2 C "ring" (spRing C K)) : FnOk P w K mg base CX0 7 f fd P_many_uses_keep_pace (spMany C K) := by
  refine F.ok sc_many_uses_keep_pace (fun vs H Q E h => ?_) (fun cdv A outer s H vs Q E hr h => ?_)
  · obtain ⟨n, r, L, M, F, xs, p, d, u, c, rfl, _⟩ := h
    rfl
  · obtain ⟨n, r, L, M, F, xs, p, d, u, c, rfl, hF, m0, m1, hL, lF, fr, hT, nF, hc, q⟩ := h
    refine ⟨_, PSs.nox (pss_cons (ps_set (i := 5) sc_many_uses_keep_pace.nd rfl (by first | exact .inl rfl | exact .inr rfl) (pe_opE o_mul (fun _ => passS0) hr (by decide) (pv 0) (pv 4)))
      (pss_cons (ps_for PassesOwn.never rfl (pi_list (pv 3)) (pg_name (i := 6) sc_many_uses_keep_pace.nd rfl (by first | exact .inl rfl | exact .inr rfl))
        (pss_cons (ps_set (i := 7) sc_many_uses_keep_pace.nd rfl (by first | exact .inl rfl | exact .inr rfl) (pe_co co_call (pv 5) hr (by decide) (pa_cons (pv 6) pa_nil)))
      (pss_one (ps_if (PW.pt (pw_or (pt_not (pt_val (pe_cl c_whole hr (by decide) (by rfl) (pa_cons (pv 7) pa_nil)))) (pw_or1 (pt_not (pt_val (pe_cl c_keeps_pace hr (by decide) (by rfl) (pa_cons (pv 1) (pa_cons (pv 2) (pa_cons (pv 4) (pa_cons (pe_op op_sub (pv 7) (pv 6)) pa_nil)))))))))) (pss_one (ps_ret pe_bl)) pss_nil))))
      (pss_cons (ps_set (i := 8) sc_many_uses_keep_pace.nd rfl (by first | exact .inl rfl | exact .inr rfl) (pe_me0 me_ring (pv 5) hr (by decide)))
      (pss_cons (ps_if (PW.pt (pw_or (pt_not (pt_val (pe_callB call_isi (by rfl) m_isinstance (by decide +kernel) (pa_cons (pv 8) (pa_cons (pe_bltn (v := .ty "tuple") (by rfl) m_tuple (by decide +kernel) rfl) pa_nil))))) (pw_or1 (pt_cmpR op_ne (pe_callB call_len_seq (by rfl) m_len PySem.boot_len (pa_cons (pv 8) pa_nil)) pe_int (nomark _))))) (pss_one (ps_ret pe_bl)) pss_nil)
      (pss_cons (ps_if (PW.pt (pw_or (pt_not (pt_val (pe_cl c_whole hr (by decide) (by rfl) (pa_cons (pe_ix ix_tup (pv 8) pe_int (fun _ _ => rfl)) pa_nil)))) (pw_or (pt_not (pt_val (pe_cl c_whole hr (by decide) (by rfl) (pa_cons (pe_ix ix_tup (pv 8) pe_int (fun _ _ => rfl)) pa_nil)))) (pw_or1 (pt_cmpR op_lt (pe_ix ix_tup (pv 8) pe_int (fun _ _ => rfl)) pe_int (nomark _)))))) (pss_one (ps_ret pe_bl)) pss_nil)
      (pss_one (ps_ret (pe_cmpR op_eq (pe_op op_mul (pe_ix ix_tup (pv 8) pe_int (fun _ _ => rfl)) (pe_ix ix_tup (pv 1) pe_int (fun _ _ => rfl))) (pe_op op_mul (pe_op op_mulX (pv 4) (pe_ix ix_tup (pv 1) pe_int (fun _ _ => rfl))) (pe_ix ix_tup (pv 8) pe_int (fun _ _ => rfl))) (nomark _))))))))), ?_⟩
    have up := fr.le lF.per
    have lp := lF.least _ m0 hF.per
    obtain ⟨dx, t, en⟩ := hF.at2
    walk_at "go"
    refine ⟨n, (c : Int), dx, _, rfl, rfl, en, n, M, _, (c : Int), rfl, hF, m0, m1, fun kk hk m H1 s1 hM => ⟨m, rfl, ?_⟩, fun z => by omega⟩
    obtain rfl : c = kk := by omega
    have hM2 := hM
    obtain ⟨⟨es, rR, oR, lR⟩, pR, mR⟩ := hM2
    have les := lp_le lR m0 pR
    have rR2 := rR
    obtain ⟨dz, t2, c1, c2⟩ := rR2
    have hL1 := s1.seq hL
    have hT1 := Z.Same.sqT s1 hT
    have bg : (it F u (d : Int) - d).natAbs < 2 ^ 4000 := big_of (Nat.le_trans (it_near nF u d) (Nat.mul_le_mul_right _ (show u ≤ 30000 by omega))) (by decide +kernel)
    have bc : (c : Int).natAbs < 2 ^ 4000 := big_of (n := 10 ^ 40) (by omega) (by decide +kernel)
    walk_at "go"
    refine ⟨⟨_, hL1⟩, ?_⟩
    refine for_lst hL1 (fun k σ H2 => H2 = H1 ∧ ∃ v6 v7 : Option V, σ = [some (.ref n), some (.ref r), some (.int (p : Int)), some (.ref L), some (.int (c : Int)), some (.ref m), v6, v7, none]) ⟨rfl, none, none, rfl⟩ (fun k σ H2 p => by rw [p.1]; exact Same.refl _) ?_ ?_
    · rintro k x σ H2 ex ⟨rfl, v6, v7, rfl⟩
      walk_at "go"
      refine ⟨⟨_, _, c1⟩, m, es, x, rfl, rR, oR.pos, by omega, ?_⟩
      rw [oR.dv]
      walk_at "go"
      have k1 := pace (m := c) (x := x) lF.pos hF.mon lF.per fr.u0 fr.rg
      refine ⟨r, p, u, _, _, (c : Int), _, rfl, hT1, by omega, bc, bg, k1.1, k1.2, ?_⟩
      walk_at "go"
      exact ⟨_, _, rfl⟩
    rintro σ H2 ⟨rfl, v6, v7, rfl⟩
    walk_at "go"
    refine ⟨m, dz, _, rfl, c1, rfl, m, M, _, rfl, hM, m0, m1, fun T H3 p2 ed v s3 lM fM eT => ?_⟩
    have vp := fM.le lM.per
    have lp2 := lM.least _ m0 hM.per
    have e1 := pace_it lF.pos hF.mon lF.per lM.per fr.u0 fr.rg fM.rg
    have hT3 := Z.Same.sqT s3 hT1
    have hT4 : SqT K H3 T _ := SqT.of eT
    have bc2 : ((c : Int) * (it F u (d : Int) - d)).natAbs < 2 ^ 4000 := by
      rw [Int.natAbs_mul]
      exact Nat.lt_of_le_of_lt (Nat.mul_le_mul (show (c : Int).natAbs ≤ 10 ^ 40 by omega) (Nat.le_trans (it_near nF u d) (Nat.mul_le_mul_right _ (show u ≤ 30000 by omega)))) (by decide +kernel)
    walk_at "go"
    refine isi (c := "tuple") (b := true) (.tup eT) (by decide +kernel) ?_
    walk_at "go"
    refine ⟨T, _, rfl, .inr hT4, ?_⟩
    walk_at "go"
    refine ite2 (fun e => ?_) (fun e => ?_)
    · have := of_decide_eq_true e
      have := fM.u0
      omega
    walk_at "go"
    refine ⟨big_mul bc bg, ?_⟩
    walk_at "go"
    show Q (V.bl (decide (V.int ((it (it F c) v (ed : Int) - ed) * u) = V.int (c * (it F u (d : Int) - d) * v)))) _
    rw [decide_eq_true (by rw [← e1, Int.mul_comm])]
    exact q _ (s1.trans s3)
end
end Z
set_option pp.maxSteps 700
set_option Elab.async false
set_option linter.all false
set_option maxRecDepth 100000
set_option maxHeartbeats 4000000
namespace Z
open Dy
open PySem PySem.Spec PyProof.Rows L2
open C8 (pss_cut tCut)
local macro_rules | `(tactic| walk_at "num") => `(tactic| first | rfl | omega | decide | exact Nat.le_of_lt (small1000 (by simp)) | exact ⟨by omega, by omega⟩ | exact ⟨by omega, by omega, by omega⟩ | exact ⟨by decide, by decide, by decide⟩ | exact Or.inl ⟨by omega, by omega⟩ | exact Or.inr ⟨by omega, by omega⟩)
local macro_rules | `(tactic| walk_at "go") => `(tactic| repeat (first | refine ⟨_, rfl, ?_⟩ | refine ⟨_, _, rfl, rfl, ?_⟩ | refine ⟨_, _, rfl, ?_⟩ | (refine ⟨_, _, rfl, rfl, ?_, ?_⟩; focus walk_at "num") | refine Or.inl ⟨_, rfl, ?_⟩ | refine ⟨_, _, _, _, rfl, rfl, (by assumption), (by rfl), ?_⟩ | refine ⟨_, _, _, _, _, rfl, (by assumption), (by assumption), (by assumption), (by rfl), ?_⟩ | refine ⟨rfl, ?_⟩ | (refine And.intro ?_ ?_; focus walk_at "num")))
abbrev s_law : Stmt := topS 34
abbrev N_law : List Str := ["_law_script", "_law_most", "_law_draws_here", "_law_place", "_law_base", "_law_copies", "_law_k", "_law_days_here", "_law_period", "_law_asked_here", "_law_rule", "_law_due", "_law_back", "_law_many", "_law_few", "_law_turned", "_law_turns", "_law_moved"]
abbrev P_law : List Str := ["_law_script"]
theorem sc_law : FnScope N_law P_law (defScope s_law) := ⟨rfl, rfl, rfl, by decide +kernel, rfl, by decide +kernel, by decide +kernel⟩
def ovr (ds : List Int) (m : Nat) : List Int := (List.range m).map fun (k : Nat) => dv ds (k : Int)
theorem ovr_len (ds : List Int) (m : Nat) : (ovr ds m).length = m := by
  unfold ovr
  rw [List.length_map, List.length_range]
theorem ovr_at {ds : List Int} {m i : Nat} (h : i < m) : (ovr ds m).getD i 0 = dv ds (i : Int) := by
  unfold ovr
  rw [List.getD_eq_getElem?_getD, List.getElem?_map, List.getElem?_range h]
  rfl
theorem ovr_of {ds : List Int} {k : Nat} (hp : 0 < ds.length) (hk : 0 < k) : Of (dv ds) (ovr ds (ds.length * k)) := by
  have h := of_dv hp
  refine ⟨?_, ?_, fun i hi => ?_⟩
  · rw [ovr_len]
    exact Nat.mul_pos hp hk
  · rw [ovr_len]
    intro d
    have := h.per.mul k d
    rw [Int.natCast_mul, Int.mul_comm]
    exact this
  · rw [ovr_len] at hi
    exact ovr_at hi
theorem Gd.step {ds : List Int} (g : Gd ds) (d : Int) : dv ds d ≤ dv ds (d + 1) := by
  have hp := g.pos
  have hn : 0 < (ds.length : Int) := by omega
  have h1 := Int.emod_nonneg d (show (ds.length : Int) ≠ 0 by omega)
  have h2 := Int.emod_lt_of_pos d hn
  have h3 := Int.emod_add_mul_ediv d (ds.length : Int)
  by_cases c : d % (ds.length : Int) + 1 < ds.length
  · have e1 : (d + 1) % (ds.length : Int) = d % (ds.length : Int) + 1 := by
      rw [Int.add_emod, Int.emod_eq_of_lt (a := 1) (by omega) (by omega), Int.emod_eq_of_lt (by omega) c]
    have e2 : (d + 1) / (ds.length : Int) = d / (ds.length : Int) := by
      have h4 := Int.emod_add_mul_ediv (d + 1) (ds.length : Int)
      rw [e1] at h4
      have h5 : (ds.length : Int) * ((d + 1) / (ds.length : Int)) = (ds.length : Int) * (d / (ds.length : Int)) := by omega
      exact Int.eq_of_mul_eq_mul_left (by omega) h5
    unfold dv
    rw [e1, e2]
    have := g.asc (d % (ds.length : Int)).toNat (by omega)
    rw [show (d % (ds.length : Int) + 1).toNat = (d % (ds.length : Int)).toNat + 1 by omega]
    omega
  · have e0 : d % (ds.length : Int) = ds.length - 1 := by omega
    have hper := (of_dv hp).per
    have e1 : d + 1 = 0 + (d / (ds.length : Int) + 1) * (ds.length : Int) := by
      rw [Int.add_mul, Int.one_mul, Int.mul_comm (d / _)]
      omega
    have e2 := hper.imul (d / (ds.length : Int) + 1) 0
    rw [← e1] at e2
    have e3 : dv ds 0 = ds.getD 0 0 := ((of_dv hp).at_ 0 hp).symm
    rw [e2, e3]
    unfold dv
    rw [e0, show ((ds.length : Int) - 1).toNat = ds.length - 1 by omega]
    have := g.fin
    rw [Int.add_mul, Int.one_mul, Int.mul_comm (ds.length : Int)]
    omega
theorem ovr_gd {ds : List Int} {k : Nat} (g : Gd ds) (hk : 0 < k) : Gd (ovr ds (ds.length * k)) := by
  have o := ovr_of g.pos hk
  refine ⟨o.pos, fun i hi => ?_, ?_⟩
  · rw [o.at_ i (by omega), o.at_ (i + 1) hi]
    exact Z.Gd.step g i
  · have hp := o.pos
    rw [o.at_ 0 hp, o.at_ _ (show (ovr ds (ds.length * k)).length - 1 < _ by omega)]
    have h1 := Z.Gd.step g (((ovr ds (ds.length * k)).length - 1 : Nat) : Int)
    have h2 := o.per 0
    rw [show (((ovr ds (ds.length * k)).length - 1 : Nat) : Int) + 1 = 0 + ((ovr ds (ds.length * k)).length : Int) by omega, h2] at h1
    exact h1

/-- what stands behind the lists -/
structure EnvV (C : Addr) (K : PySem.W.Frag) (H : Hp) (a : Addr) (ns : List Int) (f1 : Addr) (M : Nat) (F : Int → Int) (A1 : Addr) (ws : List Int) (AL : Addr) (xs : List Int) (T : Addr) (d u : Nat) (g : Int) : Prop where
  sc : SqL K H a (ns.map V.int)
  rF : RuleF C K H f1 M F
  eA : H A1 = some (.lst (ws.map V.int))
  eL : H AL = some (.lst (xs.map V.int))
  eT : H T = some (.tup [.int (d : Int), .int (u : Int), .int g])
theorem EnvV.mono {C : Addr} {K : PySem.W.Frag} {H H' : Hp} {a : Addr} {ns : List Int} {f1 : Addr} {M : Nat} {F : Int → Int} {A1 : Addr} {ws : List Int} {AL : Addr} {xs : List Int} {T : Addr} {d u : Nat} {g : Int} (e : EnvV C K H a ns f1 M F A1 ws AL xs T d u g) (s : Same H H') : EnvV C K H' a ns f1 M F A1 ws AL xs T d u g :=
  ⟨s.seq e.sc, e.rF.mono s, s _ _ e.eA, s _ _ e.eL, s _ _ e.eT⟩
section
variable {P : Program} {w : World} {K : PySem.W.Frag} {mg : Str → Option Value} {base : Heap} {f C CD CC : Addr} {fd : FuncData}
def spLaw (K : PySem.W.Frag) : Sp := fun vs H Q _ => ∃ (a : Addr) (ns : List Int), vs = [.ref a] ∧ SqL K H a (ns.map V.int) ∧ ns.length ≤ 63 ∧ ∀ H', Q (.bl true) H'
theorem ok_law (F : FnP K "law" s_law f fd) (m_int : mg "int" = none) (m_len : mg "len" = none) (m_list : mg "list" = none) (m_range : mg "range" = none) (m_min : mg "min" = none) (m_isinstance : mg "isinstance" = none) (m_tuple : mg "tuple" = none) (cls : Cls K C) (n_days : NoAttr K C "days")
    (c_draws : Cal P w K mg base 1 "_law_draws" spDraws) (c_cell : Cal P w K mg base 1 "_law_cell" (spCell K)) (c_size : Cal P w K mg base 2 "_law_size" (spSize K)) (c_days : Cal P w K mg base 2 "_law_days" (spDays K)) (c_asked : Cal P w K mg base 2 "_law_asked" (spAsked K)) (c_least : Cal P w K mg base 3 "_law_least" (spLeastL K)) (c_row_is : Cal P w K mg base 3 "_law_row_is" (spRow K)) (c_whole : Cal P w K mg base 1 "_law_whole" spWhole) (c_same : Cal P w K mg base 2 "_law_same" spSame) (c_ring : Cal P w K mg base 2 "_law_ring" (spRingL K)) (c_few_uses_keep_pace : Cal P w K mg base 2 "_law_few_uses_keep_pace" (spFew K)) (c_many_uses_keep_pace : Cal P w K mg base 7 "_law_many_uses_keep_pace" (spMany C K)) (c_shift : Cal P w K mg base 6 "shift" (spShift C K))
    (k_DayRule : MakX P w K mg base 4 "DayRule" C (spInit C CD K)) (co_call : Cob P w K mg base 2 C (spCallR C K)) (me_ring : Met P w K mg base 2 C "ring" (spRing C K)) (me_latest : Met P w K mg base 6 C "latest" (spLatest C K)) (o_rshift : Bin2 P w K mg base 6 C "__rshift__" (spOp C K fun F G d => G (F d))) (o_mul : BinI P w K mg base 6 C .Mult (spMul C CC K)) : FnOk P w K mg base CX0 8 f fd P_law (spLaw K) := by
  refine F.ok sc_law (fun vs H Q E h => ?_) (fun cdv A outer s H vs Q E hr h => ?_)
  · obtain ⟨a, ns, rfl, _⟩ := h
    rfl
  · obtain ⟨a, ns, rfl, hS, hl, q⟩ := h
    refine ⟨_, PSs.nox (pss_cons (ps_set (i := 1) sc_law.nd rfl (by first | exact .inl rfl | exact .inr rfl) pe_int)
      (pss_cut (ps_if (pt_cmpR op_eq (pe_op op_mod (pe_callTy call_int1 (by rfl) m_int (by decide +kernel) (pa_cons (pe_cl c_cell hr (by decide) (by rfl) (pa_cons (pv 0) (pa_cons pe_int pa_nil))) pa_nil)) pe_int) pe_int (nomark _)) (pss_one (ps_set (i := 1) sc_law.nd rfl (by first | exact .inl rfl | exact .inr rfl) pe_int)) pss_nil)
      (pss_cons (ps_set (i := 2) sc_law.nd rfl (by first | exact .inl rfl | exact .inr rfl) (pe_cl c_draws hr (by decide) (by rfl) (pa_cons (pe_cl c_cell hr (by decide) (by rfl) (pa_cons (pv 0) (pa_cons pe_int pa_nil))) (pa_cons (pe_op op_add (pv 1) pe_int) pa_nil))))
      (pss_cons (ps_set (i := 3) sc_law.nd rfl (by first | exact .inl rfl | exact .inr rfl) (pe_lst (pa_cons pe_int pa_nil)))
      (pss_cons (ps_set (i := 4) sc_law.nd rfl (by first | exact .inl rfl | exact .inr rfl) (pe_cl c_days hr (by decide) (by rfl) (pa_cons (pv 2) (pa_cons (pv 3) (pa_cons (pe_cl c_size hr (by decide) (by rfl) (pa_cons (pv 2) (pa_cons (pv 3) (pa_cons (pv 1) pa_nil)))) pa_nil)))))
      (pss_cons (ps_set (i := 5) sc_law.nd rfl (by first | exact .inl rfl | exact .inr rfl) (pe_callB (call_min2 rfl) (by rfl) m_min (by decide +kernel) (pa_cons (pe_op op_add pe_int (pe_op op_mod (pe_callTy call_int1 (by rfl) m_int (by decide +kernel) (pa_cons (pe_op op_fdiv (pe_callTy call_int1 (by rfl) m_int (by decide +kernel) (pa_cons (pe_cl c_cell hr (by decide) (by rfl) (pa_cons (pv 0) (pa_cons pe_int pa_nil))) pa_nil)) pe_int) pa_nil)) pe_int)) (pa_cons (pe_op op_fdiv pe_int (pe_callB call_len_seq (by rfl) m_len PySem.boot_len (pa_cons (pv 4) pa_nil))) pa_nil))))
      (pss_cons (ps_setLc (i := 7) (own := [("_law_k", 6)]) (g := (gName 6)) (tt := tYes) (by rfl) sc_law.nd rfl rfl (sw_true rfl rfl rfl (by decide +kernel)) (pi_range1 (by rfl) m_range (pa_cons (pe_op op_mul (pe_callB call_len_seq (by rfl) m_len PySem.boot_len (pa_cons (pv 4) pa_nil)) (pv 5)) pa_nil)) (blkOk_by (own := [("_law_k", 6)]) (N := N_law) (sc := defScope s_law) (by decide +kernel)) (fun _ _ _ _ _ => (pg_name (i := 6) sc_law.nd rfl (by first | exact .inl rfl | exact .inr rfl))) (fun _ _ _ _ _ => pts_nil) (fun _ _ _ _ _ => (pe_op op_add (pe_ix (ix_list_K (K := K) rfl) (pv 4) (pe_op op_mod (pe_callTy call_int1 (by rfl) m_int (by decide +kernel) (pa_cons (pv 6) pa_nil)) (pe_callB (call_len_seq_K (K := K) rfl) (by rfl) m_len PySem.boot_len (pa_cons (pv 4) pa_nil))) (fun _ _ => rfl)) (pe_op op_mul (pe_callB (call_len_seq_K (K := K) rfl) (by rfl) m_len PySem.boot_len (pa_cons (pv 4) pa_nil)) (pe_op op_fdiv (pv 6) (pe_callB (call_len_seq_K (K := K) rfl) (by rfl) m_len PySem.boot_len (pa_cons (pv 4) pa_nil)))))))
      (pss_cons (ps_set (i := 8) sc_law.nd rfl (by first | exact .inl rfl | exact .inr rfl) (pe_cl c_least hr (by decide) (by rfl) (pa_cons (pv 7) pa_nil)))
      (pss_cons (ps_set (i := 9) sc_law.nd rfl (by first | exact .inl rfl | exact .inr rfl) (pe_cl c_asked hr (by decide) (by rfl) (pa_cons (pv 0) (pa_cons pe_int pa_nil))))
      (pss_cons (ps_set (i := 10) sc_law.nd rfl (by first | exact .inl rfl | exact .inr rfl) (pe_mkE k_DayRule (fun _ => passS0) hr (by decide) (by rfl) (pa_cons (pe_callTy call_list_of (by rfl) m_list (by decide +kernel) (pa_cons (pv 7) pa_nil)) pa_nil)))
      (pss_cons (ps_set (i := 11) sc_law.nd rfl (by first | exact .inl rfl | exact .inr rfl) (pe_cl c_ring hr (by decide) (by rfl) (pa_cons (pv 7) (pa_cons (pv 8) pa_nil))))
      (pss_cons (ps_if (PW.pt (pw_or (pt_cmpR op_isN (pv 11) pe_non (nomark _)) (pw_or1 (pt_not (pt_val (pe_cl c_row_is hr (by decide) (by rfl) (pa_cons (pe_me0 me_ring (pv 10) hr (by decide)) (pa_cons (pv 11) pa_nil)))))))) (pss_one (ps_ret pe_bl)) pss_nil)
      (pss_cons (ps_set (i := 12) sc_law.nd rfl (by first | exact .inl rfl | exact .inr rfl) (pe_opE o_mul (fun _ => passS0) hr (by decide) (pv 10) (pe_ix ix_tup (pv 11) pe_int (fun _ _ => rfl))))
      (pss_cons (ps_if (pt_not (pt_val (pe_cl c_same hr (by decide) (by rfl) (pa_cons (pe_co co_call (pv 12) hr (by decide) (pa_cons (pe_ix ix_tup (pv 11) pe_int (fun _ _ => rfl)) pa_nil)) (pa_cons (pe_op op_add (pe_ix ix_tup (pv 11) pe_int (fun _ _ => rfl)) (pe_ix ix_tup (pv 11) pe_int (fun _ _ => rfl))) pa_nil))))) (pss_one (ps_ret pe_bl)) pss_nil)
      (pss_cons (ps_if (pt_not (pt_val (pe_cl c_few_uses_keep_pace hr (by decide) (by rfl) (pa_cons (pv 7) (pa_cons (pv 11) (pa_cons (pv 8) (pa_cons (pv 9) pa_nil))))))) (pss_one (ps_ret pe_bl)) pss_nil)
      (pss_cons (ps_set (i := 13) sc_law.nd rfl (by first | exact .inl rfl | exact .inr rfl) (pe_op op_mod (pe_callTy call_int1 (by rfl) m_int (by decide +kernel) (pa_cons (pe_cl c_cell hr (by decide) (by rfl) (pa_cons (pv 0) (pa_cons pe_int pa_nil))) pa_nil)) (pe_op op_add (pe_op op_pow pe_int pe_int) pe_int)))
      (pss_cons (ps_set (i := 14) sc_law.nd rfl (by first | exact .inl rfl | exact .inr rfl) (pe_op op_mod (pe_callTy call_int1 (by rfl) m_int (by decide +kernel) (pa_cons (pe_op op_fdiv (pe_callTy call_int1 (by rfl) m_int (by decide +kernel) (pa_cons (pe_cl c_cell hr (by decide) (by rfl) (pa_cons (pv 0) (pa_cons pe_int pa_nil))) pa_nil)) pe_int) pa_nil)) pe_int))
      (pss_cons (ps_if (PW.pt (pw_or (pt_not (pt_val (pe_cl c_many_uses_keep_pace hr (by decide) (by rfl) (pa_cons (pv 10) (pa_cons (pv 11) (pa_cons (pv 8) (pa_cons (pv 9) (pa_cons (pv 13) pa_nil)))))))) (pw_or1 (pt_not (pt_val (pe_cl c_many_uses_keep_pace hr (by decide) (by rfl) (pa_cons (pv 10) (pa_cons (pv 11) (pa_cons (pv 8) (pa_cons (pv 9) (pa_cons (pv 14) pa_nil))))))))))) (pss_one (ps_ret pe_bl)) pss_nil)
      (pss_cons (ps_set (i := 15) sc_law.nd rfl (by first | exact .inl rfl | exact .inr rfl) (pe_me0 me_ring (pe_me0 me_latest (pv 10) hr (by decide)) hr (by decide)))
      (pss_cons (ps_if (PW.pt (pw_or (pt_not (pt_val (pe_callB call_isi (by rfl) m_isinstance (by decide +kernel) (pa_cons (pv 15) (pa_cons (pe_bltn (v := .ty "tuple") (by rfl) m_tuple (by decide +kernel) rfl) pa_nil))))) (pw_or (pt_cmpR op_ne (pe_callB call_len_seq (by rfl) m_len PySem.boot_len (pa_cons (pv 15) pa_nil)) pe_int (nomark _)) (pw_or (pt_not (pt_val (pe_cl c_whole hr (by decide) (by rfl) (pa_cons (pe_ix ix_tup (pv 15) pe_int (fun _ _ => rfl)) pa_nil)))) (pw_or1 (pt_not (pt_val (pe_cl c_whole hr (by decide) (by rfl) (pa_cons (pe_ix ix_tup (pv 15) pe_int (fun _ _ => rfl)) pa_nil))))))))) (pss_one (ps_ret pe_bl)) pss_nil)
      (pss_cons (ps_if (PW.pt (pw_or (pt_cmpR op_lt (pe_ix ix_tup (pv 15) pe_int (fun _ _ => rfl)) pe_int (nomark _)) (pw_or1 (pt_cmpR op_ne (pe_op op_mul (pe_ix ix_tup (pv 15) pe_int (fun _ _ => rfl)) (pe_ix ix_tup (pv 11) pe_int (fun _ _ => rfl))) (pe_op op_sub pe_int (pe_op op_mul (pe_ix ix_tup (pv 11) pe_int (fun _ _ => rfl)) (pe_ix ix_tup (pv 15) pe_int (fun _ _ => rfl)))) (nomark _))))) (pss_one (ps_ret pe_bl)) pss_nil)
      (pss_cons (ps_set (i := 16) sc_law.nd rfl (by first | exact .inl rfl | exact .inr rfl) (pe_op op_sub (pe_op op_mod (pe_callTy call_int1 (by rfl) m_int (by decide +kernel) (pa_cons (pe_cl c_cell hr (by decide) (by rfl) (pa_cons (pv 0) (pa_cons pe_int pa_nil))) pa_nil)) pe_int) pe_int))
      (pss_cons (ps_set (i := 17) sc_law.nd rfl (by first | exact .inl rfl | exact .inr rfl) (pe_op (op_bin o_rshift hr (by decide)) (pv 10) (pe_cl c_shift hr (by decide) (by rfl) (pa_cons (pe_op op_mul (pv 8) (pv 16)) pa_nil))))
      (pss_one (ps_ret (pe_and (pe_cl c_row_is hr (by decide) (by rfl) (pa_cons (pe_me0 me_ring (pv 17) hr (by decide)) (pa_cons (pe_tup (pa_cons (pe_ix ix_tup (pv 11) pe_int (fun _ _ => rfl)) (pa_cons (pe_ix ix_tup (pv 11) pe_int (fun _ _ => rfl)) (pa_cons (pe_op op_add (pe_ix ix_tup (pv 11) pe_int (fun _ _ => rfl)) (pe_op op_mul (pe_op op_mul (pe_ix ix_tup (pv 11) pe_int (fun _ _ => rfl)) (pv 8)) (pv 16))) pa_nil)))) pa_nil))) (pe_one (pe_cl c_row_is hr (by decide) (by rfl) (pa_cons (pe_me0 me_ring (pv 10) hr (by decide)) (pa_cons (pv 11) pa_nil)))))))))))))))))))))))))))))), ?_⟩
    walk_at "go"
    refine ⟨fun σ' H' => H' = H ∧ ∃ m : Nat, 0 < m ∧ m ≤ 400 ∧ σ' = [some (.ref a), some (.int (m : Int)), none, none, none, none, none, none, none, none, none, none, none, none, none, none, none, none], ?_, ?_⟩
    · walk_at "go"
      refine ⟨a, ns, 1, rfl, hS, ?_⟩
      walk_at "go"
      refine ite2 (fun e => ?_) (fun e => ?_)
      · walk_at "go"
        exact ⟨400, by decide, by decide, rfl⟩
      · exact ⟨rfl, 9, by decide, by decide, rfl⟩
    rintro σ' H' ⟨rfl, m, mp, m4, rfl⟩
    walk_at "go"
    refine ⟨a, ns, 0, rfl, hS, ?_⟩
    walk_at "go"
    refine ⟨Nat.le_trans (Nat.add_le_add_right m4 10) (by decide), fun D ds nD hd => ?_⟩
    have sD := same_new (o := .lst (ds.map V.int)) nD
    have eD := upd_same (H := H') (a := D) (o := .lst (ds.map V.int))
    generalize upd H' D (.lst (ds.map V.int)) = H1 at sD eD ⊢
    walk_at "go"
    intro p np
    have sp := same_new (o := .lst [.int 0]) np
    have Dp : D ≠ p := ne_of_none eD np
    have hT : Tk K D p ds (m + 10) (upd H1 p (.lst [.int 0])) (upd H1 p (.lst [.int 0])) := ⟨sp _ _ eD, hd, Dp, Z.Same.sb (Same.refl _), 0, upd_same⟩
    have fr : ∀ H2, Tk K D p ds (m + 10) (upd H1 p (.lst [.int 0])) H2 → Same H' H2 := fun H2 t b o h => t.sb b o (ne_of_none (sD b o h) np) (sp b o (sD b o h))
    generalize upd H1 p (.lst [.int 0]) = H0 at hT fr ⊢
    clear sp sD eD
    walk_at "go"
    refine ⟨D, p, m + 10, m, ds, rfl, hT, mp, fun z H2 hT2 z0 z1 => ?_⟩
    have hT2' : Tk K D p ds (m + 10) H2 H2 := ⟨hT2.hA, hT2.hd, hT2.ne, Z.Same.sb (Same.refl _), hT2.pl⟩
    walk_at "go"
    refine ⟨D, p, m + 10, z, ds, rfl, hT2', z0, by omega, fun A H3 fs nA Ap hT3 eA lA gA bA => ?_⟩
    have hT3 : Tk K D p ds (m + 10) H0 H3 := ⟨hT3.hA, hT3.hd, hT3.ne, hT2.sb.trans hT3.sb, hT3.pl⟩
    have s3 := fr _ hT3
    clear hT hT2 hT2' hT3 fr nA Ap
    have hS3 := s3.seq hS
    have hp := gA.pos
    walk_at "go"
    refine ⟨a, ns, 1, rfl, hS3, ?_⟩
    walk_at "go"
    refine ⟨A, _, rfl, .inl (SqL.of eA), ?_⟩
    rw [List.length_map]
    walk_at "go"
    have hq1 : 1 ≤ 400 / fs.length := (Nat.le_div_iff_mul_le hp).mpr (by omega)
    have hdv : (400 : Int) / (fs.length : Int) = ((400 / fs.length : Nat) : Int) := by rw [Int.natCast_ediv]; rfl
    generalize eC : (if (400 : Int) / (fs.length : Int) < 1 + ns.getD 1 0 / 16 % 2 then (400 : Int) / (fs.length : Int) else 1 + ns.getD 1 0 / 16 % 2) = cI
    have hc : 1 ≤ cI ∧ cI ≤ ((400 / fs.length : Nat) : Int) ∧ cI ≤ 2 := by
      rw [← eC, hdv]
      split <;> omega
    obtain ⟨c, rfl⟩ := Int.eq_ofNat_of_zero_le (show 0 ≤ cI by omega)
    have hc1 : c * fs.length ≤ 400 := (Nat.le_div_iff_mul_le hp).mp (by omega)
    rw [Nat.mul_comm] at hc1
    have hcp : 0 < c := by omega
    clear hc hdv hq1 eC
    have em : (fs.length : Int) * (c : Int) = ((fs.length * c : Nat) : Int) := by rw [Int.natCast_mul]
    have eN : ((fs.length : Int) * (c : Int)).toNat = fs.length * c := by rw [em, Int.toNat_natCast]
    walk_at "go"
    refine ⟨A, _, rfl, .inl (SqL.of eA), ?_⟩
    rw [List.length_map]
    walk_at "go"
    intro A1 nA1
    rw [eN]
    refine lc_rng (K := K) (n := fs.length * c) (fun k => dv fs (k : Int)) (by omega) nA1 (fun _ => rfl) ?_ ?_
    · intro k H4 Q1 hk s4 q1
      have hS4 := SqL.of (K := K) (s4 _ _ eA)
      have hn : 0 < (fs.length : Int) := by omega
      have h1 := Int.emod_nonneg (0 + (k : Int)) (show (fs.length : Int) ≠ 0 by omega)
      have h2 := Int.emod_lt_of_pos (0 + (k : Int)) hn
      walk_at "go"
      refine ⟨A, _, rfl, .inl (hS4), ?_⟩
      rw [List.length_map]
      walk_at "go"
      refine rd_at hS4 h1 h2 ?_
      walk_at "go"
      refine ⟨A, _, rfl, .inl (hS4), ?_⟩
      rw [List.length_map]
      walk_at "go"
      refine ⟨A, _, rfl, .inl (hS4), ?_⟩
      rw [List.length_map]
      walk_at "go"
      have z := q1 _ (Same.refl _)
      rw [show (k : Int) = 0 + (k : Int) by omega] at z
      exact z
    intro H4 s4 eA1
    have oW := ovr_of (k := c) hp hcp
    have gW := ovr_gd (k := c) gA hcp
    have lW : (ovr fs (fs.length * c)).length ≤ 400 := by rw [ovr_len]; exact hc1
    replace eA1 : H4 A1 = some (.lst ((ovr fs (fs.length * c)).map V.int)) := eA1
    generalize ovr fs (fs.length * c) = ws at eA1 oW gW lW
    have fW : dv ws = dv fs := funext oW.dv
    have near : ∀ e, (dv ws e - e).natAbs ≤ 10 ^ 42 := fun e => by
      rw [fW]
      have h := dv_near (B := 10 ^ 41 + 400) gA.pos (fun i hi => by have := gA.near i hi; omega) e
      omega
    have wp := gW.pos
    have oW := of_dv wp
    have moW := Mon.dv gW
    clear fW em eN eA gA bA lA
    have s4 := s3.trans s4
    clear s3
    walk_at "go"
    refine ⟨A1, ws, rfl, SqL.of eA1, wp, by omega, fun p1 lp1 => ?_⟩
    walk_at "go"
    refine ⟨a, ns, 4, rfl, s4.seq hS, hl, by decide, fun AL H5 xs s5 nAL eAL _ lx => ?_⟩
    have eA1 := s5 _ _ eA1
    walk_at "go"
    refine ⟨A1, _, rfl, .inl (SqL.of eA1), ?_⟩
    intro B1 nB1
    generalize eH_ : upd H5 B1 _ = H6
    have s6 : Same H5 H6 := by rw [← eH_]; exact same_new nB1
    have eB1 : H6 B1 = some (.lst (ws.map V.int)) := by rw [← eH_]; exact upd_same
    clear eH_
    walk_at "go"
    intro f1 dx n1 n2 n3
    refine mk_rule (b := true) (M := ws.length) n1 n2 n3 eB1 (by omega) oW moW oW.per (fun H7 s7 rF => ?_)
    clear n1 n2 n3 dx
    have s57 := s6.trans s7
    walk_at "go"
    refine ⟨A1, ws, p1, rfl, SqL.of (s57 _ _ eA1), wp, by omega, lp1, fun T H8 d u s8 fr eT => ?_⟩
    have env : EnvV C K H8 a ns f1 ws.length (dv ws) A1 ws AL xs T d u (it (dv ws) u (d : Int) - d) := ⟨(s4.trans (s5.trans (s57.trans s8))).seq hS, rF.mono s8, s8 _ _ (s57 _ _ eA1), s8 _ _ (s57 _ _ eAL), eT⟩
    clear eA1 eAL eB1 nAL nA1 s4 s5 s6 s7 s8 s57 rF
    have up := fr.le lp1.per
    have lp := lp1.least _ wp oW.per
    have bg : (it (dv ws) u (d : Int) - d).natAbs < 2 ^ 4000 := big_of (Nat.le_trans (it_near near u d) (Nat.mul_le_mul_right _ (show u ≤ 30000 by omega))) (by decide +kernel)
    generalize eg : it (dv ws) u (d : Int) - d = g at env bg
    dsimp only [List.set]
    walk_at "go"
    have rg : Rg (dv ws) p1 d u g := by rw [← eg]; exact fr.rg
    have hT : SqT K _ T _ := SqT.of env.eT
    obtain ⟨dx, t, en⟩ := env.rF.at2
    refine ⟨f1, dx, _, rfl, en, rfl, f1, ws.length, _, rfl, env.rF, wp, by omega, fun T2 K1 p2 d2 u2 t1 lp2 fr2 eT2 => ?_⟩
    obtain rfl := lp1.uniq lp2
    obtain ⟨rfl, rfl⟩ := fr.uniq fr2
    replace env := env.mono t1
    replace hT : SqT K _ T _ := SqT.of env.eT
    rw [eg] at eT2
    clear t1 en
    walk_at "go"
    refine ⟨T2, T, [(d : Int), (u : Int), g], rfl, eT2, hT, (show 3 ≤ 100000 by decide), ?_⟩
    walk_at "go"
    obtain ⟨dx, t, en⟩ := env.rF.at2
    refine ⟨f1, (u : Int), dx, _, rfl, rfl, en, f1, ws.length, _, (u : Int), rfl, env.rF, wp, by omega, fun kk hk r1 K2 t2 R1 => ⟨r1, rfl, ?_⟩, fun z => by omega⟩
    obtain rfl : u = kk := by omega
    replace env := env.mono t2
    replace hT : SqT K _ T _ := SqT.of env.eT
    clear t2 en eT2 hk
    obtain ⟨⟨es, rR, oR, lR⟩, pR, mR⟩ := R1
    have les := lp_le lR wp pR
    obtain ⟨dz, t3, c1, c2⟩ := id rR
    walk_at "go"
    refine ⟨⟨_, _, c1⟩, r1, es, (d : Int), rfl, rR, oR.pos, by omega, ?_⟩
    rw [oR.dv]
    walk_at "go"
    refine ⟨it (dv ws) u d, ?_, ?_⟩
    · show [V.int (it (dv ws) u d), V.int ((d : Int) + g)] = _
      rw [← eg, show (d : Int) + (it (dv ws) u d - d) = it (dv ws) u d by omega]
    clear c1 c2 rR oR lR pR mR les
    walk_at "go"
    refine ⟨A1, T, AL, ws, xs, p1, d, u, rfl, SqL.of env.eA, SqL.of env.eL, wp, by omega, moW, lp1, fr, by rw [eg]; exact hT, by rw [eg]; exact bg, ?_⟩
    walk_at "go"
    refine ⟨a, ns, 2, rfl, env.sc, ?_⟩
    walk_at "go"
    refine ⟨by show (0 : Int) < 10 ^ 30 + 1; omega, ?_⟩
    generalize eX : (fun i j : Int => V.int (i % j)) (ns.getD 2 0) (10 ^ Int.toNat 30 + 1) = vX
    obtain ⟨c0, rfl, hc0⟩ : ∃ c : Nat, vX = V.int (c : Int) ∧ c ≤ 10 ^ 40 := by
      have z0 := Int.emod_nonneg (ns.getD 2 0) (show (10 ^ Int.toNat 30 + 1 : Int) ≠ 0 by decide)
      have z1 := Int.emod_lt_of_pos (ns.getD 2 0) (show (0 : Int) < 10 ^ Int.toNat 30 + 1 by decide)
      obtain ⟨c, hc⟩ := Int.eq_ofNat_of_zero_le z0
      refine ⟨c, by rw [← eX, ← hc], ?_⟩
      rw [hc] at z1
      have z2 : (c : Int) < 10 ^ 30 + 1 := z1
      omega
    clear eX
    walk_at "go"
    refine ⟨a, ns, 1, rfl, env.sc, ?_⟩
    walk_at "go"
    obtain ⟨cf, hcf⟩ := Int.eq_ofNat_of_zero_le (show 0 ≤ ns.getD 1 0 / 32 % 41 by omega)
    have hcf1 : cf ≤ 10 ^ 40 := by omega
    walk_at "go"
    refine ⟨f1, T, AL, ws.length, dv ws, xs, p1, d, u, c0, rfl, env.rF, wp, by omega, SqL.of env.eL, lp1, fr, (by rw [eg]; exact hT), near, hc0, fun K3 t3 => ?_⟩
    replace env := env.mono t3
    replace hT : SqT K _ T _ := SqT.of env.eT
    clear t3
    walk_at "go"
    refine ⟨f1, T, AL, ws.length, dv ws, xs, p1, d, u, cf, by rw [← hcf]; rfl, env.rF, wp, by omega, SqL.of env.eL, lp1, fr, (by rw [eg]; exact hT), near, hcf1, fun K4 t4 => ?_⟩
    replace env := env.mono t4
    replace hT : SqT K _ T _ := SqT.of env.eT
    clear t4 hcf hcf1 hc0
    walk_at "go"
    obtain ⟨dx, t, en⟩ := env.rF.at2
    refine ⟨f1, dx, _, rfl, en, rfl, f1, ws.length, _, rfl, env.rF, wp, by omega, fun r2 K5 L t5 lat R2 => ?_⟩
    replace env := env.mono t5
    clear t5 en
    walk_at "go"
    obtain ⟨dx, t, en⟩ := R2.at2
    refine ⟨r2, dx, _, rfl, en, rfl, r2, ws.length, _, rfl, R2, wp, by omega, fun T3 K6 p3 d3 u3 t6 lp3 fr3 eT3 => ?_⟩
    obtain rfl := lat.lp lp1 lp3
    replace env := env.mono t6
    replace hT : SqT K _ T _ := SqT.of env.eT
    have hT3 : SqT K _ T3 _ := SqT.of eT3
    have u3p := fr3.le lp3.per
    have u30 := fr3.u0
    have e3 := pace_lat lp1.pos moW lp1.per lat fr.u0 fr3.u0 rg fr3.rg
    generalize it L u3 (d3 : Int) - d3 = g3 at eT3 hT3 e3
    clear t6 en R2
    walk_at "go"
    refine isi (c := "tuple") (b := true) (.tup eT3) (by decide +kernel) ?_
    walk_at "go"
    refine ⟨T3, _, rfl, .inr hT3, ?_⟩
    walk_at "go"
    refine ite2 (fun e => ?_) (fun e => ?_)
    · have := of_decide_eq_true e
      omega
    walk_at "go"
    refine ite2 (fun e => ?_) (fun e => ?_)
    · have z : (V.int (g3 * u) : V) = V.int (0 - g * u3) := congrArg V.int (by
        rw [Int.mul_comm g3, e3, Int.mul_comm g]
        omega)
      have e' : (!decide ((V.int (g3 * u) : V) = V.int (0 - g * u3))) = true := e
      rw [decide_eq_true z] at e'
      cases e'
    walk_at "go"
    refine ⟨a, ns, 2, rfl, env.sc, ?_⟩
    walk_at "go"
    generalize et : ns.getD 2 0 % 2001 - 1000 = tt
    have tt1 : -1000 ≤ tt ∧ tt ≤ 1000 := by omega
    generalize eX : (fun i j : Int => V.int (i - j)) (ns.getD 2 0 % 2001) 1000 = vX
    obtain rfl : vX = V.int tt := by rw [← eX, ← et]
    clear eX et
    dsimp only [List.set]
    walk_at "go"
    refine ⟨(p1 : Int) * tt, ws.length, rfl, fun r4 K7 t7 R4 => ?_⟩
    replace env := env.mono t7
    clear t7
    refine rd_bin env.rF R4 wp (by omega) (fun r5 K8 t8 R5 => ?_)
    replace env := env.mono t8
    replace hT : SqT K _ T _ := SqT.of env.eT
    clear t8 R4 eT3 hT3
    walk_at "go"
    obtain ⟨dx, t, en⟩ := R5.at2
    refine ⟨r5, dx, _, rfl, en, rfl, r5, ws.length, _, rfl, R5, wp, by omega, fun T4 K9 p4 d4 u4 t9 lp4 fr4 eT4 => ?_⟩
    obtain rfl := lp_moved (t := p1 * tt) lp1 lp4
    obtain ⟨rfl, rfl⟩ := (fr.moved (t := tt) lp1.per).uniq fr4
    replace env := env.mono t9
    replace hT : SqT K _ T _ := SqT.of env.eT
    clear t9 en R5
    have e4 : it (fun x => dv ws x + p1 * tt) u d - d = g + u * p1 * tt := by
      rw [it_moved lp1.per, ← eg]
      omega
    replace eT4 : K9 T4 = some (.tup [.int (d : Int), .int (u : Int), .int (it (fun x => dv ws x + p1 * tt) u d - d)]) := eT4
    rw [e4] at eT4
    walk_at "go"
    intro T5 nT5
    generalize eH_ : upd K9 T5 _ = K10
    have t10 : Same K9 K10 := by rw [← eH_]; exact same_new nT5
    have eT5 : K10 T5 = some (.tup (([(d : Int), (u : Int), g + u * p1 * tt] : List Int).map V.int)) := by rw [← eH_]; exact upd_same
    clear eH_
    replace env := env.mono t10
    replace hT : SqT K _ T _ := SqT.of env.eT
    replace eT4 := t10 _ _ eT4
    walk_at "go"
    refine ⟨T4, T5, [(d : Int), (u : Int), g + u * p1 * tt], rfl, eT4, SqT.of eT5, (show 3 ≤ 100000 by decide), ?_⟩
    walk_at "go"
    obtain ⟨dx, t, en⟩ := env.rF.at2
    refine ⟨f1, dx, _, rfl, en, rfl, f1, ws.length, _, rfl, env.rF, wp, by omega, fun T6 K11 p6 d6 u6 t11 lp6 fr6 eT6 => ?_⟩
    obtain rfl := lp1.uniq lp6
    obtain ⟨rfl, rfl⟩ := fr.uniq fr6
    replace env := env.mono t11
    replace hT : SqT K _ T _ := SqT.of env.eT
    rw [eg] at eT6
    walk_at "go"
    refine ⟨T6, T, [(d : Int), (u : Int), g], rfl, eT6, hT, (show 3 ≤ 100000 by decide), ?_⟩
    exact q _
end
end Z
set_option pp.maxSteps 700
set_option Elab.async false
set_option linter.all false
set_option maxRecDepth 100000
set_option maxHeartbeats 4000000
set_option maxHeartbeats 0
namespace Z
open PySem PySem.Spec PyProof.Rows L2 Dy
def d_common_divisor : He.DefD := ⟨("common_divisor", none), "common_divisor", "common_divisor", defArgs s_common_divisor, defBody s_common_divisor, defScope s_common_divisor, [], []⟩
def d_check_days : He.DefD := ⟨("check_days", none), "check_days", "check_days", defArgs s_check_days, defBody s_check_days, defScope s_check_days, [], []⟩
def d_least_period : He.DefD := ⟨("least_period", none), "least_period", "least_period", defArgs s_least_period, defBody s_least_period, defScope s_least_period, [], []⟩
def d_day_at : He.DefD := ⟨("day_at", none), "day_at", "day_at", defArgs s_day_at, defBody s_day_at, defScope s_day_at, [], []⟩
def d_used_times : He.DefD := ⟨("used_times", none), "used_times", "used_times", defArgs s_used_times, defBody s_used_times, defScope s_used_times, [], []⟩
def d_latest_days : He.DefD := ⟨("latest_days", none), "latest_days", "latest_days", defArgs s_latest_days, defBody s_latest_days, defScope s_latest_days, [], []⟩
def d_common_period : He.DefD := ⟨("common_period", none), "common_period", "common_period", defArgs s_common_period, defBody s_common_period, defScope s_common_period, [], []⟩
def d_shift : He.DefD := ⟨("shift", none), "shift", "shift", defArgs s_shift, defBody s_shift, defScope s_shift, [], []⟩
def d_DayRule___init__ : He.DefD := ⟨("DayRule", some "__init__"), "__init__", "DayRule.__init__", defArgs s_DayRule___init__, defBody s_DayRule___init__, defScope s_DayRule___init__, [], []⟩
def d_DayRule___call__ : He.DefD := ⟨("DayRule", some "__call__"), "__call__", "DayRule.__call__", defArgs s_DayRule___call__, defBody s_DayRule___call__, defScope s_DayRule___call__, [], []⟩
def d_DayRule___rshift__ : He.DefD := ⟨("DayRule", some "__rshift__"), "__rshift__", "DayRule.__rshift__", defArgs s_DayRule___rshift__, defBody s_DayRule___rshift__, defScope s_DayRule___rshift__, [], []⟩
def d_DayRule___mul__ : He.DefD := ⟨("DayRule", some "__mul__"), "__mul__", "DayRule.__mul__", defArgs s_DayRule___mul__, defBody s_DayRule___mul__, defScope s_DayRule___mul__, [], []⟩
def d_DayRule_latest : He.DefD := ⟨("DayRule", some "latest"), "latest", "DayRule.latest", defArgs s_DayRule_latest, defBody s_DayRule_latest, defScope s_DayRule_latest, [], []⟩
def d_DayRule_ring : He.DefD := ⟨("DayRule", some "ring"), "ring", "DayRule.ring", defArgs s_DayRule_ring, defBody s_DayRule_ring, defScope s_DayRule_ring, [], []⟩
def d_cell : He.DefD := ⟨("_law_cell", none), "_law_cell", "_law_cell", defArgs s_cell, defBody s_cell, defScope s_cell, [], []⟩
def d_draws : He.DefD := ⟨("_law_draws", none), "_law_draws", "_law_draws", defArgs s_draws, defBody s_draws, defScope s_draws, [], []⟩
def d_take : He.DefD := ⟨("_law_take", none), "_law_take", "_law_take", defArgs s_take, defBody s_take, defScope s_take, [], []⟩
def d_whole : He.DefD := ⟨("_law_whole", none), "_law_whole", "_law_whole", defArgs s_whole, defBody s_whole, defScope s_whole, [], []⟩
def d_same : He.DefD := ⟨("_law_same", none), "_law_same", "_law_same", defArgs s_same, defBody s_same, defScope s_same, [], []⟩
def d_row_is : He.DefD := ⟨("_law_row_is", none), "_law_row_is", "_law_row_is", defArgs s_row_is, defBody s_row_is, defScope s_row_is, [], []⟩
def d_first : He.DefD := ⟨("_law_first", none), "_law_first", "_law_first", defArgs s_first, defBody s_first, defScope s_first, [], []⟩
def d_size : He.DefD := ⟨("_law_size", none), "_law_size", "_law_size", defArgs s_size, defBody s_size, defScope s_size, [], []⟩
def d_days : He.DefD := ⟨("_law_days", none), "_law_days", "_law_days", defArgs s_days, defBody s_days, defScope s_days, [], []⟩
def d_value : He.DefD := ⟨("_law_value", none), "_law_value", "_law_value", defArgs s_value, defBody s_value, defScope s_value, [], []⟩
def d_repeats : He.DefD := ⟨("_law_repeats", none), "_law_repeats", "_law_repeats", defArgs s_repeats, defBody s_repeats, defScope s_repeats, [], []⟩
def d_least : He.DefD := ⟨("_law_least", none), "_law_least", "_law_least", defArgs s_least, defBody s_least, defScope s_least, [], []⟩
def d_asked : He.DefD := ⟨("_law_asked", none), "_law_asked", "_law_asked", defArgs s_asked, defBody s_asked, defScope s_asked, [], []⟩
def d_ring : He.DefD := ⟨("_law_ring", none), "_law_ring", "_law_ring", defArgs s_ring, defBody s_ring, defScope s_ring, [], []⟩
def d_keeps_pace : He.DefD := ⟨("_law_keeps_pace", none), "_law_keeps_pace", "_law_keeps_pace", defArgs s_keeps_pace, defBody s_keeps_pace, defScope s_keeps_pace, [], []⟩
def d_few_uses_keep_pace : He.DefD := ⟨("_law_few_uses_keep_pace", none), "_law_few_uses_keep_pace", "_law_few_uses_keep_pace", defArgs s_few_uses_keep_pace, defBody s_few_uses_keep_pace, defScope s_few_uses_keep_pace, [], []⟩
def d_many_uses_keep_pace : He.DefD := ⟨("_law_many_uses_keep_pace", none), "_law_many_uses_keep_pace", "_law_many_uses_keep_pace", defArgs s_many_uses_keep_pace, defBody s_many_uses_keep_pace, defScope s_many_uses_keep_pace, [], []⟩
def d_law : He.DefD := ⟨("law", none), "law", "law", defArgs s_law, defBody s_law, defScope s_law, [], []⟩
abbrev s_BadDays___init__ : Stmt := inClass (topS 6) 0
theorem xn_BadDays {P : Program} {w : World} {K : PySem.W.Frag} {mg : Str → Option Value} {base : Heap} {fl : Str} (h1 : supObs K "BadDays" = supVal "BadDays.__init__" s_BadDays___init__) (h : ExnF K (He.ga K "BadDays") "BadDays.__init__" "at" fl) (hfl : ((P.main.file : Str) == fl) = true) (htop : (P.main.scope.names.lookup ("super" : Str)).isSome = false) (g : mg "BadDays" = some (.ref (He.ga K "BadDays"))) (m_super : mg "super" = none) : Exn P w K mg base "BadDays" (He.ga K "BadDays") "at" := by
  obtain ⟨c, cc, fd, kV, doc, pm, ct, an, hfd, S, hcd⟩ := sup_of h1 h.sup hfl htop
  refine ⟨S.oex, g, He.ma K _ "__init__", fd, ["self", "at"], h.ini, h.ty, ?_, ?_⟩
  · exact exn_ok (v := "at") (F := ⟨"__init__", "BadDays.__init__", defArgs s_BadDays___init__, defBody s_BadDays___init__, defScope s_BadDays___init__, [("__class__", cc)], c⟩) hfd S hcd (NdefX.nscope_by (sc := defScope s_BadDays___init__) (by decide +kernel)) rfl rfl rfl (show (defScope s_BadDays___init__).names.lookup ("super" : Str) = some .globalImplicit by decide +kernel) m_super h.no (by decide) (by decide) rfl (fun _ _ _ _ _ => rfl) (fun _ _ _ _ _ => rfl) (fun _ _ _ _ _ => rfl) (fun _ _ _ _ _ => rfl)
  · subst hfd
    exact Binds.all fun us hl => match us, hl with | [_, _], _ => rfl
abbrev s_BadCount___init__ : Stmt := inClass (topS 5) 0
theorem xn_BadCount {P : Program} {w : World} {K : PySem.W.Frag} {mg : Str → Option Value} {base : Heap} {fl : Str} (h1 : supObs K "BadCount" = supVal "BadCount.__init__" s_BadCount___init__) (h : ExnF K (He.ga K "BadCount") "BadCount.__init__" "value" fl) (hfl : ((P.main.file : Str) == fl) = true) (htop : (P.main.scope.names.lookup ("super" : Str)).isSome = false) (g : mg "BadCount" = some (.ref (He.ga K "BadCount"))) (m_super : mg "super" = none) : Exn P w K mg base "BadCount" (He.ga K "BadCount") "value" := by
  obtain ⟨c, cc, fd, kV, doc, pm, ct, an, hfd, S, hcd⟩ := sup_of h1 h.sup hfl htop
  refine ⟨S.oex, g, He.ma K _ "__init__", fd, ["self", "value"], h.ini, h.ty, ?_, ?_⟩
  · exact exn_ok (v := "value") (F := ⟨"__init__", "BadCount.__init__", defArgs s_BadCount___init__, defBody s_BadCount___init__, defScope s_BadCount___init__, [("__class__", cc)], c⟩) hfd S hcd (NdefX.nscope_by (sc := defScope s_BadCount___init__) (by decide +kernel)) rfl rfl rfl (show (defScope s_BadCount___init__).names.lookup ("super" : Str) = some .globalImplicit by decide +kernel) m_super h.no (by decide) (by decide) rfl (fun _ _ _ _ _ => rfl) (fun _ _ _ _ _ => rfl) (fun _ _ _ _ _ => rfl) (fun _ _ _ _ _ => rfl)
  · subst hfd
    exact Binds.all fun us hl => match us, hl with | [_, _], _ => rfl
def xns : List (PySem.W.Frag → SupV) := [fun K => supObs K "BadDays", fun K => supObs K "BadCount"]
def exPr (K : PySem.W.Frag) : List Bool := []
def xvs : List SupV := [supVal "BadDays.__init__" s_BadDays___init__, supVal "BadCount.__init__" s_BadCount___init__]
def exXn (fl : Str) (K : PySem.W.Frag) : List Bool := [exnB fl "BadDays.__init__" "at" K (He.ga K "BadDays"), exnB fl "BadCount.__init__" "value" K (He.ga K "BadCount")]
def fn : List He.DefD := [d_common_divisor, d_check_days, d_least_period, d_day_at, d_used_times, d_latest_days, d_common_period, d_shift, d_DayRule___init__, d_DayRule___call__, d_DayRule___rshift__, d_DayRule___mul__, d_DayRule_latest, d_DayRule_ring, d_cell, d_draws, d_take, d_whole, d_same, d_row_is, d_first, d_size, d_days, d_value, d_repeats, d_least, d_asked, d_ring, d_keeps_pace, d_few_uses_keep_pace, d_many_uses_keep_pace, d_law]
def fa : List He.Fa := [.glo "common_divisor", .glo "check_days", .glo "least_period", .glo "day_at", .glo "used_times", .glo "latest_days", .glo "common_period", .glo "shift", .glo "_law_cell", .glo "_law_draws", .glo "_law_take", .glo "_law_whole", .glo "_law_same", .glo "_law_row_is", .glo "_law_first", .glo "_law_size", .glo "_law_days", .glo "_law_value", .glo "_law_repeats", .glo "_law_least", .glo "_law_asked", .glo "_law_ring", .glo "_law_keeps_pace", .glo "_law_few_uses_keep_pace", .glo "_law_many_uses_keep_pace", .glo "law", .free "abs", .free "all", .free "bool", .free "int", .free "isinstance", .free "len", .free "list", .free "max", .free "min", .free "range", .free "super", .free "tuple", .glo "DayRule", .cls "DayRule", .mkr "DayRule", .noat "DayRule" "days", .meth "DayRule" "latest", .meth "DayRule" "ring", .glo "BadDays", .glo "BadCount"]
def loose : List Str := ["_wall", "common_divisor", "HouseError", "BadCount", "BadDays", "check_days", "least_period", "day_at", "used_times", "latest_days", "common_period", "DayRule", "shift", "_law_cell", "_law_draws", "_law_take", "_law_whole", "_law_same", "_law_row_is", "_law_first", "_law_size", "_law_days", "_law_value", "_law_repeats", "_law_least", "_law_asked", "_law_ring", "_law_keeps_pace", "_law_few_uses_keep_pace", "_law_many_uses_keep_pace"]
def fl : Str := PySem.Challenge.pw_signedpacts_k63_whole_ring_and_pace.main.file
def exL (K : PySem.W.Frag) : List Bool := [isB K (He.ga K "DayRule"), spB K (He.ga K "DayRule") "__call__",
  spB K (He.ga K "DayRule") "__rshift__", spB K (He.ga K "DayRule") "__mul__",
  PySem.W.selfFirst K (He.ga K "DayRule"), He.eqO (PySem.W.findIn K (.ref (He.ga K "DayRule")) "__rmul__") (some none), (PySem.W.findIn K (.type "int") "__mul__").isSome, (PySem.W.findIn K (.type "int") "__rmul__").isSome, decide (PySem.W.subIn K (.type "int") (.ref (He.ga K "DayRule")) = some false)]
def ex (K : PySem.W.Frag) : Bool := (exL K).all id && ((exXn fl K).all id && (exPr K).all id)
abbrev R : PySem.W.OpenRow := PySem.W.OpenLaw.row PySem.Challenge.rw_signedpacts_k63_whole_ring_and_pace
abbrev hk : PySem.W.Hook := hookY 5 fa fn xns xvs ex
def ob (s : PySem.W.SharedT) : He.AlD × (List SupV × Bool) := obY 5 fa fn xns ex (HandSHeadRun.getT s)
theorem ob_eq (s : PySem.W.SharedT) : ob s = hk.obs s.abs := obY_eq (HandSHeadRun.getT_eq s)
theorem run (w : World) : HandSHeadRun.RunEq R (PySem.W.view R.prog [34]) hk ob 8000 loose w := by
  intro os
  kernel_rfl
theorem facts {P : Program} {w : World} {K : PySem.W.Frag} {h : Heap} {mg : Str → Option Value} {f : Addr} (X : K.In h) (G : h.Ns mainGlobals mg) (hfa : mg ("law" : Str) = some (.ref f)) (c : He.SaysD fa fn K) (cs : xns.map (fun f => f K) = xvs) (cx : ex K = true) (hfl : ((P.main.file : Str) == fl) = true) (htop : (P.main.scope.names.lookup ("super" : Str)).isSome = false) :
    ∃ fd : FuncData, (∀ (s : Shared) (v : Value), BindsTo s fd ⟨[v], []⟩ [("_law_script", v)]) ∧ ∀ base : Heap, K.In base → base.Ns mainGlobals mg → FnOk P w K mg base CX0 8 f fd ["_law_script"] (spLaw K) := by
  obtain ⟨cx, cy⟩ := He.ba cx
  obtain ⟨cy, cp⟩ := He.ba cy
  obtain ⟨fd_common_divisor, F_common_divisor⟩ := c.def_ 0 (d := d_common_divisor) rfl
  have F_common_divisor : FnP K "common_divisor" s_common_divisor _ fd_common_divisor := F_common_divisor
  have g_common_divisor := He.glo_ok X G (c.fact 0 (f := .glo "common_divisor") rfl)
  have b_common_divisor : Binds K fd_common_divisor P_common_divisor [] := F_common_divisor.bindsN fun _ _ _ _ _ _ us hl => match us, hl with | [_], _ => rfl
  obtain ⟨fd_check_days, F_check_days⟩ := c.def_ 1 (d := d_check_days) rfl
  have F_check_days : FnP K "check_days" s_check_days _ fd_check_days := F_check_days
  have g_check_days := He.glo_ok X G (c.fact 1 (f := .glo "check_days") rfl)
  have b_check_days : Binds K fd_check_days P_check_days [] := F_check_days.bindsN fun _ _ _ _ _ _ us hl => match us, hl with | [_], _ => rfl
  obtain ⟨fd_least_period, F_least_period⟩ := c.def_ 2 (d := d_least_period) rfl
  have F_least_period : FnP K "least_period" s_least_period _ fd_least_period := F_least_period
  have g_least_period := He.glo_ok X G (c.fact 2 (f := .glo "least_period") rfl)
  have b_least_period : Binds K fd_least_period P_least_period [] := F_least_period.bindsN fun _ _ _ _ _ _ us hl => match us, hl with | [_], _ => rfl
  obtain ⟨fd_day_at, F_day_at⟩ := c.def_ 3 (d := d_day_at) rfl
  have F_day_at : FnP K "day_at" s_day_at _ fd_day_at := F_day_at
  have g_day_at := He.glo_ok X G (c.fact 3 (f := .glo "day_at") rfl)
  have b_day_at : Binds K fd_day_at P_day_at [] := F_day_at.bindsN fun _ _ _ _ _ _ us hl => match us, hl with | [_, _], _ => rfl
  obtain ⟨fd_used_times, F_used_times⟩ := c.def_ 4 (d := d_used_times) rfl
  have F_used_times : FnP K "used_times" s_used_times _ fd_used_times := F_used_times
  have g_used_times := He.glo_ok X G (c.fact 4 (f := .glo "used_times") rfl)
  have b_used_times : Binds K fd_used_times P_used_times [] := F_used_times.bindsN fun _ _ _ _ _ _ us hl => match us, hl with | [_, _], _ => rfl
  obtain ⟨fd_latest_days, F_latest_days⟩ := c.def_ 5 (d := d_latest_days) rfl
  have F_latest_days : FnP K "latest_days" s_latest_days _ fd_latest_days := F_latest_days
  have g_latest_days := He.glo_ok X G (c.fact 5 (f := .glo "latest_days") rfl)
  have b_latest_days : Binds K fd_latest_days P_latest_days [] := F_latest_days.bindsN fun _ _ _ _ _ _ us hl => match us, hl with | [_], _ => rfl
  obtain ⟨fd_common_period, F_common_period⟩ := c.def_ 6 (d := d_common_period) rfl
  have F_common_period : FnP K "common_period" s_common_period _ fd_common_period := F_common_period
  have g_common_period := He.glo_ok X G (c.fact 6 (f := .glo "common_period") rfl)
  have b_common_period : Binds K fd_common_period P_common_period [] := F_common_period.bindsN fun _ _ _ _ _ _ us hl => match us, hl with | [_], _ => rfl
  obtain ⟨fd_shift, F_shift⟩ := c.def_ 7 (d := d_shift) rfl
  have F_shift : FnP K "shift" s_shift _ fd_shift := F_shift
  have g_shift := He.glo_ok X G (c.fact 7 (f := .glo "shift") rfl)
  have b_shift : Binds K fd_shift P_shift [] := F_shift.bindsN fun _ _ _ _ _ _ us hl => match us, hl with | [_], _ => rfl
  obtain ⟨fd_DayRule___init__, F_DayRule___init__⟩ := c.def_ 8 (d := d_DayRule___init__) rfl
  have F_DayRule___init__ : FnM K "__init__" "DayRule.__init__" s_DayRule___init__ (He.ma K (He.ga K "DayRule") "__init__") fd_DayRule___init__ := F_DayRule___init__
  have b_DayRule___init__ : Binds K fd_DayRule___init__ P_DayRule___init__ [] := F_DayRule___init__.bindsN fun _ _ _ _ _ _ us hl => match us, hl with | [_, _], _ => rfl
  obtain ⟨fd_DayRule___call__, F_DayRule___call__⟩ := c.def_ 9 (d := d_DayRule___call__) rfl
  have F_DayRule___call__ : FnM K "__call__" "DayRule.__call__" s_DayRule___call__ (He.ma K (He.ga K "DayRule") "__call__") fd_DayRule___call__ := F_DayRule___call__
  have b_DayRule___call__ : Binds K fd_DayRule___call__ P_DayRule___call__ [] := F_DayRule___call__.bindsN fun _ _ _ _ _ _ us hl => match us, hl with | [_, _], _ => rfl
  obtain ⟨fd_DayRule___rshift__, F_DayRule___rshift__⟩ := c.def_ 10 (d := d_DayRule___rshift__) rfl
  have F_DayRule___rshift__ : FnM K "__rshift__" "DayRule.__rshift__" s_DayRule___rshift__ (He.ma K (He.ga K "DayRule") "__rshift__") fd_DayRule___rshift__ := F_DayRule___rshift__
  have b_DayRule___rshift__ : Binds K fd_DayRule___rshift__ P_DayRule___rshift__ [] := F_DayRule___rshift__.bindsN fun _ _ _ _ _ _ us hl => match us, hl with | [_, _], _ => rfl
  obtain ⟨fd_DayRule___mul__, F_DayRule___mul__⟩ := c.def_ 11 (d := d_DayRule___mul__) rfl
  have F_DayRule___mul__ : FnM K "__mul__" "DayRule.__mul__" s_DayRule___mul__ (He.ma K (He.ga K "DayRule") "__mul__") fd_DayRule___mul__ := F_DayRule___mul__
  have b_DayRule___mul__ : Binds K fd_DayRule___mul__ P_DayRule___mul__ [] := F_DayRule___mul__.bindsN fun _ _ _ _ _ _ us hl => match us, hl with | [_, _], _ => rfl
  obtain ⟨fd_DayRule_latest, F_DayRule_latest⟩ := c.def_ 12 (d := d_DayRule_latest) rfl
  have F_DayRule_latest : FnM K "latest" "DayRule.latest" s_DayRule_latest (He.ma K (He.ga K "DayRule") "latest") fd_DayRule_latest := F_DayRule_latest
  have b_DayRule_latest : Binds K fd_DayRule_latest P_DayRule_latest [] := F_DayRule_latest.bindsN fun _ _ _ _ _ _ us hl => match us, hl with | [_], _ => rfl
  obtain ⟨fd_DayRule_ring, F_DayRule_ring⟩ := c.def_ 13 (d := d_DayRule_ring) rfl
  have F_DayRule_ring : FnM K "ring" "DayRule.ring" s_DayRule_ring (He.ma K (He.ga K "DayRule") "ring") fd_DayRule_ring := F_DayRule_ring
  have b_DayRule_ring : Binds K fd_DayRule_ring P_DayRule_ring [] := F_DayRule_ring.bindsN fun _ _ _ _ _ _ us hl => match us, hl with | [_], _ => rfl
  obtain ⟨fd_cell, F_cell⟩ := c.def_ 14 (d := d_cell) rfl
  have F_cell : FnP K "_law_cell" s_cell _ fd_cell := F_cell
  have g_cell := He.glo_ok X G (c.fact 8 (f := .glo "_law_cell") rfl)
  have b_cell : Binds K fd_cell P_cell [] := F_cell.bindsN fun _ _ _ _ _ _ us hl => match us, hl with | [_, _], _ => rfl
  obtain ⟨fd_draws, F_draws⟩ := c.def_ 15 (d := d_draws) rfl
  have F_draws : FnP K "_law_draws" s_draws _ fd_draws := F_draws
  have g_draws := He.glo_ok X G (c.fact 9 (f := .glo "_law_draws") rfl)
  have b_draws : Binds K fd_draws P_draws [] := F_draws.bindsN fun _ _ _ _ _ _ us hl => match us, hl with | [_, _], _ => rfl
  obtain ⟨fd_take, F_take⟩ := c.def_ 16 (d := d_take) rfl
  have F_take : FnP K "_law_take" s_take _ fd_take := F_take
  have g_take := He.glo_ok X G (c.fact 10 (f := .glo "_law_take") rfl)
  have b_take : Binds K fd_take P_take [] := F_take.bindsN fun _ _ _ _ _ _ us hl => match us, hl with | [_, _], _ => rfl
  obtain ⟨fd_whole, F_whole⟩ := c.def_ 17 (d := d_whole) rfl
  have F_whole : FnP K "_law_whole" s_whole _ fd_whole := F_whole
  have g_whole := He.glo_ok X G (c.fact 11 (f := .glo "_law_whole") rfl)
  have b_whole : Binds K fd_whole P_whole [] := F_whole.bindsN fun _ _ _ _ _ _ us hl => match us, hl with | [_], _ => rfl
  obtain ⟨fd_same, F_same⟩ := c.def_ 18 (d := d_same) rfl
  have F_same : FnP K "_law_same" s_same _ fd_same := F_same
  have g_same := He.glo_ok X G (c.fact 12 (f := .glo "_law_same") rfl)
  have b_same : Binds K fd_same P_same [] := F_same.bindsN fun _ _ _ _ _ _ us hl => match us, hl with | [_, _], _ => rfl
  obtain ⟨fd_row_is, F_row_is⟩ := c.def_ 19 (d := d_row_is) rfl
  have F_row_is : FnP K "_law_row_is" s_row_is _ fd_row_is := F_row_is
  have g_row_is := He.glo_ok X G (c.fact 13 (f := .glo "_law_row_is") rfl)
  have b_row_is : Binds K fd_row_is P_row_is [] := F_row_is.bindsN fun _ _ _ _ _ _ us hl => match us, hl with | [_, _], _ => rfl
  obtain ⟨fd_first, F_first⟩ := c.def_ 20 (d := d_first) rfl
  have F_first : FnP K "_law_first" s_first _ fd_first := F_first
  have g_first := He.glo_ok X G (c.fact 14 (f := .glo "_law_first") rfl)
  have b_first : Binds K fd_first P_first [] := F_first.bindsN fun _ _ _ _ _ _ us hl => match us, hl with | [_, _], _ => rfl
  obtain ⟨fd_size, F_size⟩ := c.def_ 21 (d := d_size) rfl
  have F_size : FnP K "_law_size" s_size _ fd_size := F_size
  have g_size := He.glo_ok X G (c.fact 15 (f := .glo "_law_size") rfl)
  have b_size : Binds K fd_size P_size [] := F_size.bindsN fun _ _ _ _ _ _ us hl => match us, hl with | [_, _, _], _ => rfl
  obtain ⟨fd_days, F_days⟩ := c.def_ 22 (d := d_days) rfl
  have F_days : FnP K "_law_days" s_days _ fd_days := F_days
  have g_days := He.glo_ok X G (c.fact 16 (f := .glo "_law_days") rfl)
  have b_days : Binds K fd_days P_days [] := F_days.bindsN fun _ _ _ _ _ _ us hl => match us, hl with | [_, _, _], _ => rfl
  obtain ⟨fd_value, F_value⟩ := c.def_ 23 (d := d_value) rfl
  have F_value : FnP K "_law_value" s_value _ fd_value := F_value
  have g_value := He.glo_ok X G (c.fact 17 (f := .glo "_law_value") rfl)
  have b_value : Binds K fd_value P_value [] := F_value.bindsN fun _ _ _ _ _ _ us hl => match us, hl with | [_, _], _ => rfl
  obtain ⟨fd_repeats, F_repeats⟩ := c.def_ 24 (d := d_repeats) rfl
  have F_repeats : FnP K "_law_repeats" s_repeats _ fd_repeats := F_repeats
  have g_repeats := He.glo_ok X G (c.fact 18 (f := .glo "_law_repeats") rfl)
  have b_repeats : Binds K fd_repeats P_repeats [] := F_repeats.bindsN fun _ _ _ _ _ _ us hl => match us, hl with | [_, _], _ => rfl
  obtain ⟨fd_least, F_least⟩ := c.def_ 25 (d := d_least) rfl
  have F_least : FnP K "_law_least" s_least _ fd_least := F_least
  have g_least := He.glo_ok X G (c.fact 19 (f := .glo "_law_least") rfl)
  have b_least : Binds K fd_least P_least [] := F_least.bindsN fun _ _ _ _ _ _ us hl => match us, hl with | [_], _ => rfl
  obtain ⟨fd_asked, F_asked⟩ := c.def_ 26 (d := d_asked) rfl
  have F_asked : FnP K "_law_asked" s_asked _ fd_asked := F_asked
  have g_asked := He.glo_ok X G (c.fact 20 (f := .glo "_law_asked") rfl)
  have b_asked : Binds K fd_asked P_asked [] := F_asked.bindsN fun _ _ _ _ _ _ us hl => match us, hl with | [_, _], _ => rfl
  obtain ⟨fd_ring, F_ring⟩ := c.def_ 27 (d := d_ring) rfl
  have F_ring : FnP K "_law_ring" s_ring _ fd_ring := F_ring
  have g_ring := He.glo_ok X G (c.fact 21 (f := .glo "_law_ring") rfl)
  have b_ring : Binds K fd_ring P_ring [] := F_ring.bindsN fun _ _ _ _ _ _ us hl => match us, hl with | [_, _], _ => rfl
  obtain ⟨fd_keeps_pace, F_keeps_pace⟩ := c.def_ 28 (d := d_keeps_pace) rfl
  have F_keeps_pace : FnP K "_law_keeps_pace" s_keeps_pace _ fd_keeps_pace := F_keeps_pace
  have g_keeps_pace := He.glo_ok X G (c.fact 22 (f := .glo "_law_keeps_pace") rfl)
  have b_keeps_pace : Binds K fd_keeps_pace P_keeps_pace [] := F_keeps_pace.bindsN fun _ _ _ _ _ _ us hl => match us, hl with | [_, _, _, _], _ => rfl
  obtain ⟨fd_few_uses_keep_pace, F_few_uses_keep_pace⟩ := c.def_ 29 (d := d_few_uses_keep_pace) rfl
  have F_few_uses_keep_pace : FnP K "_law_few_uses_keep_pace" s_few_uses_keep_pace _ fd_few_uses_keep_pace := F_few_uses_keep_pace
  have g_few_uses_keep_pace := He.glo_ok X G (c.fact 23 (f := .glo "_law_few_uses_keep_pace") rfl)
  have b_few_uses_keep_pace : Binds K fd_few_uses_keep_pace P_few_uses_keep_pace [] := F_few_uses_keep_pace.bindsN fun _ _ _ _ _ _ us hl => match us, hl with | [_, _, _, _], _ => rfl
  obtain ⟨fd_many_uses_keep_pace, F_many_uses_keep_pace⟩ := c.def_ 30 (d := d_many_uses_keep_pace) rfl
  have F_many_uses_keep_pace : FnP K "_law_many_uses_keep_pace" s_many_uses_keep_pace _ fd_many_uses_keep_pace := F_many_uses_keep_pace
  have g_many_uses_keep_pace := He.glo_ok X G (c.fact 24 (f := .glo "_law_many_uses_keep_pace") rfl)
  have b_many_uses_keep_pace : Binds K fd_many_uses_keep_pace P_many_uses_keep_pace [] := F_many_uses_keep_pace.bindsN fun _ _ _ _ _ _ us hl => match us, hl with | [_, _, _, _, _], _ => rfl
  obtain ⟨fd_law, F_law⟩ := c.def_ 31 (d := d_law) rfl
  have F_law : FnP K "law" s_law _ fd_law := F_law
  have g_law := He.glo_ok X G (c.fact 25 (f := .glo "law") rfl)
  have m_abs := He.free_ok X G (c.fact 26 (f := .free "abs") rfl)
  have m_all := He.free_ok X G (c.fact 27 (f := .free "all") rfl)
  have m_bool := He.free_ok X G (c.fact 28 (f := .free "bool") rfl)
  have m_int := He.free_ok X G (c.fact 29 (f := .free "int") rfl)
  have m_isinstance := He.free_ok X G (c.fact 30 (f := .free "isinstance") rfl)
  have m_len := He.free_ok X G (c.fact 31 (f := .free "len") rfl)
  have m_list := He.free_ok X G (c.fact 32 (f := .free "list") rfl)
  have m_max := He.free_ok X G (c.fact 33 (f := .free "max") rfl)
  have m_min := He.free_ok X G (c.fact 34 (f := .free "min") rfl)
  have m_range := He.free_ok X G (c.fact 35 (f := .free "range") rfl)
  have m_super := He.free_ok X G (c.fact 36 (f := .free "super") rfl)
  have m_tuple := He.free_ok X G (c.fact 37 (f := .free "tuple") rfl)
  have g_DayRule := He.glo_ok X G (c.fact 38 (f := .glo "DayRule") rfl)
  have cls_DayRule := He.cls_ok (c.fact 39 (f := .cls "DayRule") rfl)
  have mk_DayRule := He.mkr_ok (c.fact 40 (f := .mkr "DayRule") rfl)
  have n_DayRule_days := He.noat_ok (c.fact 41 (f := .noat "DayRule" "days") rfl)
  have me_DayRule_latest := He.meth_ok (c.fact 42 (f := .meth "DayRule" "latest") rfl)
  have me_DayRule_ring := He.meth_ok (c.fact 43 (f := .meth "DayRule" "ring") rfl)
  have g_BadDays := He.glo_ok X G (c.fact 44 (f := .glo "BadDays") rfl)
  have g_BadCount := He.glo_ok X G (c.fact 45 (f := .glo "BadCount") rfl)
  have f_BadDays := exnB_ok (all_at cy 0)
  have x_BadDays : ∀ base : Heap, Exn P w K mg base "BadDays" (He.ga K "BadDays") "at" := fun base => xn_BadDays (y_at cs 0) f_BadDays hfl htop g_BadDays m_super
  have f_BadCount := exnB_ok (all_at cy 1)
  have x_BadCount : ∀ base : Heap, Exn P w K mg base "BadCount" (He.ga K "BadCount") "value" := fun base => xn_BadCount (y_at cs 1) f_BadCount hfl htop g_BadCount m_super
  obtain ⟨y1, y2, y3⟩ := spB_ok (all_at cx 1)
  obtain ⟨r1, r2, r3⟩ := spB_ok (all_at cx 2)
  obtain ⟨u1, u2, u3⟩ := spB_ok (all_at cx 3)
  have sf := all_at cx 4
  have hr0 := He.eqO_ok (all_at cx 5)
  obtain ⟨fo, hfo⟩ := Option.isSome_iff_exists.mp (all_at cx 6)
  obtain ⟨ro, hro⟩ := Option.isSome_iff_exists.mp (all_at cx 7)
  have hsub := of_decide_eq_true (all_at cx 8)
  have e := hfa.symm.trans g_law
  cases e
  have b := FunD.bindsA (ps := ["_law_script"]) F_law fun _ _ _ _ _ _ us hl => match us, hl with | [_], _ => rfl
  refine ⟨fd_law, fun s v => b s [v] rfl, fun base _ _ => ?_⟩
  have c_cell : Cal P w K mg base 1 "_law_cell" (spCell K) := cal_of F_cell g_cell b_cell (ok_cell F_cell m_len m_int)
  have c_draws : Cal P w K mg base 1 "_law_draws" spDraws := cal_of F_draws g_draws b_draws (ok_draws F_draws m_int m_abs m_range)
  have c_take : Cal P w K mg base 1 "_law_take" (spTake K) := cal_of F_take g_take b_take (ok_take F_take m_len)
  have c_check_days : CalX P w K mg base 3 "check_days" (spCheck (He.ga K "BadDays") K) := ⟨_, _, _, ok_check_days F_check_days m_len m_range (x_BadDays base), g_check_days, F_check_days.kp, b_check_days⟩
  have c_day_at : Cal P w K mg base 1 "day_at" (spDayAt K) := cal_of F_day_at g_day_at b_day_at (ok_day_at F_day_at m_len)
  have c_least_period : Cal P w K mg base 1 "least_period" (spLeast K) := cal_of F_least_period g_least_period b_least_period (ok_least_period F_least_period m_len m_range m_all)
  have c_common_divisor : Cal P w K mg base 1 "common_divisor" (spGcd K) := cal_of F_common_divisor g_common_divisor b_common_divisor (ok_common_divisor F_common_divisor m_abs)
  have c_common_period : Cal P w K mg base 2 "common_period" (spPer (He.ga K "DayRule") K) := cal_of F_common_period g_common_period b_common_period (ok_common_period F_common_period m_len cls_DayRule n_DayRule_days c_common_divisor)
  have c_used_times : Cal P w K mg base 2 "used_times" (spUsedT K) := cal_of F_used_times g_used_times b_used_times (ok_used_times F_used_times m_len m_list m_range c_day_at)
  have k_DayRule : MakX P w K mg base 4 "DayRule" (He.ga K "DayRule") (spInit (He.ga K "DayRule") (He.ga K "BadDays") K) := ⟨_, _, _, mk_DayRule, ok_init F_DayRule___init__ cls_DayRule n_DayRule_days m_tuple c_check_days c_least_period, g_DayRule, b_DayRule___init__⟩
  have co_call : Cob P w K mg base 2 (He.ga K "DayRule") (spCallR (He.ga K "DayRule") K) := ⟨_, ⟨y1, y2, y3⟩, fnr_ok (ok_call F_DayRule___call__ cls_DayRule n_DayRule_days c_day_at) b_DayRule___call__⟩
  have o_rshift : Bin2 P w K mg base 6 (He.ga K "DayRule") "__rshift__" (spOp (He.ga K "DayRule") K fun F G d => G (F d)) := ⟨_, _, _, ok_rshift F_DayRule___rshift__ m_range cls_DayRule n_DayRule_days c_day_at c_common_period k_DayRule, r1, r2, b_DayRule___rshift__, sf⟩
  have o_mul : BinI P w K mg base 6 (He.ga K "DayRule") .Mult (spMul (He.ga K "DayRule") (He.ga K "BadCount") K) := ⟨_, _, _, fo, ro, ok_mul F_DayRule___mul__ cls_DayRule n_DayRule_days (x_BadCount base) c_used_times k_DayRule, u1, u2, b_DayRule___mul__, sf, hr0, hfo, hro, hsub⟩
  have c_latest_days : Cal P w K mg base 2 "latest_days" (spLatD K) := cal_of F_latest_days g_latest_days b_latest_days (ok_latest_days F_latest_days m_len m_range m_max c_day_at)
  have me_latest : Met P w K mg base 6 (He.ga K "DayRule") "latest" (spLatest (He.ga K "DayRule") K) := ⟨_, _, _, cls_DayRule, me_DayRule_latest, ok_latest F_DayRule_latest cls_DayRule n_DayRule_days c_latest_days k_DayRule, b_DayRule_latest⟩
  have c_whole : Cal P w K mg base 1 "_law_whole" spWhole := cal_of F_whole g_whole b_whole (ok_whole F_whole m_isinstance m_int m_bool)
  have c_same : Cal P w K mg base 2 "_law_same" spSame := cal_of F_same g_same b_same (ok_same F_same c_whole)
  have c_row_is : Cal P w K mg base 3 "_law_row_is" (spRow K) := cal_of F_row_is g_row_is b_row_is (ok_row_is F_row_is m_isinstance m_tuple m_len m_range c_same)
  have c_value : Cal P w K mg base 1 "_law_value" (spValue K) := cal_of F_value g_value b_value (ok_value F_value m_len m_int)
  have c_repeats : Cal P w K mg base 2 "_law_repeats" (spRepeats K) := cal_of F_repeats g_repeats b_repeats (ok_repeats F_repeats m_len m_range c_value)
  have c_least : Cal P w K mg base 3 "_law_least" (spLeastL K) := cal_of F_least g_least b_least (ok_least F_least m_len m_range c_repeats)
  have c_first : Cal P w K mg base 1 "_law_first" spFirst := cal_of F_first g_first b_first (ok_first F_first m_int m_range)
  have c_size : Cal P w K mg base 2 "_law_size" (spSize K) := cal_of F_size g_size b_size (ok_size F_size m_int c_take)
  have c_days : Cal P w K mg base 2 "_law_days" (spDays K) := cal_of F_days g_days b_days (ok_days F_days m_int m_range m_min c_take c_first)
  have c_asked : Cal P w K mg base 2 "_law_asked" (spAsked K) := cal_of F_asked g_asked b_asked (ok_asked F_asked m_int m_range m_min m_max m_len c_cell)
  have c_shift : Cal P w K mg base 6 "shift" (spShift (He.ga K "DayRule") K) := cal_of F_shift g_shift b_shift (ok_shift F_shift k_DayRule)
  have me_ring : Met P w K mg base 2 (He.ga K "DayRule") "ring" (spRing (He.ga K "DayRule") K) := ⟨_, _, _, cls_DayRule, me_DayRule_ring, ok_mring F_DayRule_ring m_len m_list m_range cls_DayRule n_DayRule_days c_day_at, b_DayRule_ring⟩
  have c_ring : Cal P w K mg base 2 "_law_ring" (spRingL K) := cal_of F_ring g_ring b_ring (ok_ring F_ring m_range m_int c_value)
  have c_keeps_pace : Cal P w K mg base 1 "_law_keeps_pace" (spKeeps K) := cal_of F_keeps_pace g_keeps_pace b_keeps_pace (ok_keeps_pace F_keeps_pace)
  have c_few_uses_keep_pace : Cal P w K mg base 2 "_law_few_uses_keep_pace" (spFew K) := cal_of F_few_uses_keep_pace g_few_uses_keep_pace b_few_uses_keep_pace (ok_few_uses_keep_pace F_few_uses_keep_pace m_range c_value c_keeps_pace)
  have c_many_uses_keep_pace : Cal P w K mg base 7 "_law_many_uses_keep_pace" (spMany (He.ga K "DayRule") K) := cal_of F_many_uses_keep_pace g_many_uses_keep_pace b_many_uses_keep_pace (ok_many_uses_keep_pace F_many_uses_keep_pace m_isinstance m_tuple m_len cls_DayRule c_whole c_keeps_pace co_call o_mul me_ring)
  exact ok_law F_law m_int m_len m_list m_range m_min m_isinstance m_tuple cls_DayRule n_DayRule_days c_draws c_cell c_size c_days c_asked c_least c_row_is c_whole c_same c_ring c_few_uses_keep_pace c_many_uses_keep_pace c_shift k_DayRule co_call me_ring me_latest o_rshift o_mul
end Z
open PySem PySem.W PySem.Calls PyProof.Rows
theorem PySem.Challenge.cw_signedpacts_k63_whole_ring_and_pace_holds : PySem.Challenge.rw_signedpacts_k63_whole_ring_and_pace.Holds := by
  w_on; o_law
  refine HandSHeadRun.head_any (r := OpenLaw.row PySem.Challenge.rw_signedpacts_k63_whole_ring_and_pace) (q := view (OpenLaw.row PySem.Challenge.rw_signedpacts_k63_whole_ring_and_pace).prog [34]) (H := Z.hk) (ob := Z.ob) (M := 8000) (loose := Z.loose) (d := HandSHeadRun.topDef (OpenLaw.row PySem.Challenge.rw_signedpacts_k63_whole_ring_and_pace).prog 34) (kwd := []) Z.ob_eq
    (by kernel_rfl) (fun s => by kernel_rfl) Z.run (by kernel_rfl) (by kernel_rfl) (by kernel_rfl) (by rfl) (by first | assumption | decide +kernel) (by decide +kernel) ⟨rfl, rfl, rfl, rfl, rfl, by decide +kernel⟩ ?hw ?hc
  case hw => w_witness2
  case hc =>
    refine L2.walk_ofE (l := PySem.Challenge.rw_signedpacts_k63_whole_ring_and_pace) (n := 63) (k := 8) (x := "_law_script") (CX := L2.CX0) rfl (by decide) (by kernel_rfl) ⟨rfl, by decide, by decide⟩ ?F (fun _ _ _ _ z => z)
    intro w mg fa h Y G hmg0
    obtain ⟨K, KX, c, cs, cx⟩ := Y
    have hmg : mg ("law" : PySem.Str) = some (.ref fa) := by
      have e : (HandSHeadRun.topDef (OpenLaw.row PySem.Challenge.rw_signedpacts_k63_whole_ring_and_pace).prog 34).name = ("law" : PySem.Str) := by kernel_rfl
      rw [← e]
      exact hmg0
    obtain ⟨fd, hb, hF⟩ := Z.facts (P := (PySem.Challenge.rw_signedpacts_k63_whole_ring_and_pace).prog) (w := w) KX G hmg c cs cx (by kernel_rfl) (by kernel_rfl)
    exact ⟨K, fd, Z.spLaw K, KX, hb, fun H a ns hl _ hS => ⟨a, ns, rfl, hS, hl, fun _ => rfl⟩, hF⟩
