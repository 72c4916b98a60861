import PyProof.Rows.All
import Wide.All
import OpenK.AllK
import Wide.FinOn
import HandS.ForMost
import HandS.Zip
import HandS.TupMul
import HandS.Codes
import KE.GoesMore
import KE.GoesEnum
import HandS.Defaults
import HandS.IsInst
import HandS.Wide
import HandS.WideBits
import HandS.NoneIn
import HandS.OwnEq
import HandS.Star
import HandS.SetTxtIn
import HandS.ExcInit
import HandS.ExcField
import HandS.ExcIs
import HandS.Nested
import HandS.ClsMeth
import HandS.HeadHook1
import KE.KSuper
import KE.KExcSuper
import HandS.WordsExc
import KE.KExcIs
import HandS.HeadHook2
import KE.KOpsOwn
import HandS.SortKw
import KE.SortKeyHeap
import HandS.Conv
import HandS.Small
import HandS.Head0
import HandS.Head1
import HandS.Head2
import HandS.HeadEnd
import PySem.Challenge.RW_signedpacts_k21_whole_need_algebra
set_option Elab.async false
set_option linter.all false
set_option maxRecDepth 100000
set_option maxHeartbeats 4000000
namespace Z
open PySem PySem.Spec PyProof.Rows L2
/-! ### zip over two sequences, each a list (true) or a tuple (false) -/
def SqK (b : Bool) (K : PySem.W.Frag) (H : Hp) (a : Addr) (xs : List V) : Prop := match b with
  | true => SqL K H a xs
  | false => SqT K H a xs
def ItK (b : Bool) (h : Heap) (it l : Addr) (i : Nat) : Prop := match b with
  | true => h.IsListIter it l i
  | false => h.IsTupleIter it l i
def IsK (b : Bool) (h : Heap) (l : Addr) (xs : Array Value) : Prop := match b with
  | true => h.IsList l xs
  | false => h.IsTuple l xs
theorem ItK.at' {b : Bool} {h h' : Heap} {it l : Addr} {i : Nat} (x : ItK b h it l i) (k : ∀ o, h.get? it = some o → h'.get? it = some o) : ItK b h' it l i := by
  cases b
  · exact Heap.IsTupleIter.at x k
  · exact Heap.IsListIter.at x k
theorem ItK.obj {b : Bool} {h : Heap} {it l : Addr} {i : Nat} (x : ItK b h it l i) : ∃ o, h.get? it = some o ∧ ∀ v, o.data ≠ .cell v := by
  cases b
  · obtain ⟨o, e, _, d⟩ := (show h.IsTupleIter it l i from x)
    exact ⟨o, e, fun v q => by rw [d] at q; cases q⟩
  · obtain ⟨o, e, _, d⟩ := (show h.IsListIter it l i from x)
    exact ⟨o, e, fun v q => by rw [d] at q; cases q⟩
theorem sqk_is {X : Cx} {pins : List (Addr × Obj)} {σ : L2.St} {H : Hp} {s : Shared} {b : Bool} {a : Addr} {xs : List V} (I : Inv X pins σ H s) (h : SqK b X.K H a xs) :
    ∃ its : List Value, Vals xs its ∧ IsK b s.heap a its.toArray ∧ a < s.heap.objs.size := by
  cases b
  · obtain ⟨its, r, p, _⟩ := I.tuple h
    obtain ⟨o, ho, _⟩ := id p
    exact ⟨its, r, p, Heap.lt_size ho⟩
  · obtain ⟨its, r, p, _⟩ := I.list h
    exact ⟨its, r, p.isList, p.lt⟩
theorem sqk_inj {X : Cx} {pins : List (Addr × Obj)} {σ : L2.St} {H : Hp} {s : Shared} {b : Bool} {a : Addr} {xs ys : List V} (I : Inv X pins σ H s) (h : SqK b X.K H a xs) (h' : SqK b X.K H a ys) : xs = ys := by
  cases b
  · exact I.tuple_inj h h'
  · exact I.list_inj h h'
theorem drawsK {prog : Program} {w : World} {A : Around} (b : Bool) (hh : A.handled = none) (it l : Addr) (hne : l ≠ it) (items : Array Value) :
    Draws prog w A it [it, l] items.size (fun i v => items[i]? = some v) (fun i h => ItK b h it l i ∧ IsK b h l items) := by
  cases b
  · exact Draws.tuple hh it l hne items
  · exact Draws.list hh it l hne items
def ItzM (p q : Bool) (K : PySem.W.Frag) (a b : Addr) : It :=
  ⟨fun i H => ∃ (xs ys : List V) (x y : V), SqK p K H a xs ∧ SqK q K H b ys ∧ xs[i]? = some x ∧ ys[i]? = some y,
   fun i H v H' => ∃ T x y, v = .ref T ∧ H T = none ∧ H' = upd H T (.tup [x, y]) ∧ (∀ xs, SqK p K H a xs → xs[i]? = some x) ∧ (∀ ys, SqK q K H b ys → ys[i]? = some y),
   fun i H => ∃ xs ys : List V, SqK p K H a xs ∧ SqK q K H b ys ∧ (xs.length ≤ i ∨ ys.length ≤ i) ∧ i ≤ xs.length ∧ i ≤ ys.length⟩
theorem zsep {z TI TO i1 i2 a b : Addr} (D : ZipApart z TI TO i1 i2 a b) : ZipSep2 z TI TO i1 i2 [i1, a] [i2, b] where
  TIz := D.TIz
  TOz := D.TOz
  TITO := D.TITO
  TIi1 := D.TIi1
  mem1 := List.mem_cons_self
  zf1 := fun h => by rcases List.mem_cons.mp h with e | h; exact D.i1z e.symm; exact D.l1z (List.mem_singleton.mp h).symm
  Tf1 := fun h => by rcases List.mem_cons.mp h with e | h; exact D.TOi1 e; exact D.l1TO (List.mem_singleton.mp h).symm
  TIi2 := D.TIi2
  mem2 := List.mem_cons_self
  zf2 := fun h => by rcases List.mem_cons.mp h with e | h; exact D.i2z e.symm; exact D.l2z (List.mem_singleton.mp h).symm
  Tf2 := fun h => by rcases List.mem_cons.mp h with e | h; exact D.TOi2 e; exact D.l2TO (List.mem_singleton.mp h).symm
  sep1_2 := fun h => by rcases List.mem_cons.mp h with e | h; exact D.i12 e; exact D.l2i1 (List.mem_singleton.mp h).symm
  sep2_1 := fun h => by rcases List.mem_cons.mp h with e | h; exact D.i12 e.symm; exact D.l1i2 (List.mem_singleton.mp h).symm
theorem five {c z TI TO i1 i2 : Addr} {Pr : Addr → Prop} (hc : c ∈ [z, TI, TO, i1, i2]) (a : Pr z) (b : Pr TI) (d : Pr TO) (e : Pr i1) (f : Pr i2) : Pr c := by
  have q : c = z ∨ c = TI ∨ c = TO ∨ c = i1 ∨ c = i2 := by simpa using hc
  rcases q with rfl | rfl | rfl | rfl | rfl <;> assumption
theorem turn_zipM {p q : Bool} {P : Program} {w : World} {K : PySem.W.Frag} {elts : List Expr} {kk : Nat} {tpos : Pos} {a b z TI TO i1 i2 : Addr} (D : ZipApart z TI TO i1 i2 a b) :
    Turn P w K (.Tuple elts kk tpos) (ItzM p q K a b) [z, TI, TO, i1, i2] z (fun i h => IsZip h z TI TO .none ∧ IsTupOf2 h TI (.ref i1) (.ref i2) ∧ (∃ x y, IsTupOf2 h TO x y) ∧ ItK p h i1 a i ∧ ItK q h i2 b i) where
  mem := by simp
  obj := fun i h st c hc => by
    obtain ⟨hz, hI, ⟨x, y, hO⟩, h1, h2⟩ := st
    exact five (Pr := fun c => ∃ o, h.get? c = some o ∧ ∀ v, o.data ≠ .cell v) hc ⟨_, hz, fun v q => nomatch q⟩ ⟨_, hI, fun v q => nomatch q⟩ ⟨_, hO, fun v q => nomatch q⟩ h1.obj h2.obj
  keep := fun i h h' st k => by
    obtain ⟨hz, hI, ⟨x, y, hO⟩, h1, h2⟩ := st
    exact ⟨k z (by simp) _ hz, k TI (by simp) _ hI, ⟨x, y, k TO (by simp) _ hO⟩, h1.at' (fun o e => k i1 (by simp) o e), h2.at' (fun o e => k i2 (by simp) o e)⟩
  item := by
    intro X hP hw hK hc i pins s σ H E I hf st hg
    subst hP hw hK
    obtain ⟨hz, hI, ⟨x0, y0, hO⟩, h1, h2⟩ := st
    obtain ⟨xs, ys, x, y, qx, qy, ex, ey⟩ := hg
    obtain ⟨us, rx, kx, _⟩ := sqk_is I qx
    obtain ⟨vs, ry, ky, _⟩ := sqk_is I qy
    obtain ⟨u, eu, ru⟩ := rx.get ex
    obtain ⟨v, ev, rv⟩ := ry.get ey
    have hzl : z < s.heap.objs.size := Heap.lt_size hz
    have lu : i < us.toArray.size := by simpa using (List.getElem?_eq_some_iff.mp eu).1
    have lv : i < vs.toArray.size := by simpa using (List.getElem?_eq_some_iff.mp ev).1
    have hh : X.A.in1.handled = none := I.ok.hd hc
    refine wpAny_pyNext_zipD2_item (zsep D) (drawsK p hh i1 a D.l1i1 us.toArray) (drawsK q hh i2 b D.l2i2 vs.toArray) hz hI hO ⟨h1, kx⟩ ⟨h2, ky⟩ lu lv fun m1 m2 g tk p1 p2 gz gO g1 g2 gT gs gk => ?_
    have e1 : m1 = u := by
      have t1 : us.toArray[i]? = some u := by simpa using eu
      exact Option.some.inj (p1.symm.trans t1)
    have e2 : m2 = v := by
      have t1 : vs.toArray[i]? = some v := by simpa using ev
      exact Option.some.inj (p2.symm.trans t1)
    subst e1 e2
    refine ⟨_, rfl, wpAny_letOwnedTupleGo_zip (s := { s with heap := g, toks := tk }) gz fun g' gz' sb => ?_⟩
    have gT' : g'.get? s.heap.objs.size = some { cls := .type "tuple", data := .seq #[m1, m2] } := (sb.2 _ (Nat.ne_of_gt hzl)).trans gT
    have nw : ObjOk X.prog X.w (upd H s.heap.objs.size (.tup [x, y])) g' s.heap.objs.size (.tup [x, y]) := ⟨by show 2 ≤ sizeLine; decide, [m1, m2], .cons ru (.cons rv .nil), ⟨_, gT', rfl, _, rfl⟩⟩
    have I1 : Inv X pins σ (upd H s.heap.objs.size (.tup [x, y])) { s with heap := g', toks := tk } :=
      I.turnedNew (t' := tk) (ch := [z, TI, TO, i1, i2]) (fun c o nb e => (sb.2 c (fun w => nb (by simp [w]))).trans (gk c o (fun w => nb (by simp [w])) (fun w => nb (by simp [w])) (fun w => nb (by simp [w])) (fun w => nb (by simp [w])) e)) hf (Nat.le_refl _) nw
    refine ⟨.ref s.heap.objs.size, _, I1, rfl, ⟨_, x, y, rfl, I.hok.fresh (Nat.le_refl _), rfl, fun l hl => by rw [sqk_inj I hl qx]; exact ex, fun l hl => by rw [sqk_inj I hl qy]; exact ey⟩, ⟨gz', ?_, ⟨m1, m2, ?_⟩, ?_, ?_⟩, fun c hcm => ?_⟩
    · exact (sb.2 _ D.TIz).trans (gk _ _ D.TIz D.TITO D.TIi1 D.TIi2 hI)
    · exact (sb.2 _ D.TOz).trans gO
    · exact ItK.at' g1.1 (fun o e => (sb.2 _ D.i1z).trans e)
    · exact ItK.at' g2.1 (fun o e => (sb.2 _ D.i2z).trans e)
    · have lt : c < s.heap.objs.size := by
        obtain ⟨o1, q1, _⟩ := h1.obj
        obtain ⟨o2, q2, _⟩ := h2.obj
        exact five (Pr := fun c => c < s.heap.objs.size) hcm hzl (Heap.lt_size hI) (Heap.lt_size hO) (Heap.lt_size q1) (Heap.lt_size q2)
      rw [upd_ne (Nat.ne_of_lt lt)]
      exact (hf c hcm).1
  done := by
    intro X hP hw hK hc i pins s σ H E I hf st hg
    subst hP hw hK
    obtain ⟨hz, hI, ⟨x0, y0, hO⟩, h1, h2⟩ := st
    obtain ⟨xs, ys, qx, qy, hend, le1, le2⟩ := hg
    obtain ⟨us, rx, kx, _⟩ := sqk_is I qx
    obtain ⟨vs, ry, ky, _⟩ := sqk_is I qy
    have l1 := rx.length
    have l2 := ry.length
    have n1 : us.toArray.size = us.length := by simp
    have n2 : vs.toArray.size = vs.length := by simp
    have hh : X.A.in1.handled = none := I.ok.hd hc
    refine wpAny_pyNext_zipD2_end (i := i) (zsep D) (drawsK p hh i1 a D.l1i1 us.toArray) (drawsK q hh i2 b D.l2i2 vs.toArray) hz hI hO ⟨h1, kx⟩ ⟨h2, ky⟩ (by omega) (by omega) (by omega) fun g tk gk => ?_
    exact ⟨rfl, I.turnedL (t' := tk) (ch := [z, TI, TO, i1, i2]) (fun c o nb e => gk c o (fun w => nb (by simp [w])) (fun w => nb (by simp [w])) (fun w => nb (by simp [w])) (fun w => nb (by simp [w])) e) hf⟩
  self := fun A i s Q E st h => wpAny_pyIter_zip st.1 h
def iZipM (K : PySem.W.Frag) (ta : TA) : TI := fun σ H R => ta σ H fun vs H1 => ∃ p q a b xs ys, vs = [.ref a, .ref b] ∧ SqK p K H1 a xs ∧ SqK q K H1 b ys ∧ R (ItzM p q K a b) H1
theorem begK {p : Bool} {h : Heap} {a : Addr} {xs : Array Value} (k : IsK p h a xs) : ∃ o Hp', Begins (.ref a) o Hp' ∧ Hp' h ∧ ∀ h' it, h'.get? it = some o → ItK p h' it a 0 := by
  cases p
  · exact ⟨_, _, begins_tuple a xs, k, fun h' it e => ⟨_, e, rfl, rfl⟩⟩
  · exact ⟨_, _, begins_list a xs, k, fun h' it e => ⟨_, e, rfl, rfl⟩⟩
theorem pi_zipM {X : Cx} {e e2 : Expr} {ta : TA} {p pos tpos : Pos} {elts : List Expr} {kk : Nat} (hg : Gl X "zip") (hm : X.mg "zip" = none) (ha : PA X [e, e2] ta)
    (hs : starEach [e, e2] X.env = (false, eval e X.env) :: starEach [e2] X.env := by rfl) (hpl : (backTo pos (starEach [e2] X.env)).any (·.1) = false := by rfl) :
    PI X (.Tuple elts kk tpos) (.Call (.Name "zip" p) [e, e2] [] pos) (iZipM X.K ta) := by
  constructor
  intro pins s σ H R I h
  refine Call_ (ld_blt I hg hm PyProof.Rows.boot_zip (PyProof.Rows.callWith_type1 (thn (ha.run pos pins s σ H _ I h) fun us s1 ⟨vs, H1, I1, r1, q1⟩ => ?_) hs hpl))
  obtain ⟨k1, k2, a, b, xs, ys, ex, qx, qy, q⟩ := q1
  subst ex
  obtain ⟨u, v, rfl, ru, rv⟩ := Vals.two r1
  cases ru
  cases rv
  obtain ⟨i1, _, p1, lt1⟩ := sqk_is I1 qx
  obtain ⟨i2, _, p2, lt2⟩ := sqk_is I1 qy
  obtain ⟨o1, G1, B1, g1, w1⟩ := begK p1
  obtain ⟨o2, G2, B2, g2, w2⟩ := begK p2
  refine zip_begins2 B1 B2 g1 g2 fun h' hz hI hO e1 e2 hsz hk => wpAny_pyIter_zip hz ?_
  have I2 : Inv X pins σ H1 { s1 with heap := h' } := I1.kept (t' := s1.toks) hk
  refine ⟨s1.heap.objs.size + 4, [s1.heap.objs.size + 4, s1.heap.objs.size + 2, s1.heap.objs.size + 3, s1.heap.objs.size, s1.heap.objs.size + 1], _, _, H1, rfl, I2, turn_zipM (PySem.W.ktu_apart s1.heap.objs.size a b lt1 lt2), ⟨hz, hI, ⟨_, _, hO⟩, w1 _ _ e1, w2 _ _ e2⟩, fun c hcm => ?_, q⟩
  have hle : s1.heap.objs.size ≤ c := five (Pr := fun c => s1.heap.objs.size ≤ c) hcm (Nat.le_add_right _ _) (Nat.le_add_right _ _) (Nat.le_add_right _ _) (Nat.le_refl _) (Nat.le_add_right _ _)
  exact I1.fpOk hle (I1.hok.fresh hle)
end Z
set_option Elab.async false
set_option linter.all false
set_option maxRecDepth 100000
set_option maxHeartbeats 4000000
namespace Z
open PySem PySem.Spec PyProof.Rows L2
/-! ### (v,) * k for 0 ≤ k -/
theorem tmul0 (l : Addr) (v : Value) (n : Nat) (dd : Option Addr) (sl : Array (Option Value)) (u : Tok) :
    Meets (Builtin.«tuple.__mul__» ⟨[.ref l, .int 0 u], []⟩) (fun _ R s => s.heap.get? l = some { cls := .type "tuple", dict := dd, data := .seq #[v] n, slots := sl } ∧
      R (.ok (.ret (Value.ref s.heap.objs.size))) { s with heap := s.heap.push { cls := Value.type "tuple", data := Data.seq #[] }, toks := s.toks }) :=
  .of_wp fun prog w A R s h => by
    obtain ⟨hp, g, d, tk, os⟩ := s
    obtain ⟨hl, h⟩ := h
    have f1 := AutoSeq1.idx_int
    wp_walk using AutoSeq1.wpAny_loadPart' hl
    exact ⟨_, rfl, h⟩
theorem tmul1 (l : Addr) (items : Array Value) (n : Nat) (dd : Option Addr) (sl : Array (Option Value)) (u : Tok) :
    Meets (Builtin.«tuple.__mul__» ⟨[.ref l, .int 1 u], []⟩) (fun _ R s => s.heap.get? l = some { cls := .type "tuple", dict := dd, data := .seq items n, slots := sl } ∧ R (.ok (.ret (Value.ref l))) s) :=
  .of_wp fun prog w A R s h => by
    obtain ⟨hp, g, d, tk, os⟩ := s
    obtain ⟨hl, h⟩ := h
    have f1 := AutoSeq1.idx_int
    wp_walk using AutoSeq1.wpAny_loadPart' hl
    exact ⟨_, rfl, h⟩
theorem same_new {H : Hp} {p : Addr} {o : HO} (h : H p = none) : Same H (upd H p o) := fun b x e => by
  rw [upd_ne (ne_of_none e h)]
  exact e
def rRepU : R2 := fun x y H Q => ∃ l k v, x = .ref l ∧ y = .int k ∧ H l = some (.tup [v]) ∧ 0 ≤ k ∧ k ≤ 1000 ∧ ∀ p H', Same H H' → H' p = some (.tup (List.replicate k.toNat v)) → Q (.ref p) H'
theorem op_repU {X : Cx} : OpR X (binaryOp .Mult) rRepU := by
  intro pins s σ H x y vv uu Q I rx ry h
  obtain ⟨l, k, v, rfl, rfl, hT, h0, h1, q⟩ := id h
  by_cases k2 : 2 ≤ k
  · refine op_repT pins s σ H _ _ vv uu Q I rx ry ⟨l, k, [v], rfl, rfl, .inl (.inl hT), by simp, k2, h1, by simp, fun p np => q p _ (same_new np) ?_⟩
    rw [upd_same]
    congr 2
    generalize k.toNat = m
    induction m with
    | zero => rfl
    | succ m ih => rw [List.replicate_succ, List.flatten_cons, ih, List.replicate_succ]; rfl
  · cases rx
    obtain ⟨t, rfl⟩ := ry
    obtain ⟨its, r, ⟨⟨cls, dd, data, sl⟩, ho, hc, n, hd⟩, hs⟩ := I.tuple (.inl (.inl hT) : SqT X.K H l [v])
    simp only at hc hd
    subst hc hd
    obtain ⟨u, rfl, ru⟩ := Vals.one r
    by_cases k1 : k = 1
    · subst k1
      refine wpAny_binaryOp_repeat_ref (T := "tuple") (U := "int") (by decide) ⟨_, ho, rfl⟩ (fun s' => typeIs_int s' 1 t) noFill_tuple_mul F.fills_int_mul F.slot_int_rmul repeat_tuple F.slot_int_index.lookup
        (call_meets F.slot_int_rmul (typeIs_int s 1 t) F.entry_int_rmul (F.args_int_rmul_2 _ _) (int_rmul_tuple 1 t l [u].toArray n dd sl)
          ⟨ho, rfl, ⟨_, ho, rfl⟩, call_meets F.slot_tuple_mul ⟨_, ho, rfl⟩ F.entry_tuple_mul (F.args_tuple_mul_2 _ _) (tmul1 l [u].toArray n dd sl t) ⟨ho, ?_⟩⟩)
      exact ⟨.ref l, H, I, rfl, q l H (Same.refl H) hT⟩
    · have k0 : k = 0 := by omega
      subst k0
      refine wpAny_binaryOp_repeat_ref (T := "tuple") (U := "int") (by decide) ⟨_, ho, rfl⟩ (fun s' => typeIs_int s' 0 t) noFill_tuple_mul F.fills_int_mul F.slot_int_rmul repeat_tuple F.slot_int_index.lookup
        (call_meets F.slot_int_rmul (typeIs_int s 0 t) F.entry_int_rmul (F.args_int_rmul_2 _ _) (int_rmul_tuple 0 t l [u].toArray n dd sl)
          ⟨ho, rfl, ⟨_, ho, rfl⟩, call_meets F.slot_tuple_mul ⟨_, ho, rfl⟩ F.entry_tuple_mul (F.args_tuple_mul_2 _ _) (tmul0 l u n dd sl t) ⟨ho, ?_⟩⟩)
      refine ⟨.ref s.heap.objs.size, _, I.laid (t' := s.toks) (o := .tup []) (fun b ob z => Heap.get?_push_of_some _ z) (Nat.le_refl _) ?_, rfl, q _ _ (same_new (I.hok.fresh (Nat.le_refl _))) upd_same⟩
      exact ⟨Nat.zero_le _, [], .nil, IsTup.new _ _⟩
/-! ### loops and comprehensions over any iterator -/
def forW (J : It) (g : TG) (tb : TS) (D : Ends) (σ : L2.St) (H : Hp) : Prop := ∃ W : Nat → Nat → L2.St → Hp → Prop, (∃ m, W 0 m σ H) ∧ ∀ i m σ H, W i m σ H →
  (J.stop i H ∧ D.nx σ H) ∨ (J.go i H ∧ ∃ N : L2.St → Hp → Prop, (∀ σ' H', N σ' H' → ∃ m', m' < m ∧ W (i + 1) m' σ' H') ∧ ∀ x H', J.yld i H x H' → g x σ H' fun σ2 H2 => tb { D with nx := N, ct := N, bk := D.nx } σ2 H2)
theorem for_gen {J : It} {n : Nat} {g : TG} {tb : TS} {D : Ends} {σ : L2.St} {H : Hp} (Pv : Nat → L2.St → Hp → Prop) (h0 : Pv 0 σ H) (hgo : ∀ i σ H, i < n → Pv i σ H → J.go i H) (hst : ∀ σ H, Pv n σ H → J.stop n H)
    (hs : ∀ i σ H x H', i < n → Pv i σ H → J.yld i H x H' → g x σ H' fun σ2 H2 => tb { D with nx := Pv (i + 1), ct := Pv (i + 1), bk := D.nx } σ2 H2) (hd : ∀ σ H, Pv n σ H → D.nx σ H) : forW J g tb D σ H := by
  refine ⟨fun i m σ H => m = n - i ∧ i ≤ n ∧ Pv i σ H, ⟨n, by omega, Nat.zero_le _, h0⟩, fun i m σ H w => ?_⟩
  obtain ⟨rfl, hi, p⟩ := w
  by_cases hlt : i < n
  · exact .inr ⟨hgo i σ H hlt p, Pv (i + 1), fun σ' H' z => ⟨n - (i + 1), by omega, rfl, hlt, z⟩, fun x H' y => hs i σ H x H' hlt p y⟩
  · have e : i = n := by omega
    subst e
    exact .inl ⟨hst σ H p, hd σ H p⟩
def lcW (J : It) (g : TG) (tt : TT) (te : TE) (vs : List Nat) (σ : L2.St) (D : Addr) (Qd : Hp → Prop) (H1 : Hp) : Prop := ∃ W : Nat → Nat → Hp → Prop, (∃ m, W 0 m (upd H1 D (.lst []))) ∧ ∀ i m H, W i m H →
  (J.stop i H ∧ Qd H) ∨ (J.go i H ∧ ∃ Nx : Hp → Prop, (∀ H', Nx H' → ∃ m', m' < m ∧ W (i + 1) m' H') ∧ ∀ x H', J.yld i H x H' → g x (wipe σ vs) H' fun σ2 H2 => wipe σ2 vs = wipe σ vs ∧ tt σ2 H2 fun b H3 =>
    if b = true then te σ2 H3 fun y H4 => ∃ acc, H4 D = some (.lst acc) ∧ acc.length < sizeLine ∧ Nx (upd H4 D (.lst (acc ++ [y]))) else Nx H3)
theorem lc_gen {J : It} {n : Nat} {g : TG} {tt : TT} {te : TE} {vs : List Nat} {σ : L2.St} {H1 : Hp} {D : Addr} {Qd : Hp → Prop} (Pv : Nat → Hp → Prop) (h0 : Pv 0 (upd H1 D (.lst []))) (hgo : ∀ i H, i < n → Pv i H → J.go i H) (hst : ∀ H, Pv n H → J.stop n H)
    (hs : ∀ i H x H', i < n → Pv i H → J.yld i H x H' → g x (wipe σ vs) H' fun σ2 H2 => wipe σ2 vs = wipe σ vs ∧ tt σ2 H2 fun b H3 =>
      if b = true then te σ2 H3 fun y H4 => ∃ acc, H4 D = some (.lst acc) ∧ acc.length < sizeLine ∧ Pv (i + 1) (upd H4 D (.lst (acc ++ [y]))) else Pv (i + 1) H3) (hd : ∀ H, Pv n H → Qd H) : lcW J g tt te vs σ D Qd H1 := by
  refine ⟨fun i m H => m = n - i ∧ i ≤ n ∧ Pv i H, ⟨n, by omega, Nat.zero_le _, h0⟩, fun i m H w => ?_⟩
  obtain ⟨rfl, hi, p⟩ := w
  by_cases hlt : i < n
  · exact .inr ⟨hgo i H hlt p, Pv (i + 1), fun H' z => ⟨n - (i + 1), by omega, rfl, hlt, z⟩, fun x H' y => hs i H x H' hlt p y⟩
  · have e : i = n := by omega
    subst e
    exact .inl ⟨hst H p, hd H p⟩
/-! ### a def of the module that may be called by its name -/
structure Cal (P : Program) (w : World) (K : PySem.W.Frag) (mg : Str → Option Value) (base : Heap) (k : Nat) (x : Str) (sp : Sp) : Prop where
  ex : ∃ (f : Addr) (fd : FuncData) (ps : List Str), FnOk P w K mg base CX0 k f fd ps sp ∧ mg x = some (.ref f) ∧ PySem.W.keepIn K (.ref f) = true ∧ Binds K fd ps []
section
variable {X : Cx} {k j : Nat} {x : Str} {sp : Sp} {p pos : Pos} {e : Expr} {es : List Expr} {t : TA}
theorem pe_cl (c : Cal X.prog X.w X.K X.mg X.base k x sp) (hr : Room j X.A) (hk : k ≤ j) (hg : Gl X x) (ha : PA X (e :: es) t)
    (hdb : (x == ("__debug__" : Str)) = false := by decide) (he : starEach (e :: es) X.env = (false, eval e X.env) :: starEach es X.env := by rfl) (hpl : (backTo pos (starEach es X.env)).any (·.1) = false := by rfl) : PE X (.Call (.Name x p) (e :: es) [] pos) (tCall sp [] E0 t) := by
  obtain ⟨f, fd, ps, F, hm, kp, b⟩ := c.ex
  exact pe_call F (hr.mono hk) hg hm kp b .nil pass0 ha hdb he hpl
end
structure CalK (P : Program) (w : World) (K : PySem.W.Frag) (mg : Str → Option Value) (base : Heap) (k : Nat) (x : Str) (n : Nat) (ks : List Str) (gV : List V → List V → List V) (sp : Sp) : Prop where
  ex : ∃ (f : Addr) (fd : FuncData) (ps : List Str) (g : List Value → List Value → List Value), FnOk P w K mg base CX0 k f fd ps sp ∧ mg x = some (.ref f) ∧ PySem.W.keepIn K (.ref f) = true ∧ KBn K fd ps n ks g gV
section
variable {X : Cx} {k j n : Nat} {x : Str} {sp : Sp} {ks : List Str} {gV : List V → List V → List V} {p pos : Pos} {e : Expr} {es : List Expr} {kws : List Keyword} {t tk : TA}
theorem pe_clK (c : CalK X.prog X.w X.K X.mg X.base k x n ks gV sp) (hr : Room j X.A) (hk : k ≤ j) (hg : Gl X x) (ha : PA X (e :: es) t) (hkw : PK X kws tk)
    (hall : (backToKw pos (keywordEach kws X.env)).all (·.1.isSome) = true := by rfl) (hks : (backToKw pos (keywordEach kws X.env)).filterMap (·.1) = ks := by rfl) (hdb : (x == ("__debug__" : Str)) = false := by decide)
    (he : starEach (e :: es) X.env = (false, eval e X.env) :: starEach es X.env := by rfl) (hpl : ((backTo pos (starEach (e :: es) X.env)).any (·.1) || (backToKw pos (keywordEach kws X.env)).any (·.1.isNone)) = false := by rfl) :
    PE X (.Call (.Name x p) (e :: es) kws pos) (tCallN n ks.length sp gV E0 t tk) := by
  obtain ⟨f, fd, ps, g, F, hm, kp, b⟩ := c.ex
  exact pe_callN F (hr.mono hk) hg hm kp b pass0 ha hkw hall hks hdb he hpl
end
/-! ### heaps -/
/-- all but p stands -/
def SB (p : Addr) (H H' : Hp) : Prop := ∀ b o, b ≠ p → H b = some o → H' b = some o
theorem Same.sb {p : Addr} {H H' : Hp} (s : Same H H') : SB p H H' := fun b o _ h => s b o h
theorem SB.trans {p : Addr} {H H1 H2 : Hp} (a : SB p H H1) (b : SB p H1 H2) : SB p H H2 := fun c o n h => b c o n (a c o n h)
theorem SB.upd {p : Addr} {H H' : Hp} {o : HO} (s : SB p H H') : SB p H (upd H' p o) := fun b u n h => by
  rw [upd_ne n]
  exact s b u n h
theorem SB.same {p : Addr} {H H' : Hp} (s : SB p H H') (n : H p = none) : Same H H' := fun b o h => s b o (ne_of_none h n) h
theorem Same.mut {p : Addr} {H H' : Hp} {o : HO} (s : Same H H') (n : H p = none) : Same H (L2.upd H' p o) := fun b u h => by
  rw [upd_ne (ne_of_none h n)]
  exact s b u h
theorem SB.sq {K : PySem.W.Frag} {p a : Addr} {H H' : Hp} {xs : List V} (s : SB p H H') (n : a ≠ p) (h : SqL K H a xs) : SqL K H' a xs := by
  rcases h with (h | ⟨o, h⟩) | h
  · exact .inl (.inl (s _ _ n h))
  · exact .inl (.inr ⟨o, s _ _ n h⟩)
  · exact .inr h
theorem Same.sqT {K : PySem.W.Frag} {a : Addr} {H H' : Hp} {xs : List V} (s : Same H H') (h : SqT K H a xs) : SqT K H' a xs := by
  rcases h with (h | ⟨o, h⟩) | h
  · exact .inl (.inl (s _ _ h))
  · exact .inl (.inr ⟨o, s _ _ h⟩)
  · exact .inr h
theorem Same.sqK {b : Bool} {K : PySem.W.Frag} {a : Addr} {H H' : Hp} {xs : List V} (s : Same H H') (h : SqK b K H a xs) : SqK b K H' a xs := by
  cases b
  · exact Z.Same.sqT s h
  · exact s.seq h
theorem at_map {α : Type} {f : α → V} {xs : List α} {i : Nat} {x : α} (h : xs[i]? = some x) : atI (xs.map f) (i : Int) = some (f x) := atI_nat (by rw [List.getElem?_map, h]; rfl)
theorem of_map {α : Type} {f : α → V} {xs : List α} {i : Nat} {v : V} (h : (xs.map f)[i]? = some v) : ∃ x, xs[i]? = some x ∧ v = f x := by
  rw [List.getElem?_map] at h
  cases e : xs[i]? with
  | none => rw [e] at h; cases h
  | some x => rw [e] at h; exact ⟨x, rfl, (Option.some.inj h).symm⟩
end Z
set_option Elab.async false
set_option linter.all false
set_option maxRecDepth 100000
set_option maxHeartbeats 4000000
namespace Z
open PySem PySem.Spec PyProof.Rows L2
open C8 (pss_cut tCut)
local macro_rules | `(tactic| walk_at "num") => `(tactic| first | omega | decide | exact ⟨by omega, by omega⟩ | exact ⟨by omega, by omega, by omega⟩ | exact ⟨by decide, by decide, by decide⟩ | exact Or.inl ⟨by omega, by omega⟩ | exact Or.inr ⟨by omega, by omega⟩)
local macro_rules | `(tactic| walk_at "go") => `(tactic| repeat (first | refine ⟨_, rfl, ?_⟩ | refine ⟨_, _, rfl, rfl, ?_⟩ | refine ⟨_, _, rfl, rfl, (by walk_at "num"), ?_⟩ | refine Or.inl ⟨_, rfl, ?_⟩ | refine ⟨rfl, ?_⟩ | refine And.intro (by walk_at "num") ?_))
def topS (i : Nat) : Stmt := PySem.Challenge.pw_signedpacts_k21_whole_need_algebra.main.body.getD i (.Pass ⟨0, 0, 0, 0⟩)
abbrev s_cell : Stmt := topS 21
abbrev N_cell : List Str := ["_law_script", "_law_k"]
abbrev P_cell : List Str := ["_law_script", "_law_k"]
theorem sc_cell : FnScope N_cell P_cell (defScope s_cell) := ⟨rfl, rfl, rfl, by decide +kernel, rfl, by decide +kernel, by decide +kernel⟩
abbrev s_draws : Stmt := topS 22
abbrev N_draws : List Str := ["_law_cell_here", "_law_many", "_law_rest", "_law_large", "_law_seed", "_law_found", "_law_k"]
abbrev P_draws : List Str := ["_law_cell_here", "_law_many"]
theorem sc_draws : FnScope N_draws P_draws (defScope s_draws) := ⟨rfl, rfl, rfl, by decide +kernel, rfl, by decide +kernel, by decide +kernel⟩
abbrev s_take : Stmt := topS 23
abbrev N_take : List Str := ["_law_draws_here", "_law_place"]
abbrev P_take : List Str := ["_law_draws_here", "_law_place"]
theorem sc_take : FnScope N_take P_take (defScope s_take) := ⟨rfl, rfl, rfl, by decide +kernel, rfl, by decide +kernel, by decide +kernel⟩
abbrev FnP (K : PySem.W.Frag) (x : Str) (st : Stmt) (f : Addr) (fd : FuncData) : Prop := FunD K x x (defArgs st) (defBody st) (defScope st) [] [] f fd
section
variable {P : Program} {w : World} {K : PySem.W.Frag} {mg : Str → Option Value} {base : Heap} {f : Addr} {fd : FuncData}
theorem cal_of {k : Nat} {x : Str} {st : Stmt} {ps : List Str} {sp : Sp} (F : FnP K x st f fd) (g : mg x = some (.ref f)) (b : Binds K fd ps []) (h : FnOk P w K mg base CX0 k f fd ps sp) : Cal P w K mg base k x sp := ⟨f, fd, ps, h, g, F.kp, b⟩
/-! ### _law_cell -/
def spCell (K : PySem.W.Frag) : Sp := fun vs H Q _ => ∃ (a : Addr) (ns : List Int) (k : Nat), vs = [.ref a, .int (k : Int)] ∧ SqL K H a (ns.map V.int) ∧ Q (.int (ns.getD k 0)) H
theorem ok_cell (F : FnP K "_law_cell" s_cell f fd) (m_len : mg "len" = none) (m_int : mg "int" = none) : FnOk P w K mg base CX0 1 f fd P_cell (spCell K) := by
  refine F.ok sc_cell (fun vs H Q E h => ?_) (fun cdv A outer s H vs Q E hr h => ?_)
  · obtain ⟨a, ns, k, rfl, _⟩ := h
    rfl
  · obtain ⟨a, ns, k, rfl, hS, q⟩ := h
    refine ⟨_, PSs.nox (pss_cons (ps_if (pt_cmpR op_lt (pv 1) (pe_callB call_len_seq (by rfl) m_len PySem.boot_len (pa_cons (pv 0) pa_nil)) (nomark _)) (pss_one (ps_ret (pe_callTy call_int1 (by rfl) m_int (by decide +kernel) (pa_cons (pe_ix ix_list (pv 0) (pv 1) (fun _ _ => rfl)) pa_nil)))) pss_nil)
      (pss_one (ps_ret pe_int))), ?_⟩
    walk_at "go"
    refine ⟨a, _, rfl, .inl hS, ?_⟩
    walk_at "go"
    rw [List.length_map]
    refine ite2 (fun e => ?_) (fun e => ?_)
    · have hk : k < ns.length := by have := of_decide_eq_true e; omega
      walk_at "go"
      refine ⟨a, _, _, _, rfl, rfl, hS, at_map (List.getElem?_eq_getElem hk), ?_⟩
      walk_at "go"
      rw [List.getD_eq_getElem?_getD, List.getElem?_eq_getElem hk] at q
      exact q
    · have hk : ¬ k < ns.length := fun z => e (decide_eq_true (by omega))
      rw [List.getD_eq_getElem?_getD, List.getElem?_eq_none (by omega)] at q
      exact q
/-! ### _law_draws -/
def Dr (n : Nat) (ds : List Int) : Prop := ds.length = n ∧ ∀ d ∈ ds, 0 ≤ d ∧ d < 1000000
def spDraws : Sp := fun vs H Q _ => ∃ (c : Int) (n : Nat), vs = [.int c, .int (n : Int)] ∧ n ≤ 100000 ∧ ∀ p ds, H p = none → Dr n ds → Q (.ref p) (upd H p (.lst (ds.map V.int)))
theorem ok_draws (F : FnP K "_law_draws" s_draws f fd) (m_int : mg "int" = none) (m_abs : mg "abs" = none) (m_range : mg "range" = none) : FnOk P w K mg base CX0 1 f fd P_draws spDraws := by
  refine F.ok sc_draws (fun vs H Q E h => ?_) (fun cdv A outer s H vs Q E hr h => ?_)
  · obtain ⟨c, n, rfl, _⟩ := h
    rfl
  · obtain ⟨c, n, rfl, hn, q⟩ := h
    refine ⟨_, PSs.nox (pss_cons (ps_set (i := 2) sc_draws.nd rfl (by first | exact .inl rfl | exact .inr rfl) (pe_callB call_abs (by rfl) m_abs (by decide +kernel) (pa_cons (pe_callTy call_int1 (by rfl) m_int (by decide +kernel) (pa_cons (pv 0) pa_nil)) pa_nil)))
      (pss_cons (ps_set (i := 3) sc_draws.nd rfl (by first | exact .inl rfl | exact .inr rfl) (pe_cmpR op_ge (pv 2) (pe_op op_pow pe_int pe_int) (nomark _)))
      (pss_cons (ps_set (i := 4) sc_draws.nd rfl (by first | exact .inl rfl | exact .inr rfl) (pe_op op_mod (pe_callTy call_int1 (by rfl) m_int (by decide +kernel) (pa_cons (pv 2) pa_nil)) pe_int))
      (pss_cons (ps_set (i := 5) sc_draws.nd rfl (by first | exact .inl rfl | exact .inr rfl) (pe_lst pa_nil))
      (pss_cons (ps_for PassesOwn.never rfl (pi_range1 (by rfl) m_range (pa_cons (pv 1) pa_nil)) (pg_name (i := 6) sc_draws.nd rfl (by first | exact .inl rfl | exact .inr rfl))
        (pss_cons (ps_set (i := 4) sc_draws.nd rfl (by first | exact .inl rfl | exact .inr rfl) (pe_op op_mod (pe_callTy call_int1 (by rfl) m_int (by decide +kernel) (pa_cons (pe_op op_add (pe_op op_add (pe_op op_mul (pv 4) pe_int) (pe_op op_mul pe_int (pv 6))) pe_int) pa_nil)) pe_int))
      (pss_one (ps_if (PW.pt (pw_and (pt_val (pv 3)) (pw_and1 (pt_cmpR op_gt (pv 2) pe_int (nomark _))))) (pss_cons (ps_expr (pe_bm PySem.F.plainAttrs_list PySem.F.slot_list_append PySem.F.type_list_append mt_append (pv 5) (pa_cons (pe_op op_mod (pe_callTy call_int1 (by rfl) m_int (by decide +kernel) (pa_cons (pv 2) pa_nil)) pe_int) pa_nil)))
      (pss_one (ps_set (i := 2) sc_draws.nd rfl (by first | exact .inl rfl | exact .inr rfl) (pe_op op_fdiv (pv 2) pe_int)))) (pss_one (ps_expr (pe_bm PySem.F.plainAttrs_list PySem.F.slot_list_append PySem.F.type_list_append mt_append (pv 5) (pa_cons (pe_op op_mod (pe_callTy call_int1 (by rfl) m_int (by decide +kernel) (pa_cons (pe_op op_fdiv (pe_op op_mod (pe_callTy call_int1 (by rfl) m_int (by decide +kernel) (pa_cons (pe_op op_add (pe_op op_mul (pv 4) pe_int) (pe_op op_mul pe_int (pv 6))) pa_nil)) pe_int) pe_int) pa_nil)) pe_int) pa_nil))))))))
      (pss_one (ps_ret (pv 5)))))))), ?_⟩
    walk_at "go"
    intro p np
    walk_at "go"
    refine for_gen (n := n) (fun i σ H1 => ∃ (r : Int) (z : Int) (ds : List Int) (v : Option V), 0 ≤ r ∧ 0 ≤ z ∧ z < 2147483647 ∧ Dr i ds ∧ H1 = upd H p (.lst (ds.map V.int)) ∧
      σ = [some (.int c), some (.int (n : Int)), some (.int r), some (.bl (decide ((10 : Int) ^ 18 ≤ (if c < 0 then -c else c)))), some (.int z), some (.ref p), v]) ?_ ?_ ?_ ?_ ?_
    · refine ⟨_, _, [], none, ?_, ?_, ?_, ⟨rfl, fun d hd => nomatch hd⟩, rfl, rfl⟩
      · split <;> omega
      · omega
      · omega
    · intro i σ H1 hi _
      show i < (n : Int).toNat
      omega
    · intro σ H1 _
      show (n : Int).toNat ≤ n
      omega
    · rintro i σ H1 x H' hi ⟨r, z, ds, v, hr0, hz0, hz1, hd, rfl, rfl⟩ ⟨rfl, rfl⟩
      have hlen : (ds.map V.int).length < sizeLine := by
        rw [List.length_map, hd.1]
        exact Nat.lt_of_lt_of_le hi (Nat.le_trans hn (by decide))
      have fin : ∀ (r' z' d : Int) (u : Option V), 0 ≤ r' → 0 ≤ z' → z' < 2147483647 → 0 ≤ d → d < 1000000 → ∃ (r : Int) (z : Int) (es : List Int) (v : Option V), 0 ≤ r ∧ 0 ≤ z ∧ z < 2147483647 ∧ Dr (i + 1) es ∧ upd (upd H p (.lst (ds.map V.int))) p (.lst (ds.map V.int ++ [.int d])) = upd H p (.lst (es.map V.int)) ∧
          [some (.int c), some (.int (n : Int)), some (.int r'), some (.bl (decide ((10 : Int) ^ 18 ≤ (if c < 0 then -c else c)))), some (.int z'), some (.ref p), u] = [some (.int c), some (.int (n : Int)), some (.int r), some (.bl (decide ((10 : Int) ^ 18 ≤ (if c < 0 then -c else c)))), some (.int z), some (.ref p), v] := by
        intro r' z' d u a1 a2 a3 a4 a5
        refine ⟨r', z', ds ++ [d], u, a1, a2, a3, ⟨by rw [List.length_append, hd.1]; rfl, fun x hx => ?_⟩, ?_, rfl⟩
        · rcases List.mem_append.mp hx with h | h
          · exact hd.2 x h
          · rw [List.mem_singleton.mp h]
            exact ⟨a4, a5⟩
        · rw [upd_upd, List.map_append]
          rfl
      walk_at "go"
      refine ite2 (fun e => ?_) (fun e => ?_)
      · walk_at "go"
        refine ite2 (fun e2 => ?_) (fun e2 => ?_)
        · walk_at "go"
          refine ⟨.inl ⟨rfl, _, .inl (.inl upd_same)⟩, ?_⟩
          walk_at "go"
          refine ⟨_, _, _, rfl, rfl, upd_same, hlen, ?_⟩
          walk_at "go"
          exact fin _ _ _ _ (by omega) (by omega) (by omega) (by omega) (by omega)
        · walk_at "go"
          refine ⟨.inl ⟨rfl, _, .inl (.inl upd_same)⟩, ?_⟩
          walk_at "go"
          refine ⟨_, _, _, rfl, rfl, upd_same, hlen, ?_⟩
          walk_at "go"
          exact fin _ _ _ _ (by omega) (by omega) (by omega) (by omega) (by omega)
      · walk_at "go"
        refine ⟨.inl ⟨rfl, _, .inl (.inl upd_same)⟩, ?_⟩
        walk_at "go"
        refine ⟨_, _, _, rfl, rfl, upd_same, hlen, ?_⟩
        walk_at "go"
        exact fin _ _ _ _ (by omega) (by omega) (by omega) (by omega) (by omega)
    · rintro σ H1 ⟨r, z, ds, v, hr0, hz0, hz1, hd, rfl, rfl⟩
      walk_at "go"
      exact q p ds np hd
/-! ### _law_take -/
def spTake (K : PySem.W.Frag) : Sp := fun vs H Q _ => ∃ (a p : Addr) (n m : Nat) (ds : List Int), vs = [.ref a, .ref p] ∧ SqL K H a (ds.map V.int) ∧ Dr n ds ∧ H p = some (.lst [.int (m : Int)]) ∧ a ≠ p ∧ ∀ r : Int, 0 ≤ r → r < 1000000 → Q (.int r) (upd H p (.lst [.int ((m + 1 : Nat) : Int)]))
theorem ok_take (F : FnP K "_law_take" s_take f fd) (m_len : mg "len" = none) : FnOk P w K mg base CX0 1 f fd P_take (spTake K) := by
  refine F.ok sc_take (fun vs H Q E h => ?_) (fun cdv A outer s H vs Q E hr h => ?_)
  · obtain ⟨a, p, n, m, ds, rfl, _⟩ := h
    rfl
  · obtain ⟨a, p, n, m, ds, rfl, hS, hd, hp, ne, q⟩ := h
    refine ⟨_, PSs.nox (pss_cons (ps_asg (pe_op op_add (pe_ix ix_list (pv 1) pe_int (fun _ _ => rfl)) pe_int) (pg_sub (pv 1) pe_int set_list))
      (pss_cons (ps_if (pt_cmpR op_gt (pe_ix ix_list (pv 1) pe_int (fun _ _ => rfl)) (pe_callB call_len_seq (by rfl) m_len PySem.boot_len (pa_cons (pv 0) pa_nil)) (nomark _)) (pss_one (ps_ret pe_int)) pss_nil)
      (pss_one (ps_ret (pe_ix ix_list (pv 0) (pe_op op_sub (pe_ix ix_list (pv 1) pe_int (fun _ _ => rfl)) pe_int) (fun _ _ => rfl)))))), ?_⟩
    have sb : SB p H (upd H p (.lst [.int ((m + 1 : Nat) : Int)])) := SB.upd (Z.Same.sb (Same.refl H))
    have hS' := sb.sq ne hS
    walk_at "go"
    refine ⟨p, _, 0, _, rfl, rfl, SqL.of hp, rfl, ?_⟩
    walk_at "go"
    refine ⟨p, _, 0, 0, rfl, rfl, hp, rfl, ?_⟩
    show tSeq _ _ _ _ (upd H p (.lst [.int ((m : Int) + 1)]))
    rw [show ((m : Int) + 1) = ((m + 1 : Nat) : Int) by omega]
    walk_at "go"
    refine ⟨p, _, 0, _, rfl, rfl, SqL.of upd_same, rfl, ?_⟩
    walk_at "go"
    refine ⟨a, _, rfl, .inl hS', ?_⟩
    walk_at "go"
    rw [List.length_map]
    refine ite2 (fun e => ?_) (fun e => ?_)
    · exact q 0 (by omega) (by omega)
    · have hk : m < ds.length := by
        apply Decidable.byContradiction
        intro z
        exact e (decide_eq_true (by omega))
      walk_at "go"
      refine ⟨p, _, 0, _, rfl, rfl, SqL.of upd_same, rfl, ?_⟩
      walk_at "go"
      refine ⟨a, _, _, _, rfl, rfl, hS', at_of (by omega) (show (ds.map V.int)[m]? = some (.int ds[m]) by rw [List.getElem?_map, List.getElem?_eq_getElem hk]; rfl), ?_⟩
      have h1 := hd.2 ds[m] (List.getElem_mem hk)
      exact q _ h1.1 h1.2
end
end Z
set_option Elab.async false
set_option linter.all false
set_option maxRecDepth 100000
set_option maxHeartbeats 4000000
namespace Z
open PySem PySem.Spec PyProof.Rows L2
/-! ### data -/
def sqD (b : Bool) (ds : List PyData) : PyData := match b with
  | true => .list ds
  | false => .tuple ds
def intsD (b : Bool) (ns : List Int) : PyData := sqD b (ns.map PyData.int)
def matD (b : Bool) (rs : List (List Int)) : PyData := sqD b (rs.map (intsD b))
theorem dp_sq {b : Bool} {K : PySem.W.Frag} {H : Hp} {a : Addr} {xs : List V} {ds : List PyData} (h : SqK b K H a xs) (d : DpAll K H xs ds) : Dp K H (.ref a) (sqD b ds) := by
  cases b
  · exact .tup h d
  · exact .lst h d
theorem dpa_ints {K : PySem.W.Frag} {H : Hp} : ∀ ns : List Int, DpAll K H (ns.map V.int) (ns.map PyData.int)
  | [] => .nil
  | n :: r => .cons (.int n) (dpa_ints r)
theorem dp_ints {b : Bool} {K : PySem.W.Frag} {H : Hp} {a : Addr} {ns : List Int} (h : SqK b K H a (ns.map V.int)) : Dp K H (.ref a) (intsD b ns) := dp_sq h (dpa_ints ns)
/-- a matrix: a list (or tuple) of lists (or tuples) of ints, at ps -/
def Mat (b : Bool) (K : PySem.W.Frag) (H : Hp) (a : Addr) (ps : List Addr) (rs : List (List Int)) : Prop := SqK b K H a (ps.map V.ref) ∧ ps.length = rs.length ∧ ∀ (i : Nat) (p : Addr) (r : List Int), ps[i]? = some p → rs[i]? = some r → SqK b K H p (r.map V.int)
theorem Mat.mono {b : Bool} {K : PySem.W.Frag} {H H' : Hp} {a : Addr} {ps : List Addr} {rs : List (List Int)} (s : Same H H') (m : Mat b K H a ps rs) : Mat b K H' a ps rs := ⟨Z.Same.sqK s m.1, m.2.1, fun i p r h1 h2 => Z.Same.sqK s (m.2.2 i p r h1 h2)⟩
theorem dpa_mat {b : Bool} {K : PySem.W.Frag} {H : Hp} : ∀ (ps : List Addr) (rs : List (List Int)), ps.length = rs.length → (∀ (i : Nat) (p : Addr) (r : List Int), ps[i]? = some p → rs[i]? = some r → SqK b K H p (r.map V.int)) → DpAll K H (ps.map V.ref) (rs.map (intsD b))
  | [], [], _, _ => .nil
  | p :: ps, r :: rs, hl, h => .cons (dp_ints (h 0 p r rfl rfl)) (dpa_mat ps rs (by simpa using hl) fun i q s h1 h2 => h (i + 1) q s h1 h2)
theorem Mat.dp {b : Bool} {K : PySem.W.Frag} {H : Hp} {a : Addr} {ps : List Addr} {rs : List (List Int)} (m : Mat b K H a ps rs) : Dp K H (.ref a) (matD b rs) := dp_sq m.1 (dpa_mat ps rs m.2.1 m.2.2)
theorem lay_ints : ∀ ns : List Int, PyData.canLayAll0 (ns.map PyData.int) = true
  | [] => rfl
  | n :: r => by
    rw [List.map_cons, PyData.canLayAll0, lay_ints r]
    rfl
theorem dep_ints : ∀ ns : List Int, PyData.depthAll (ns.map PyData.int) = 0
  | [] => rfl
  | n :: r => by
    rw [List.map_cons, PyData.depthAll, dep_ints r]
    rfl
theorem shaped_ints (b : Bool) (ns : List Int) : SeqAt.shaped (intsD b ns) = true := by
  unfold SeqAt.shaped intsD
  cases b
  · show (PyData.canLayAll0 (ns.map PyData.int) && decide (PyData.depthAll (ns.map PyData.int) + 1 ≤ 64)) = true
    rw [lay_ints, dep_ints]
    rfl
  · show (PyData.canLayAll0 (ns.map PyData.int) && decide (PyData.depthAll (ns.map PyData.int) + 1 ≤ 64)) = true
    rw [lay_ints, dep_ints]
    rfl
theorem lay_mat (b : Bool) : ∀ rs : List (List Int), PyData.canLayAll0 (rs.map (intsD b)) = true
  | [] => rfl
  | n :: r => by
    rw [List.map_cons, PyData.canLayAll0, lay_mat b r, SeqAt.canLay_of_shaped (shaped_ints b n)]
    rfl
theorem dep_mat (b : Bool) : ∀ rs : List (List Int), PyData.depthAll (rs.map (intsD b)) ≤ 1
  | [] => Nat.zero_le _
  | n :: r => by
    rw [List.map_cons, PyData.depthAll]
    have h := dep_mat b r
    have h2 : (intsD b n).depth = 1 := by
      cases b
      · show PyData.depthAll (n.map PyData.int) + 1 = 1
        rw [dep_ints]
      · show PyData.depthAll (n.map PyData.int) + 1 = 1
        rw [dep_ints]
    omega
theorem shaped_mat (b : Bool) (rs : List (List Int)) : SeqAt.shaped (matD b rs) = true := by
  have h := dep_mat b rs
  unfold SeqAt.shaped matD
  cases b
  · show (PyData.canLayAll0 (rs.map (intsD false)) && decide (PyData.depthAll (rs.map (intsD false)) + 1 ≤ 64)) = true
    rw [lay_mat, decide_eq_true (by omega)]
    rfl
  · show (PyData.canLayAll0 (rs.map (intsD true)) && decide (PyData.depthAll (rs.map (intsD true)) + 1 ≤ 64)) = true
    rw [lay_mat, decide_eq_true (by omega)]
    rfl
theorem same2 {K : PySem.W.Frag} {H : Hp} {x y : V} {d : PyData} {R : PyData → PyData → Prop} (hx : Dp K H x d) (hy : Dp K H y d) (hs : SeqAt.shaped d = true) (q : R d d) : ∃ d' e', Dp K H x d' ∧ Dp K H y e' ∧ SeqAt.shaped d' = true ∧ SeqAt.shaped e' = true ∧ R d' e' := ⟨d, d, hx, hy, hs, hs, q⟩
theorem eqv_same {d : PyData} (hs : SeqAt.shaped d = true) : PyData.eqv d d = true := SeqAt.eqv_refl d (SeqAt.canLay_of_shaped hs)
/-! ### a target that is one of two kinds -/
def gOr (t u : TG) : TG := fun v σ H Q => t v σ H Q ∨ u v σ H Q
theorem pg_or {X : Cx} {e : Expr} {t u : TG} (h1 : PG X e t) (h2 : PG X e u) : PG X e (gOr t u) := by
  refine ⟨fun pins s σ H v uu Q I r hw => ?_⟩
  rcases hw with h | h
  · exact h1.run pins s σ H v uu Q I r h
  · exact h2.run pins s σ H v uu Q I r h
/-! ### isinstance of built-in kinds -/
theorem isi {K : PySem.W.Frag} {H : Hp} {x : V} {T c : String} {b : Bool} {R : Bool → Prop} (t : TyOf K H x (.type T)) (h : kitB T c = some b) (q : R b) : ∃ (x' c' : V) (t' u' : Value) (b' : Bool), [x, .ty c] = [x', c'] ∧ ClsV c' u' ∧ TyX K H x' t' ∧ PySem.W.kitOne K t' u' = some b' ∧ R b' :=
  ⟨x, .ty c, .type T, .type c, b, rfl, .ty c, .base t, kit_ty h, q⟩
/-! ### rules by the written part itself (within a comprehension's block) -/
section
variable {X : Cx} {K : PySem.W.Frag}
theorem ix_list_K (h : X.K = K) : IxR X (rIxL K) := by subst h; exact ix_list
theorem ix_tup_K (h : X.K = K) : IxR X (rIxT K) := by subst h; exact ix_tup
theorem ix_seq_K (h : X.K = K) : IxR X (rIx K) := by subst h; exact ix_seq
theorem call_len_seq_K (h : X.K = K) : CallR X (.builtin "len") (fun xs H Q => ∃ p ys, xs = [.ref p] ∧ (SqL K H p ys ∨ SqT K H p ys) ∧ Q (.int ys.length) H) := by subst h; exact call_len_seq
theorem call_list_of_K (h : X.K = K) : CallR X (.type "list") (fun xs H Q => ∃ p ys, xs = [.ref p] ∧ (SqL K H p ys ∨ SqT K H p ys) ∧ ∀ l, H l = none → Q (.ref l) (upd H l (.lst ys))) := by subst h; exact call_list_of
theorem call_tuple_of_K (h : X.K = K) : CallR X (.type "tuple") (fun xs H Q => ∃ p ys, xs = [.ref p] ∧ ((SqL K H p ys ∧ ∀ l, H l = none → Q (.ref l) (upd H l (.tup ys))) ∨ (SqT K H p ys ∧ Q (.ref p) H))) := by subst h; exact call_tuple_of
theorem op_in_seq_K (h : X.K = K) : OpR X (compareOp .In) (rIn K false) := by subst h; exact op_in_seq
theorem op_notIn_seq_K (h : X.K = K) : OpR X (compareOp .NotIn) (rIn K true) := by subst h; exact op_notIn_seq
theorem op_eqD_K (h : X.K = K) (hu : X.A.units + 64 < cLine) : OpR X (compareOp .Eq) (rEqD K) := by subst h; exact op_eqD hu
theorem op_neD_K (h : X.K = K) (hu : X.A.units + 64 < cLine) : OpR X (compareOp .NotEq) (rNeD K) := by subst h; exact op_neD hu
theorem call_isi_K (h : X.K = K) : CallR X (.builtin "isinstance") (rIsi K) := by subst h; exact call_isi
end
/-! ### great products -/
theorem big_mul {i j : Int} (hi : i.natAbs < 2 ^ 4000) (hj : j.natAbs < 2 ^ 4000) : CMulX i j := mulx_ok hi hj (by decide)
/-! ### sums of multiples of rows -/
def combN (rs : List (List Int)) (fs : List Int) (w : Nat) : Nat → List Int
  | 0 => List.replicate w 0
  | n + 1 => List.zipWith (fun a b => a + fs.getD n 0 * b) (combN rs fs w n) (rs.getD n [])
theorem combN_len {rs : List (List Int)} {fs : List Int} {w : Nat} (h : ∀ r ∈ rs, r.length = w) : ∀ n, n ≤ rs.length → (combN rs fs w n).length = w
  | 0, _ => List.length_replicate
  | n + 1, hn => by
    rw [combN, List.length_zipWith, combN_len h n (by omega), List.getD_eq_getElem?_getD, List.getElem?_eq_getElem (by omega), Option.getD_some, h _ (List.getElem_mem _)]
    omega
theorem combN_at {rs : List (List Int)} {fs : List Int} {w i c : Nat} (hi : i < rs.length) (hf : i < fs.length) (c1 : c < (combN rs fs w i).length) (c2 : c < rs[i].length) : (combN rs fs w (i + 1))[c]? = some ((combN rs fs w i)[c] + fs[i] * rs[i][c]) := by
  have g1 : fs.getD i 0 = fs[i] := by rw [List.getD_eq_getElem?_getD, List.getElem?_eq_getElem hf]; rfl
  have g2 : rs.getD i [] = rs[i] := by rw [List.getD_eq_getElem?_getD, List.getElem?_eq_getElem hi]; rfl
  rw [combN, List.getElem?_zipWith, g1, g2, List.getElem?_eq_getElem c1, List.getElem?_eq_getElem c2]
end Z
set_option Elab.async false
set_option linter.all false
set_option maxRecDepth 100000
set_option maxHeartbeats 4000000
namespace Z
open PySem PySem.Spec PyProof.Rows L2
/-! ### own classes: making, methods, calls of instances, == -/
structure Mak (P : Program) (w : World) (K : PySem.W.Frag) (mg : Str → Option Value) (base : Heap) (k : Nat) (x : Str) (sp : Sp) : Prop where
  ex : ∃ (C f : Addr) (fd : FuncData) (ps : List Str) (si : Sp), Mk K C f ∧ FnOk P w K mg base CX0 k f fd ps si ∧ mg x = some (.ref C) ∧ Binds K fd ps [] ∧
    ∀ vs H Q E, sp vs H Q E → ∀ n dx, H n = none → H dx = none → dx ≠ n → si (.ref n :: vs) (upd (upd H dx (.own n)) n (.ins C dx [])) (fun v H2 => v = .non ∧ Q (.ref n) H2) E
structure Met (P : Program) (w : World) (K : PySem.W.Frag) (mg : Str → Option Value) (base : Heap) (k : Nat) (C : Addr) (m : Str) (sp : Sp) : Prop where
  ex : ∃ (f : Addr) (fd : FuncData) (ps : List Str), Cls K C ∧ Meth K C m f ∧ FnOk P w K mg base CX0 k f fd ps sp ∧ Binds K fd ps []
section
variable {X : Cx} {k j : Nat} {x m : Str} {sp : Sp} {C : Addr} {p pos apos : Pos} {e o : Expr} {es : List Expr} {t : TA} {ta : TE}
theorem pe_mk (c : Mak X.prog X.w X.K X.mg X.base k x sp) (hr : Room j X.A) (hk : k + 1 ≤ j) (hg : Gl X x) (ha : PA X (e :: es) t)
    (hdb : (x == ("__debug__" : Str)) = false := by decide) (he : starEach (e :: es) X.env = (false, eval e X.env) :: starEach es X.env := by rfl) (hpl : (backTo pos (starEach es X.env)).any (·.1) = false := by rfl) : PE X (.Call (.Name x p) (e :: es) [] pos) (tCall sp [] E0 t) := by
  obtain ⟨C, f, fd, ps, si, M, F, hm, b, imp⟩ := c.ex
  constructor
  intro pins s σ H Q I h
  refine wpAny_Call_Name_kw (ld_glob I hg hm ?_ hdb)
  refine PySem.W.callWith_K (h₀ := X.base) I.ok.mod.kin M.kp (thn (ha.run pos pins s σ H _ I h) fun us s1 ⟨vs, H1, I1, r, q⟩ => ⟨I1.kIn, ?_⟩) he hpl
  have q2 : sp vs H1 Q E0 := by
    have z : sp (vs ++ []) H1 Q E0 := q
    rw [List.append_nil] at z
    exact z
  refine run_make (dvs := []) M F (hr.mono hk) b .nil pass0 I1 r (fun n dx n1 n2 n3 => ?_)
  rw [List.append_nil]
  exact imp _ _ _ _ q2 n dx n1 n2 n3
theorem pe_me {pl : Sem Bool} (c : Met X.prog X.w X.K X.mg X.base k C m sp) (he : PE X o ta) (hr : Room j X.A) (hk : k ≤ j) (ha : PA X (e :: es) t)
    (hst : starEach (e :: es) X.env = (false, eval e X.env) :: starEach es X.env := by rfl) (hpl : (backTo pos (starEach es X.env)).any (·.1) = false := by rfl)
    (ht : eval (.Call (.Attribute o m apos) (e :: es) [] pos) X.env = (do
      let ov ← eval o X.env
      standAt apos.atName
      let (f, first) ← holding [ov] (getMethod ov m pl)
      callWith pos f first (backTo pos (starEach (e :: es) X.env)) (backToKw pos (keywordEach [] X.env))) := by rfl) : PE X (.Call (.Attribute o m apos) (e :: es) [] pos) (tMeth C m sp [] E0 ta t) := by
  obtain ⟨f, fd, ps, cl, me, F, b⟩ := c.ex
  exact pe_meth he cl me F (hr.mono hk) b .nil pass0 ha hst hpl ht
theorem pe_me0 {pl : Sem Bool} (c : Met X.prog X.w X.K X.mg X.base k C m sp) (he : PE X o ta) (hr : Room j X.A) (hk : k ≤ j)
    (ht : eval (.Call (.Attribute o m apos) [] [] pos) X.env = (do
      let ov ← eval o X.env
      standAt apos.atName
      let (f, first) ← holding [ov] (getMethod ov m pl)
      callWith pos f first (backTo pos (starEach [] X.env)) (backToKw pos (keywordEach [] X.env))) := by rfl) : PE X (.Call (.Attribute o m apos) [] [] pos) (tMeth C m sp [] E0 ta tNil) := by
  obtain ⟨f, fd, ps, cl, me, F, b⟩ := c.ex
  exact pe_meth0 he cl me F (hr.mono hk) b .nil pass0 ht
end
/-! ### f(e, ..), f an instance of C -/
structure Cob (P : Program) (w : World) (K : PySem.W.Frag) (mg : Str → Option Value) (base : Heap) (k : Nat) (C : Addr) (sp : Sp) : Prop where
  ex : ∃ g : Addr, StX.CallO K C g ∧ FnR P w K mg base CX0 k g sp
def tCo (C : Addr) (sp : Sp) (tf : TE) (t : TA) : TE := fun σ H Q => tf σ H fun y H1 => ∃ a, y = V.ref a ∧ t σ H1 fun vs H2 => (∃ dx fs, H2 a = some (.ins C dx fs)) ∧ sp (V.ref a :: vs) H2 Q E0
section
variable {X : Cx} {k j : Nat} {sp : Sp} {C : Addr} {pos : Pos} {e fe : Expr} {es : List Expr} {t : TA} {tf : TE}
theorem pe_co (c : Cob X.prog X.w X.K X.mg X.base k C sp) (hf : PE X fe tf) (hr : Room j X.A) (hk : k ≤ j) (ha : PA X (e :: es) t)
    (ht : eval (.Call fe (e :: es) [] pos) X.env = (do callWith pos (← eval fe X.env) [] (backTo pos (starEach (e :: es) X.env)) (backToKw pos (keywordEach [] X.env))) := by rfl)
    (he : starEach (e :: es) X.env = (false, eval e X.env) :: starEach es X.env := by rfl) (hpl : (backTo pos (starEach es X.env)).any (·.1) = false := by rfl) : PE X (.Call fe (e :: es) [] pos) (tCo C sp tf t) := by
  obtain ⟨g, co, F⟩ := c.ex
  constructor
  intro pins s σ H Q I h
  refine Call_ (thn (hf.run pins s σ H _ I h) fun u s1 ⟨y, H1, I1, ry, a, ey, q⟩ => ?_) ht
  subst ey
  obtain rfl : u = Value.ref a := ry
  refine StX.callO_with (thn (ha.run pos pins s1 σ H1 _ I1 q) fun us s2 ⟨vs, H2, I2, r, hi, q2⟩ => ?_) he hpl
  have hi2 : StX.InsC X H2 a C := .inr hi
  obtain ⟨ox, od, J, hd⟩ := StX.insC_at I2 hi2
  exact ⟨⟨C, ox, od, J, hd⟩, StX.run_callO co F (hr.mono hk) pass0 I2 hi2 r q2⟩
end
/-! ### a == b by the class's own __eq__ -/
structure Eqo (P : Program) (w : World) (K : PySem.W.Frag) (mg : Str → Option Value) (base : Heap) (k : Nat) (C : Addr) (sp : Sp) : Prop where
  ex : ∃ (f : Addr) (fd : FuncData) (ps : List Str), FnOk P w K mg base CX0 k f fd ps sp ∧ PySem.W.findIn K (.ref C) "__eq__" = some (some (.ref f)) ∧ PySem.W.isFn K (.ref f) = true ∧ Binds K fd ps []
def rOwn (C : Addr) (sp : Sp) : R2 := fun x y H Q => ∃ a b dx dy fs gs, x = .ref a ∧ y = .ref b ∧ H a = some (.ins C dx fs) ∧ H b = some (.ins C dy gs) ∧ sp [.ref a, .ref b] H (fun v H' => ∃ r, v = .bl r ∧ Q v H') E0
theorem op_own {X : Cx} {k j : Nat} {C : Addr} {sp : Sp} (c : Eqo X.prog X.w X.K X.mg X.base k C sp) (hr : Room j X.A) (hk : k ≤ j) : OpR X (compareOp .Eq) (rOwn C sp) := by
  intro pins s σ H x y v u Q I rx ry hq
  obtain ⟨f, fd, ps, F, hs, hf, hb⟩ := c.ex
  obtain ⟨a, b, dx, dy, fs, gs, rfl, rfl, ha, hb', q⟩ := hq
  cases rx
  cases ry
  obtain ⟨mA, J, _⟩ := ins_get I.hok ha
  obtain ⟨mB, J', _⟩ := ins_get I.hok hb'
  obtain ⟨od, J, _⟩ := J.look
  obtain ⟨od', J', _⟩ := J'.look
  obtain ⟨m, hF⟩ := I.fr
  show wpAny (model X.prog X.w) X.A (richCompare .Eq (Value.ref a) (Value.ref b)) (EP X pins σ Q) X.xe s
  refine PySem.W.cmp_K (op := .Eq) (tb := .ref C) (hr.mono hk).units0 hF I.ok.mod.kin J J'.type (by simp [PySem.W.notFirst]) hs hf ?_
  have r2 : Vals [V.ref a, V.ref b] [Value.ref a, Value.ref b] := .cons rfl (.cons rfl .nil)
  refine thn (run_fn (dvs := []) F (hr.mono hk) hb .nil pass0 I r2 q) fun r s' z => ?_
  obtain ⟨v, H', I', rv, b', rfl, q'⟩ := z
  cases rv
  exact ⟨.bl b', H', I', rfl, q'⟩
end Z
set_option Elab.async false
set_option linter.all false
set_option maxRecDepth 100000
set_option maxHeartbeats 4000000
namespace Z
open PySem PySem.Spec PyProof.Rows L2 NdefX
/-! ### an own exception whose __init__ begins with super().__init__(..) -/
/-- what the written part says of it: the function f of the class C (cell cc, code c) -/
structure SupK (P : Program) (K : PySem.W.Frag) (C f c cc : Addr) (fd : FuncData) : Prop where
  lk : ∃ oc od osl, K.lookup f = some ⟨oc, od, .func fd, osl⟩
  code : ∃ (ccl : Value) (cdd : Option Addr) (vs : Array Value) (ccs : Array (Option Value)) (file : Str) (tf : Tok), K.lookup c = some ⟨ccl, cdd, .fields vs, ccs⟩ ∧ vs[2]? = some (.str file tf) ∧ ((P.main.file : Str) == file) = true
  cell : ∃ cl cld csl, K.lookup cc = some ⟨cl, cld, .cell (some (.ref C)), csl⟩
  top : (P.main.scope.names.lookup ("super" : Str)).isSome = false
  mro : PySem.W.mroIn K C (.ref C) = some true
  opq : PySem.W.nsIn K cStatics "thirdparty.any" = some none
  ini : PySem.W.ks_superIn K C C "__init__" = some (some (.builtin "ValueError.__init__"))
  sub : PySem.W.subIn K (.ref C) (.type "ValueError") = some true
  exi : PySem.W.excInitIn K C He.veBase "ValueError.__new__" = true
  oex : OexC K C
section
variable {CX : CXT} {P : Program} {w : World} {K : PySem.W.Frag} {mg : Str → Option Value} {base : Heap} {N ps : List Str} {F : NF} {f C a cc : Addr} {A : Around} {outer : List Env} {s0 s : Shared} {H0 H : Hp} {E : XK} {σ : L2.St}
/-- the bound __init__ called -/
theorem call_mw {X : Cx} {pins : List (Addr × Obj)} {u : Addr} {us : List Value} {Q : Value → Shared → Prop} {E : Value → Shared → Prop} {A : Around} (S : SupK X.prog X.K C f c cc fd) (I : Inv X ((u, PySem.W.kxs_mw "ValueError.__init__" a) :: pins) σ H s) (e : H a = some (exo a C none)) (hz : us.length ≤ sizeLine)
    (h : ∀ s', Inv X ((u, PySem.W.kxs_mw "ValueError.__init__" a) :: pins) σ H s' → Q .none s') : wpAny (model X.prog X.w) A (call (.ref u) us) Q E s := by
  have FB := F.excBase_ValueError
  obtain ⟨nm, N', qn, bs, bm, hdct, sn, sub, ab, col, dd, k0, k1, k2, k3, k5, hC, hT⟩ := PySem.W.excInit_of I.kIn S.exi
  have hu := (I.pin (u, PySem.W.kxs_mw "ValueError.__init__" a) (List.mem_append_right _ (List.mem_cons_self ..))).1
  obtain ⟨t1, he⟩ := exo_at I.hok e
  obtain ⟨hh, g, d, tk, os⟩ := s
  refine wpAny_call (codeAny_of_tree ?_)
  show wpAny _ A.in1 (callAny (.ref u) ⟨us, []⟩) _ _ _
  simp only [callAny]
  refine wpAny_bind (wpAny_load hu ?_)
  simp only [PySem.W.kxs_mw, show (Value.type "method-wrapper" == Value.type "method" || Value.type "method-wrapper" == Value.type "builtin_function_or_method" || Value.type "method-wrapper" == Value.type "method-wrapper") = true by decide, if_true]
  refine PySem.W.KFB.if_so (by decide) ?_
  refine wpAny_bind (PySem.W.check_bound_init FB.toExcCallFacts hC he rfl ?_)
  refine wpAny_bind (wpAny_pure (wpAny_pure ?_))
  refine ⟨plainId_quiet FB.init.plain _, codeAny_builtin FB.initEntry ?_⟩
  refine PySem.W.exc_init_tree (cls := .ref C) (t0 := t1) (dv := none) (c2 := .none) (c3 := .none) (b4 := .bool false) he hz fun h' k hx _ => ?_
  have J := I.write (t' := tk) (x := a) (e := a) (o := exo a C none) (by rw [e]; exact True.intro) (.inl rfl) k ⟨_, hx⟩ (exo_ok hx)
  have eu : upd H a (exo a C none) = H := by
    funext b
    by_cases hb : b = a
    · rw [hb, upd_same, e]
    · rw [upd_ne hb]
  rw [eu] at J
  exact h _ J
/-- super().__init__(e, ..), the first statement -/
theorem super_first {pl : Sem Bool} {fd : FuncData} {ar : Arg} {t : TA} {e : Expr} {es : List Expr} {p0 p1 p2 pos pos2 : Pos} {Qn : Hp → Prop} (S : SupK P K C f F.c cc fd) (hcl : F.cl = [(("__class__" : Str), cc)]) (hp : (fd.params.posonlyargs ++ fd.params.args).head? = some ar)
    (hks : F.scope.names.lookup ("super" : Str) = some .globalImplicit) (hkc : F.scope.names.lookup ("__class__" : Str) = some .free) (hka : F.scope.names.lookup ar.arg = some .local) (hk : F.scope.kind = .function) (m_super : mg "super" = none)
    (hN : N[0]? = some ar.arg) (ha : PA (ncx CX P w K mg base N F f A outer s0 H0 E) (e :: es) t) (I : Inv (ncx CX P w K mg base N F f A outer s0 H0 E) [] σ H s) (hs : σ[0]? = some (some (.ref a))) (hx : H a = some (exo a C none))
    (ht : t σ H fun vs H1 => vs.length ≤ 1000 ∧ H1 a = some (exo a C none) ∧ Qn H1)
    (hint : interactive (ncx CX P w K mg base N F f A outer s0 H0 E).env = false := by rfl) (hsw : swapsWith (.Call (.Attribute (.Call (.Name "super" p0) [] [] p1) "__init__" p2) (e :: es) [] pos) none pos2.line (ncx CX P w K mg base N F f A outer s0 H0 E).env = pure false := by rfl)
    (hev : eval (.Call (.Attribute (.Call (.Name "super" p0) [] [] p1) "__init__" p2) (e :: es) [] pos) (ncx CX P w K mg base N F f A outer s0 H0 E).env = (do
      let ov ← attributeBase (.Call (.Name "super" p0) [] [] p1) "__init__" (ncx CX P w K mg base N F f A outer s0 H0 E).env (eval (.Call (.Name "super" p0) [] [] p1) (ncx CX P w K mg base N F f A outer s0 H0 E).env)
      standAt p2.atName
      let (g, first) ← holding [ov] (getMethod ov "__init__" pl)
      callWith pos g first (backTo pos (starEach (e :: es) (ncx CX P w K mg base N F f A outer s0 H0 E).env)) []) := by rfl)
    (he : starEach (e :: es) (ncx CX P w K mg base N F f A outer s0 H0 E).env = (false, eval e (ncx CX P w K mg base N F f A outer s0 H0 E).env) :: starEach es (ncx CX P w K mg base N F f A outer s0 H0 E).env := by rfl) (hpl : (backTo pos (starEach es (ncx CX P w K mg base N F f A outer s0 H0 E).env)).any (·.1) = false := by rfl) :
    _root_.PySem.wpAt (model P w) (ncx CX P w K mg base N F f A outer s0 H0 E).A (.func F.body (ncx CX P w K mg base N F f A outer s0 H0 E).env) (exec (.Expr (.Call (.Attribute (.Call (.Name "super" p0) [] [] p1) "__init__" p2) (e :: es) [] pos) pos2) (ncx CX P w K mg base N F f A outer s0 H0 E).env)
      (fun fl s' => fl = .next ∧ ∃ H1, Inv (ncx CX P w K mg base N F f A outer s0 H0 E) [] σ H1 s' ∧ H1 a = some (exo a C none) ∧ Qn H1) (ncx CX P w K mg base N F f A outer s0 H0 E).xe s := by
  obtain ⟨oc, od, osl, lkf⟩ := S.lk
  obtain ⟨ccl, cdd, vs, ccs, file, tf, lkc, hvs, hfile⟩ := S.code
  obtain ⟨cl, cld, csl, lkcc⟩ := S.cell
  have KX : K.In s.heap := I.kIn
  obtain ⟨m, hn, hl⟩ := I.loc
  obtain ⟨u, ru, lu⟩ := hl 0 ar.arg (.ref a) hN hs (.inl hka)
  obtain rfl : u = .ref a := ru
  have hma : m ar.arg = some (.ref a) := by
    rcases lu with ⟨_, z⟩ | ⟨z, _⟩
    · exact z
    · rcases z with z | z
      · rw [show (ncx CX P w K mg base N F f A outer s0 H0 E).env.kindOf ar.arg = some .local from hka] at z; cases z
      · rw [show (ncx CX P w K mg base N F f A outer s0 H0 E).env.kindOf ar.arg = some .local from hka] at z; cases z
  obtain ⟨nm, q, NN, bs, bm, sn, sub, ab, col, dd, k0, k1, k2, k3, k5, hC, hbm⟩ := S.oex.cls
  obtain ⟨t1, hox⟩ := exo_at I.hok hx
  refine ks_wpAt_Expr_any (ks_wpAt_MethodCall ?_ hev) hint hsw
  refine ks_wpAt_super_base (env := (ncx CX P w K mg base N F f A outer s0 H0 E).env) (cc := F.c) hks hkc (by decide) rfl (KX _ _ lkf) rfl hp rfl (KX _ _ lkc) rfl hvs hfile S.top ?_
  obtain ⟨mb, h1, h2⟩ := I.mod.blt
  refine PySem.W.ks_loadName_global hk hks (Calls.loadGlobal_builtin (by rw [I.ok.glob]; exact I.mod.glob.keeps I.bk) m_super (by rw [I.ok.blt]; exact h1.keeps I.bk) ((h2 "super" (by decide)).trans (by decide +kernel)) ⟨rfl, ?_⟩)
  refine wpAny_loadName_free hk hkc (c := cc) (by show F.cl.lookup _ = _; rw [hcl]; rfl) ⟨_, KX _ _ lkcc, rfl⟩ ?_
  refine wpAny_loadName_local hk hka hn hma ?_
  refine ks_wpAny_isType_cls (KX _ _ hC) rfl ⟨rfl, ?_⟩
  obtain ⟨hh, g, d, tk, os⟩ := s
  refine ks_wpAny_call_super (KX _ _ hC) rfl hox rfl (fun c z => by cases z) (PySem.W.looks_mroIn KX S.mro) (fun h' eso kso => ?_)
  have I2 : Inv (ncx CX P w K mg base N F f A outer s0 H0 E) [] σ H ⟨h', g, d, tk, os⟩ := I.kept kso
  have KX2 : K.In h' := I2.kIn
  have hox2 := kso _ _ hox
  have IA : PySem.W.InstAt h' a _ C none := ⟨hox2, rfl, rfl, trivial⟩
  have hI : PySem.W.Looks (model P w) h' (isInstance (.ref a) (.type "ValueError")) true := IA.type.andThen (PySem.W.looks_subIn KX2 S.sub)
  have hm := S.ini
  cases hc : PySem.W.clsIn K C with
  | none =>
    unfold PySem.W.ks_superIn at hm
    rw [hc] at hm
    cases hm
  | some cd =>
    unfold PySem.W.ks_superIn at hm
    rw [hc] at hm
    refine PySem.W.kxs_getMethod PySem.W.kxs_ValueError eso (PySem.W.looks_opaque KX2 S.opq) (l₀ := cd.mro) ?_ rfl KX2 hm hI (PySem.W.ks_ne KX2 IA hc) (by decide) ?_
    · exact fun A Q E s k q => wpAny_bind ((PySem.W.looks_clsIn KX2 hc) A _ E s k (wpAny_pure q))
    · have I3 : Inv (ncx CX P w K mg base N F f A outer s0 H0 E) [(h'.objs.size, PySem.W.kxs_mw "ValueError.__init__" a)] σ H ⟨h'.push (PySem.W.kxs_mw "ValueError.__init__" a), g, d, tk + 1, os⟩ := ClX.pin_new I2 (fun b o e => Heap.get?_push_of_some _ e) (Nat.le_refl _) (Heap.get?_push_at rfl rfl) (fun v z => by cases z)
      rw [he]
      refine PySem.W.kxs_callWith (i := "ValueError.__init__") (x := a) (by show (false || (backTo pos (starEach es _)).any (·.1)) = false; rw [hpl]; rfl) ?_
      refine PySem.Calls.evalArgs_plain ?_
      have hrun := ha.run pos _ _ σ H _ I3 ht
      rw [he] at hrun
      refine thn hrun fun us s3 ⟨ws, H3, I4, r, q1, q2, q3⟩ => ?_
      refine ⟨ClX.pin_at I4, ?_⟩
      refine call_mw (X := ncx CX P w K mg base N F f A outer s0 H0 E) S I4 q2 (by show us.length ≤ sizeLine; rw [← r.length]; exact Nat.le_trans q1 (by decide)) fun s' I5 => ⟨rfl, H3, ClX.unpin I5, q2, q3⟩
theorem wpAt_to {M : Model} {A : Around} {c : Code} {α : Type} {m : Sem α} {Q Q' : α → Shared → Prop} {E : Value → Shared → Prop} {s : Shared} (h : _root_.PySem.wpAt M A c m Q E s) (hq : ∀ a s', Q a s' → Q' a s') : _root_.PySem.wpAt M A c m Q' E s := ks_wpAt_mono h hq fun _ _ z => z
/-- THE RULE: such an __init__, the rest of its body by its readings -/
theorem sup_ok {pl : Sem Bool} {fd : FuncData} {dV kV doc pm ct : Value} {an : Option Addr} {ar : Arg} {k : Nat} {sp : Sp} {txt : Str} {j : Nat} {p0 p1 p2 p3 pos pos2 : Pos} {rest : List Stmt} (hfd : fd = PySem.W.fnX F.name F.qual F.params F.body F.scope F.cl dV kV doc pm an (.ref F.c) ct)
    (S : SupK P K C f F.c cc fd) (hcd : PySem.W.codeIn K (.ref F.c) F.qual = true) (NS : NScope N ps ["__class__"] F.scope) (hcl : F.cl = [(("__class__" : Str), cc)]) (hp : (F.params.posonlyargs ++ F.params.args).head? = some ar) (hks : F.scope.names.lookup ("super" : Str) = some .globalImplicit) (m_super : mg "super" = none)
    (hN : N[0]? = some ar.arg) (hka : F.scope.names.lookup ar.arg = some .local)
    (hb : F.body = .Expr (.Call (.Attribute (.Call (.Name "super" p0) [] [] p1) "__init__" p2) [.Constant (.str txt) j p3] [] pos) pos2 :: rest)
    (len : ∀ vs H Q E, sp vs H Q E → vs.length = ps.length) (hself : ∀ vs H Q E, sp vs H Q E → ∃ a vs', vs = .ref a :: vs' ∧ H a = some (exo a C none))
    (hint : ∀ (A : Around) (outer : List Env) (s : Shared) (H : Hp) (E : XK), interactive (ncx CX P w K mg base N F f A outer s H E).env = false)
    (hsw : ∀ (A : Around) (outer : List Env) (s : Shared) (H : Hp) (E : XK), swapsWith (.Call (.Attribute (.Call (.Name "super" p0) [] [] p1) "__init__" p2) [.Constant (.str txt) j p3] [] pos) none pos2.line (ncx CX P w K mg base N F f A outer s H E).env = pure false)
    (hev : ∀ (A : Around) (outer : List Env) (s : Shared) (H : Hp) (E : XK), eval (.Call (.Attribute (.Call (.Name "super" p0) [] [] p1) "__init__" p2) [.Constant (.str txt) j p3] [] pos) (ncx CX P w K mg base N F f A outer s H E).env = (do
      let ov ← attributeBase (.Call (.Name "super" p0) [] [] p1) "__init__" (ncx CX P w K mg base N F f A outer s H E).env (eval (.Call (.Name "super" p0) [] [] p1) (ncx CX P w K mg base N F f A outer s H E).env)
      standAt p2.atName
      let (g, first) ← holding [ov] (getMethod ov "__init__" pl)
      callWith pos g first (backTo pos (starEach [.Constant (.str txt) j p3] (ncx CX P w K mg base N F f A outer s H E).env)) []))
    (hrest : ∀ (A : Around) (outer : List Env) (s : Shared) (H : Hp) (vs : List V) (Q : VK) (E : XK), sp vs H Q E → ∃ t, PSs (ncx CX P w K mg base N F f A outer s H E) rest t ∧ t { nx := fun _ H' => Q .non H', rt := Q } (startF N vs [some (.ref C)]) H) : FnOk P w K mg base CX (k + 1) f fd ps sp := by
  refine ⟨len, fun A outer s H args us vs Q E hr e0 hbn r hsp => ?_⟩
  have hl := len _ _ _ _ hsp
  have KX : K.In s.heap := e0.mod.kin.keeps fun b o e => (e0.bs b o e).1
  have lim : s.heap.NoLimit := e0.mod.nolimit.keeps fun b o e => (e0.bs b o e).1
  obtain ⟨oc, od, osl, lkf⟩ := S.lk
  obtain ⟨cl, cld, csl, lkcc⟩ := S.cell
  have CA : CellsAt F.cl ["__class__"] [some (.ref C)] s.heap H := by
    refine ⟨rfl, fun y c e => ?_, fun x y c e1 e2 => ?_, fun i y e => ?_⟩
    · rw [hcl] at e
      have ec : c = cc := by
        unfold List.lookup at e
        split at e
        · exact (Option.some.inj e).symm
        · cases e
      subst ec
      exact ⟨(e0.bs _ _ (e0.mod.kin _ _ lkcc)).2, _, _, KX _ _ lkcc, rfl⟩
    · rw [hcl] at e1 e2
      have k : ∀ z : Str, ([(("__class__" : Str), cc)] : List (Str × Addr)).lookup z = some c → z = "__class__" := fun z e => by
        unfold List.lookup at e
        split at e
        · next h => exact beq_iff_eq.mp h
        · cases e
      rw [k x e1, k y e2]
    · have ey : y = "__class__" := by
        cases i with
        | zero => exact (Option.some.inj e).symm
        | succ i => cases e
      subst ey
      refine ⟨cc, by rw [hcl]; rfl, fun v hv => ?_⟩
      have ei : i = 0 := by
        cases i with
        | zero => rfl
        | succ i => cases e
      subst ei
      obtain rfl : V.ref C = v := Option.some.inj (Option.some.inj hv)
      exact ⟨.ref C, rfl, _, KX _ _ lkcc, rfl⟩
  subst hfd
  refine ks_codeAny_call_defAt hr.depth (KX _ _ lkf) rfl lim (PySem.W.codeRec_of KX hcd) rfl hbn NS.nocell (fun ⟨n, _⟩ hy => NS.par n (List.of_mem_zip hy).1) (fun h₁ hns kp => ?_) NS.co NS.gen NS.kind
  show _root_.PySem.wpAt _ (ncx CX P w K mg base N F f A outer s H E).A (.func F.body (ncx CX P w K mg base N F f A outer s H E).env) (execs F.body (ncx CX P w K mg base N F f A outer s H E).env) _ (ncx CX P w K mg base N F f A outer s H E).xe _
  have I : Inv (ncx CX P w K mg base N F f A outer s H E) [] (startF N vs [some (.ref C)]) H { s with heap := h₁, toks := s.toks + (ps.zip us).length } := inv_startN NS hr.hd e0 hl r CA hns kp
  obtain ⟨a, vs', rfl, hx⟩ := hself _ _ _ _ hsp
  have hexe : execs F.body (ncx CX P w K mg base N F f A outer s H E).env = execs (.Expr (.Call (.Attribute (.Call (.Name "super" p0) [] [] p1) "__init__" p2) [.Constant (.str txt) j p3] [] pos) pos2 :: rest) (ncx CX P w K mg base N F f A outer s H E).env := by rw [hb]
  rw [hexe]
  refine ks_wpAt_execs_cons (wpAt_to (super_first (Qn := fun H1 => H1 = H) S hcl hp hks (NS.frk _ (List.mem_cons_self ..)) hka NS.kind m_super hN (pa_cons pe_str pa_nil) I rfl hx ⟨by simp, hx, rfl⟩ (hint A outer s H E) (hsw A outer s H E) (hev A outer s H E)) ?_)
  rintro fl s1 ⟨rfl, H1, I1, _, rfl⟩
  obtain ⟨t, ht, hq⟩ := hrest A outer s H1 _ Q E hsp
  refine wpAt_of_wpAny (wpAny_mono (ht.run [] _ _ H1 _ I1 hq) (fun fl s' hs => ?_) fun e s' hs => hs)
  have fin : ∀ {σ' : L2.St} {H' : Hp} {v : V} {u : Value}, Inv (ncx CX P w K mg base N F f A outer s H1 E) [] σ' H' s' → L2.RelV v u → Q v H' → CE outer P w H1 s Q u s' :=
    fun {σ' H' v u} J rv q => ⟨v, H', J.os, J.bare, J.base, J.hok, rv, q⟩
  cases fl with
  | ret u =>
    obtain ⟨v, σ', H', J, rv, q⟩ := hs
    exact fin J rv q
  | next =>
    obtain ⟨σ', H', J, q⟩ := hs
    exact fin (v := V.non) (u := Value.none) J rfl q
  | brk =>
    obtain ⟨_, _, _, q⟩ := hs
    exact False.elim q
  | cont =>
    obtain ⟨_, _, _, q⟩ := hs
    exact False.elim q
end
end Z
set_option Elab.async false
set_option linter.all false
set_option maxRecDepth 100000
set_option maxHeartbeats 4000000
namespace Z
open PySem PySem.Spec PyProof.Rows L2 NdefX
/-! ### class X(..): def __init__(self, v): super().__init__("text"); self.field = v -/
def spEx (C : Addr) (field : Str) : Sp := fun vs H Q _ => ∃ (a : Addr) (v : V), vs = [.ref a, v] ∧ H a = some (exo a C none) ∧ ∀ dx, H dx = none → dx ≠ a → Q .non (upd (upd H dx (exd dx [(field, v)])) a (exo a C (some dx)))
theorem exn_ok {P : Program} {w : World} {K : PySem.W.Frag} {mg : Str → Option Value} {base : Heap} {F : NF} {f C cc : Addr} {pl : Sem Bool} {fd : FuncData} {dV kV doc pm ct : Value} {an : Option Addr} {ar : Arg} {txt v field : Str} {j : Nat} {p0 p1 p2 p3 pos pos2 q1 q2 q3 q4 : Pos} (hfd : fd = PySem.W.fnX F.name F.qual F.params F.body F.scope F.cl dV kV doc pm an (.ref F.c) ct)
    (S : SupK P K C f F.c cc fd) (hcd : PySem.W.codeIn K (.ref F.c) F.qual = true) (NS : NScope ["self", v, "__class__"] ["self", v] ["__class__"] F.scope) (hcl : F.cl = [(("__class__" : Str), cc)]) (hp : (F.params.posonlyargs ++ F.params.args).head? = some ar) (har : ar.arg = "self") (hks : F.scope.names.lookup ("super" : Str) = some .globalImplicit) (m_super : mg "super" = none)
    (hno : PySem.W.findIn K (.ref C) field = some none) (hvd : (v == ("__debug__" : Str)) = false) (hvc : (v == ("__classdict__" : Str)) = false)
    (hb : F.body = [.Expr (.Call (.Attribute (.Call (.Name "super" p0) [] [] p1) "__init__" p2) [.Constant (.str txt) j p3] [] pos) pos2, .Assign [.Attribute (.Name "self" q1) field q2] (.Name v q3) q4])
    (hint : ∀ (A : Around) (outer : List Env) (s : Shared) (H : Hp) (E : XK), interactive (ncx CX0 P w K mg base ["self", v, "__class__"] F f A outer s H E).env = false)
    (hsw : ∀ (A : Around) (outer : List Env) (s : Shared) (H : Hp) (E : XK), swapsWith (.Call (.Attribute (.Call (.Name "super" p0) [] [] p1) "__init__" p2) [.Constant (.str txt) j p3] [] pos) none pos2.line (ncx CX0 P w K mg base ["self", v, "__class__"] F f A outer s H E).env = pure false)
    (hev : ∀ (A : Around) (outer : List Env) (s : Shared) (H : Hp) (E : XK), eval (.Call (.Attribute (.Call (.Name "super" p0) [] [] p1) "__init__" p2) [.Constant (.str txt) j p3] [] pos) (ncx CX0 P w K mg base ["self", v, "__class__"] F f A outer s H E).env = (do
      let ov ← attributeBase (.Call (.Name "super" p0) [] [] p1) "__init__" (ncx CX0 P w K mg base ["self", v, "__class__"] F f A outer s H E).env (eval (.Call (.Name "super" p0) [] [] p1) (ncx CX0 P w K mg base ["self", v, "__class__"] F f A outer s H E).env)
      standAt p2.atName
      let (g, first) ← holding [ov] (getMethod ov "__init__" pl)
      callWith pos g first (backTo pos (starEach [.Constant (.str txt) j p3] (ncx CX0 P w K mg base ["self", v, "__class__"] F f A outer s H E).env)) []))
    (hs2 : ∀ (A : Around) (outer : List Env) (s : Shared) (H : Hp) (E : XK), swapsWith (.Name v q3) (some (.Attribute (.Name "self" q1) field q2)) q4.line (ncx CX0 P w K mg base ["self", v, "__class__"] F f A outer s H E).env = pure false) : FnOk P w K mg base CX0 1 f fd ["self", v] (spEx C field) := by
  refine sup_ok (k := 0) (rest := [.Assign [.Attribute (.Name "self" q1) field q2] (.Name v q3) q4]) hfd S hcd NS hcl hp hks m_super (by rw [har]; rfl) (by rw [har]; exact NS.par _ (List.mem_cons_self ..)) hb (fun vs H Q E h => ?_) (fun vs H Q E h => ?_) hint hsw hev (fun A outer s H vs Q E h => ?_)
  · obtain ⟨a, y, rfl, _⟩ := h
    rfl
  · obtain ⟨a, y, rfl, hx, _⟩ := h
    exact ⟨a, [y], rfl, hx⟩
  · obtain ⟨a, y, rfl, hx, q⟩ := h
    refine ⟨_, pss_one (ps_ost (pe_var (i := 0) rfl (.inl (NS.par _ (List.mem_cons_self ..)))) (pe_var (i := 1) rfl (.inl (NS.par _ (List.mem_cons_of_mem _ (List.mem_cons_self ..)))) hvd hvc) (hs2 A outer s H E)), ?_⟩
    refine ⟨y, rfl, .ref a, rfl, a, C, rfl, S.oex, hno, .inl ⟨hx, fun dx n1 n2 => ?_⟩⟩
    exact q dx n1 n2
/-! ### raise X(e) -/
structure Exn (P : Program) (w : World) (K : PySem.W.Frag) (mg : Str → Option Value) (base : Heap) (x : Str) (C : Addr) (field : Str) : Prop where
  oex : OexC K C
  gl : mg x = some (.ref C)
  ini : ∃ fI fd ps, PySem.W.findIn K (.ref C) "__init__" = some (some (.ref fI)) ∧ PySem.W.typeIn K (.ref fI) = some (.type "function") ∧ FnOk P w K mg base CX0 1 fI fd ps (spEx C field) ∧ Binds K fd ps []
section
variable {X : Cx} {x field : Str} {C : Addr} {j : Nat} {e : Expr} {ta : TA} {p pos pos2 : Pos} {W : WX}
theorem pmk_exn (c : Exn X.prog X.w X.K X.mg X.base x C field) (hr : Room j X.A) (hk : 2 ≤ j) (hg : Gl X x) (ha : PA X [e] ta) (hdb : (x == ("__debug__" : Str)) = false := by decide) (he : starEach [e] X.env = (false, eval e X.env) :: starEach [] X.env := by rfl) (hpl : (backTo pos (starEach [] X.env)).any (·.1) = false := by rfl) :
    PMk X (.Call (.Name x p) [e] [] pos) (tMkO C (spEx C field) [] ta) := by
  obtain ⟨fI, fd, ps, iC, tI, F1, b⟩ := c.ini
  exact pmk_oex (X := X) (pos := pos) (p := p) (dvs := []) c.oex iC tI F1 (hr.mono hk) b .nil pass0 hg c.gl ha hdb he hpl
/-- raise X(e) -/
theorem ps_exn (hc : X.calm = true) (tk : Takes X W) (c : Exn X.prog X.w X.K X.mg X.base x C field) (hr : Room j X.A) (hk : 2 ≤ j) (hg : Gl X x) (ha : PA X [e] ta) (hdb : (x == ("__debug__" : Str)) = false := by decide) (he : starEach [e] X.env = (false, eval e X.env) :: starEach [] X.env := by rfl) (hpl : (backTo pos (starEach [] X.env)).any (·.1) = false := by rfl) :
    PS X (.Raise (some (.Call (.Name x p) [e] [] pos)) none pos2) (fun _ σ H => tMkO C (spEx C field) [] ta σ H fun cls d H' => W cls d σ H') := ps_raise hc tk (pmk_exn c hr hk hg ha hdb he hpl)
end
/-- what is left to show of X(v) -/
theorem mkx_of {C : Addr} {field : Str} {v : V} {H1 : Hp} {Q : XK} (q : ∀ d, H1 d = none → Q (.ref C) (some d) (upd H1 d (.xd [(field, v)]))) :
    [v].length ≤ 1000 ∧ ∀ a, H1 a = none → spEx C field (.ref a :: ([v] ++ [])) (upd H1 a (exo a C none)) (fun v H2 => v = .non ∧ ∃ (d : Addr) (fs : List (Str × V)), H2 a = some (exo a C (some d)) ∧ H2 d = some (exd d fs) ∧ H1 d = none ∧ Q (.ref C) (some d) (upd (del H2 a) d (.xd fs))) (fun _ _ _ => False) := by
  refine ⟨by simp, fun a na => ⟨a, v, rfl, upd_same, fun dx n1 n2 => ⟨rfl, dx, [(field, v)], upd_same, ?_, ?_, ?_⟩⟩⟩
  · rw [upd_ne n2, upd_same]
  · rw [← n1, upd_ne n2]
  · have n3 : H1 dx = none := by rw [← n1, upd_ne n2]
    have e1 : upd (del (upd (upd (upd H1 a (exo a C none)) dx (exd dx [(field, v)])) a (exo a C (some dx))) a) dx (.xd [(field, v)]) = upd H1 dx (.xd [(field, v)]) := by
      funext b
      by_cases hb : b = dx
      · rw [hb, upd_same, upd_same]
      · rw [upd_ne hb, upd_ne hb]
        by_cases ha2 : b = a
        · rw [ha2, del_same, na]
        · rw [del_ne ha2, upd_ne ha2, upd_ne hb, upd_ne ha2]
    rw [e1]
    exact q dx n3
/-! ### calls that may raise -/
structure CalX (P : Program) (w : World) (K : PySem.W.Frag) (mg : Str → Option Value) (base : Heap) (k : Nat) (x : Str) (sp : Sp) : Prop where
  ex : ∃ (f : Addr) (fd : FuncData) (ps : List Str), FnOk P w K mg base (L2.CX P w) k f fd ps sp ∧ mg x = some (.ref f) ∧ PySem.W.keepIn K (.ref f) = true ∧ Binds K fd ps []
structure MakX (P : Program) (w : World) (K : PySem.W.Frag) (mg : Str → Option Value) (base : Heap) (k : Nat) (x : Str) (C : Addr) (sp : Sp) : Prop where
  ex : ∃ (f : Addr) (fd : FuncData) (ps : List Str), Mk K C f ∧ FnOk P w K mg base (L2.CX P w) k f fd ps sp ∧ mg x = some (.ref C) ∧ Binds K fd ps []
structure MetX (P : Program) (w : World) (K : PySem.W.Frag) (mg : Str → Option Value) (base : Heap) (k : Nat) (C : Addr) (m : Str) (sp : Sp) : Prop where
  ex : ∃ (f : Addr) (fd : FuncData) (ps : List Str), Cls K C ∧ Meth K C m f ∧ FnOk P w K mg base (L2.CX P w) k f fd ps sp ∧ Binds K fd ps []
structure CobX (P : Program) (w : World) (K : PySem.W.Frag) (mg : Str → Option Value) (base : Heap) (k : Nat) (C : Addr) (sp : Sp) : Prop where
  ex : ∃ (g : Addr) (fd : FuncData) (ps : List Str), StX.CallO K C g ∧ FnOk P w K mg base (L2.CX P w) k g fd ps sp ∧ Binds K fd ps []
/-- C(e, ..) by its __init__'s promise; what is raised at the slots -/
def tMkW (C : Addr) (sp : Sp) (E : L2.St → XK) (t : TA) : TE := fun σ H Q => t σ H fun vs H1 => ∀ n dx, H1 n = none → H1 dx = none → dx ≠ n → sp (.ref n :: vs) (upd (upd H1 dx (.own n)) n (.ins C dx [])) (fun v H2 => v = .non ∧ Q (.ref n) H2) (E σ)
def tCoW (C : Addr) (sp : Sp) (E : L2.St → XK) (tf : TE) (t : TA) : TE := fun σ H Q => tf σ H fun y H1 => ∃ a, y = V.ref a ∧ t σ H1 fun vs H2 => (∃ dx fs, H2 a = some (.ins C dx fs)) ∧ sp (V.ref a :: vs) H2 Q (E σ)
def tMeW (C : Addr) (m : Str) (sp : Sp) (E : L2.St → XK) (ta : TE) (t : TA) : TE := fun σ H Q => ta σ H fun x H1 => ∃ a dx fs, x = V.ref a ∧ H1 a = some (.ins C dx fs) ∧ List.lookup m fs = none ∧ t σ H1 fun vs H2 => sp (x :: vs) H2 Q (E σ)
section
variable {X : Cx} {k j : Nat} {x m : Str} {sp : Sp} {C : Addr} {p pos apos : Pos} {e o fe : Expr} {es : List Expr} {t : TA} {ta tf : TE} {W : WX} {E : L2.St → XK}
theorem passS0 {σ : L2.St} : PassesAt (L2.CX X.prog X.w) X σ E0 := fun pins H s e s' I c => passL pins σ H s e s' I c
/-- any result of a promise, at the slots -/
theorem back_at {σ : L2.St} {H : Hp} {s : Shared} {pins : List (Addr × Obj)} {Q : VK} {E : XK} {CX : CXT} (hx : PassesAt CX X σ E) (I : Inv X pins σ H s) : ∀ (r : Result) (s' : Shared), CR CX X.stack X.prog X.w H s Q E r s' → match r with
    | .ok (.ret v) => EP X pins σ Q v s'
    | .ok _ => False
    | .error e => X.xe e s'
  | .error e, s', h => hx pins H s e s' I h
  | .ok (.ret u), s', h => I.after h
  | .ok .next, s', h => h
  | .ok .brk, s', h => h
  | .ok .cont, s', h => h
theorem pe_clE (c : CalX X.prog X.w X.K X.mg X.base k x sp) (hx : ∀ σ, PassesAt (L2.CX X.prog X.w) X σ (E σ)) (hr : Room j X.A) (hk : k ≤ j) (hg : Gl X x) (ha : PA X (e :: es) t) (hdb : (x == ("__debug__" : Str)) = false := by decide) (he : starEach (e :: es) X.env = (false, eval e X.env) :: starEach es X.env := by rfl) (hpl : (backTo pos (starEach es X.env)).any (·.1) = false := by rfl) :
    PE X (.Call (.Name x p) (e :: es) [] pos) (tCallS sp E t) := by
  obtain ⟨f, fd, ps, F, hm, kp, b⟩ := c.ex
  exact pe_callS F (hr.mono hk) hg hm kp b hx ha hdb he hpl
theorem pe_mkE (c : MakX X.prog X.w X.K X.mg X.base k x C sp) (hx : ∀ σ, PassesAt (L2.CX X.prog X.w) X σ (E σ)) (hr : Room j X.A) (hk : k + 1 ≤ j) (hg : Gl X x) (ha : PA X (e :: es) t) (hdb : (x == ("__debug__" : Str)) = false := by decide) (he : starEach (e :: es) X.env = (false, eval e X.env) :: starEach es X.env := by rfl) (hpl : (backTo pos (starEach es X.env)).any (·.1) = false := by rfl) :
    PE X (.Call (.Name x p) (e :: es) [] pos) (tMkW C sp E t) := by
  obtain ⟨f, fd, ps, M, F, hm, b⟩ := c.ex
  constructor
  intro pins s σ H Q I h
  refine wpAny_Call_Name_kw (ld_glob I hg hm ?_ hdb)
  refine PySem.W.callWith_K (h₀ := X.base) I.ok.mod.kin M.kp (thn (ha.run pos pins s σ H _ I h) fun us s1 z => ?_) he hpl
  obtain ⟨vs, H1, I1, rr, q⟩ := z
  refine ⟨I1.kIn, ?_⟩
  obtain ⟨n, hn⟩ : ∃ n, n = s1.heap.objs.size := ⟨_, rfl⟩
  have q1 := q (n + 1) n (I1.hok.fresh (by rw [hn]; exact Nat.le_succ _)) (I1.hok.fresh (by rw [hn]; exact Nat.le_refl _)) (Nat.ne_of_lt (Nat.lt_succ_self _))
  subst hn
  have J := Inv.made (C := C) I1
  have r3 : Vals (V.ref (s1.heap.objs.size + 1) :: vs) (Value.ref (s1.heap.objs.size + 1) :: us) := .cons rfl rr
  have b3 := b { s1 with heap := (s1.heap.push PySem.W.emptyDict).push (PySem.W.instObj C s1.heap.objs.size) } (Value.ref (s1.heap.objs.size + 1) :: us) J.kIn (by rw [List.append_nil, ← r3.length]; exact F.len _ _ _ _ q1)
  rw [List.append_nil] at b3
  have run := F.run _ X.stack _ _ _ _ _ _ _ ((hr.mono hk).make C us []) (J.env0.make C us []) b3 r3 q1
  refine wpAny_call (make_map (f := f) I1.kIn M.makes M.init (beq_iff_eq.mp M.fn) (codeAny_mono run fun r s' hq => ?_))
  have z := back_at (hx σ) J r s' hq
  match r, z with
  | .error e, z => exact z
  | .ok (.ret u), ⟨v, H', J', rv, ev, q3⟩ =>
    subst ev
    exact ⟨rv, V.ref (s1.heap.objs.size + 1), H', J', rfl, q3⟩
theorem run_atE {f : Addr} {fd : FuncData} {ps : List Str} {σ : L2.St} {H : Hp} {s : Shared} {pins : List (Addr × Obj)} {Q : VK} {us : List Value} {vs : List V} (F : FnOk X.prog X.w X.K X.mg X.base (L2.CX X.prog X.w) k f fd ps sp) (b : Binds X.K fd ps []) (hx : PassesAt (L2.CX X.prog X.w) X σ (E σ)) (hr : Room k X.A) (I : Inv X pins σ H s) (r : Vals vs us) (h : sp vs H Q (E σ)) :
    codeAny (model X.prog X.w) X.A (.call (.ref f) ⟨us, []⟩) (fun r s' => match r with | .ok (.ret v) => EP X pins σ Q v s' | .ok _ => False | .error e => X.xe e s') s := by
  have b3 := b s us I.kIn (by rw [List.append_nil, ← r.length]; exact F.len _ _ _ _ h)
  rw [List.append_nil] at b3
  exact codeAny_mono (F.run _ X.stack _ _ _ _ _ _ _ hr I.env0 b3 r h) (back_at hx I)
theorem pe_coE (c : CobX X.prog X.w X.K X.mg X.base k C sp) (hf : PE X fe tf) (hx : ∀ σ, PassesAt (L2.CX X.prog X.w) X σ (E σ)) (hr : Room j X.A) (hk : k ≤ j) (ha : PA X (e :: es) t)
    (ht : eval (.Call fe (e :: es) [] pos) X.env = (do callWith pos (← eval fe X.env) [] (backTo pos (starEach (e :: es) X.env)) (backToKw pos (keywordEach [] X.env))) := by rfl)
    (he : starEach (e :: es) X.env = (false, eval e X.env) :: starEach es X.env := by rfl) (hpl : (backTo pos (starEach es X.env)).any (·.1) = false := by rfl) : PE X (.Call fe (e :: es) [] pos) (tCoW C sp E tf t) := by
  obtain ⟨g, fd, ps, co, F, b⟩ := c.ex
  constructor
  intro pins s σ H Q I h
  refine Call_ (thn (hf.run pins s σ H _ I h) fun u s1 ⟨y, H1, I1, ry, a, ey, q⟩ => ?_) ht
  subst ey
  obtain rfl : u = Value.ref a := ry
  refine StX.callO_with (thn (ha.run pos pins s1 σ H1 _ I1 q) fun us s2 z => ?_) he hpl
  obtain ⟨vs, H2, I2, r, hi, q2⟩ := z
  have hi2 : StX.InsC X H2 a C := .inr hi
  obtain ⟨ox, od, J, hd⟩ := StX.insC_at I2 hi2
  exact ⟨⟨C, ox, od, J, hd⟩, wpAny_call (PySem.W.kco_code I2.kIn J hd co.at_ co.fn co.fi (run_atE (vs := .ref a :: vs) (us := .ref a :: us) F b (hx σ) (hr.mono hk) I2 (.cons rfl r) q2))⟩
theorem pe_meE {pl : Sem Bool} (c : MetX X.prog X.w X.K X.mg X.base k C m sp) (ho : PE X o ta) (hx : ∀ σ, PassesAt (L2.CX X.prog X.w) X σ (E σ)) (hr : Room j X.A) (hk : k ≤ j) (ha : PA X (e :: es) t)
    (hst : starEach (e :: es) X.env = (false, eval e X.env) :: starEach es X.env := by rfl) (hpl : (backTo pos (starEach es X.env)).any (·.1) = false := by rfl)
    (ht : eval (.Call (.Attribute o m apos) (e :: es) [] pos) X.env = (do
      let ov ← eval o X.env
      standAt apos.atName
      let (g, first) ← holding [ov] (getMethod ov m pl)
      callWith pos g first (backTo pos (starEach (e :: es) X.env)) (backToKw pos (keywordEach [] X.env))) := by rfl) : PE X (.Call (.Attribute o m apos) (e :: es) [] pos) (tMeW C m sp E ta t) := by
  obtain ⟨f, fd, ps, cl, me, F, b⟩ := c.ex
  constructor
  intro pins s σ H Q I h
  refine PySem.W.methodCall_KW (pl := pl) (thn (ho.run pins s σ H _ I h) fun u s1 z => ?_) ht
  obtain ⟨y, H1, I1, ry, a, dx, fs, ey, ea, l, q⟩ := z
  subst ey
  obtain rfl : u = Value.ref a := ry
  refine getmeth_ok I1 ea cl me l ?_
  refine PySem.W.callWith_K (first := [.ref a]) (h₀ := X.base) I.ok.mod.kin me.kp (thn (ha.run pos pins s1 σ H1 _ I1 q) fun us s2 z => ?_) hst hpl
  obtain ⟨vs, H2, I2, r, q2⟩ := z
  exact ⟨I2.kIn, wpAny_call (run_atE (vs := .ref a :: vs) (us := .ref a :: us) F b (hx σ) (hr.mono hk) I2 (.cons rfl r) q2)⟩
theorem takes_fn {P : Program} {w : World} {K : PySem.W.Frag} {mg : Str → Option Value} {base : Heap} {N : List Str} {qual : Str} {scope : Scope} {f : Addr} {cd : Value} {A : Around} {outer : List Env} {s : Shared} {H : Hp} {E : XK} : Takes (cxOf (L2.CX P w) P w K mg base N qual scope f cd A outer s H E) (fun cls d _ H' => E cls d H') := takes_of rfl rfl rfl rfl
end
end Z
set_option Elab.async false
set_option linter.all false
set_option maxRecDepth 100000
set_option maxHeartbeats 4000000
namespace Z
open PySem PySem.Spec PyProof.Rows L2 NdefX
/-! ### what the head tells of such a class -/
def oexB (K : PySem.W.Frag) (C : Addr) : Bool := (match K.lookup C with
  | some ⟨.type t, _, .cls cd, sl⟩ => (match cd.mro, sl.toList with
    | .ref D :: bm, [_, _, _, _, some (.builtin n), _] => decide (t = "type") && (decide (D = C) && (decide (n = "ValueError.__new__") && (!cd.hasDel && (cd.hasDict && PySem.HandSPX.refsVE bm))))
    | _, _ => false)
  | _ => false) && (He.eqO (PySem.W.findIn K (.ref C) "__setattr__") (some (some (.builtin "object.__setattr__"))) && (decide (PySem.W.subIn K (.ref C) (.type "BaseException") = some true) && (decide (PySem.W.typeIn K (.ref C) = some (.type "type")) && PySem.W.keepIn K (.ref C))))
theorem oexB_ok {K : PySem.W.Frag} {C : Addr} (h : oexB K C = true) : OexC K C := by
  obtain ⟨h0, h⟩ := He.ba h
  obtain ⟨h1, h⟩ := He.ba h
  obtain ⟨h2, h⟩ := He.ba h
  obtain ⟨h3, h4⟩ := He.ba h
  refine ⟨?_, He.eqO_ok h1, of_decide_eq_true h2, of_decide_eq_true h3, h4⟩
  split at h0
  · next t dd cd sl lk =>
    split at h0
    · next D bm a0 a1 a2 a3 n a5 em es =>
      obtain ⟨g1, h0⟩ := He.ba h0
      obtain ⟨g2, h0⟩ := He.ba h0
      obtain ⟨g3, h0⟩ := He.ba h0
      obtain ⟨g4, h0⟩ := He.ba h0
      obtain ⟨g5, g6⟩ := He.ba h0
      have g1 := of_decide_eq_true g1
      have g2 := of_decide_eq_true g2
      have g3 := of_decide_eq_true g3
      subst g1 g2 g3
      obtain ⟨c1, c2, c3, c4, c5, c6, c7, c8, c9, c10, c11⟩ := cd
      have k3 : c3 = .ref D :: bm := em
      have k4 : c11 = false := by
        have z : (!c11) = true := g4
        cases c11
        · rfl
        · cases z
      have k5 : c6 = true := g5
      clear em g4 g5
      subst k3 k4 k5
      refine ⟨c1, c5, c4, c2, bm, c7, c8, c9, c10, dd, a0, a1, a2, a3, a5, ?_, g6⟩
      rw [lk]
      have : sl = #[a0, a1, a2, a3, some (.builtin "ValueError.__new__"), a5] := by
        apply Array.toList_inj.mp
        rw [es]
      rw [this]
    · cases h0
  · cases h0
def initFd (K : PySem.W.Frag) (C : Addr) : Option FuncData := match K.lookup (He.ma K C "__init__") with
  | some ⟨_, _, .func fd, _⟩ => some fd
  | _ => none
abbrev SupV : Type := Option (Str × Str × Arguments × FuncBody × Scope × Addr × List Str × Value × Addr)
def supObs (K : PySem.W.Frag) (x : Str) : SupV := (initFd K (He.ga K x)).map fun fd => (fd.name, fd.qualname, fd.params, fd.body, fd.scope, fd.globals, fd.closure.map (·.1), fd.defaults, fd.builtins)
def supVal (q : Str) (st : Stmt) : SupV := some ("__init__", q, defArgs st, .stmts (defBody st), defScope st, mainGlobals, ["__class__"], .none, builtinsNs)
def supB (fl : Str) (K : PySem.W.Frag) (C : Addr) (q : Str) : Bool := (match initFd K C with
  | some fd => (match fd.code, fd.closure with
    | .ref c, [(_, cc)] => PySem.W.codeIn K (.ref c) q && ((match K.lookup c with
      | some ⟨_, _, .fields vs, _⟩ => (match (vs[2]? : Option Value) with
        | some (.str file _) => fl == file
        | _ => false)
      | _ => false) && (match K.lookup cc with
      | some ⟨_, _, .cell (some (.ref D)), _⟩ => decide (D = C)
      | _ => false))
    | _, _ => false)
  | none => false) && (decide (PySem.W.mroIn K C (.ref C) = some true) && (He.eqO (PySem.W.nsIn K cStatics "thirdparty.any") (some none) && (He.eqO (PySem.W.ks_superIn K C C "__init__") (some (some (.builtin "ValueError.__init__"))) && (decide (PySem.W.subIn K (.ref C) (.type "ValueError") = some true) && (PySem.W.excInitIn K C He.veBase "ValueError.__new__" && oexB K C)))))
theorem sup_of {P : Program} {K : PySem.W.Frag} {x q fl : Str} {st : Stmt} (h1 : supObs K x = supVal q st) (h2 : supB fl K (He.ga K x) q = true) (hfl : ((P.main.file : Str) == fl) = true) (htop : (P.main.scope.names.lookup ("super" : Str)).isSome = false) :
    ∃ (c cc : Addr) (fd : FuncData) (kV doc pm ct : Value) (an : Option Addr), fd = PySem.W.fnX "__init__" q (defArgs st) (defBody st) (defScope st) [(("__class__" : Str), cc)] .none kV doc pm an (.ref c) ct ∧ SupK P K (He.ga K x) (He.ma K (He.ga K x) "__init__") c cc fd ∧ PySem.W.codeIn K (.ref c) q = true := by
  obtain ⟨g0, h2⟩ := He.ba h2
  obtain ⟨g1, h2⟩ := He.ba h2
  obtain ⟨g2, h2⟩ := He.ba h2
  obtain ⟨g3, h2⟩ := He.ba h2
  obtain ⟨g4, h2⟩ := He.ba h2
  obtain ⟨g5, g6⟩ := He.ba h2
  unfold supObs at h1
  cases e : initFd K (He.ga K x) with
  | none =>
    rw [e] at h1
    cases h1
  | some fd =>
    rw [e] at h1 g0
    have lk : ∃ oc od osl, K.lookup (He.ma K (He.ga K x) "__init__") = some ⟨oc, od, .func fd, osl⟩ := by
      unfold initFd at e
      split at e
      · next oc od fd' osl l =>
        cases e
        exact ⟨_, _, _, l⟩
      · cases e
    obtain ⟨n1, n2, n3, n4, n5, n6, n7, n8, n9, n10, n11, n12, n13, n14, n15⟩ := fd
    have h1 : (some (n1, n2, n3, n4, n5, n6, n7.map (·.1), n8, n15) : SupV) = supVal q st := h1
    unfold supVal at h1
    simp only [Option.some.injEq, Prod.mk.injEq] at h1
    obtain ⟨a1, a2, a3, a4, a5, a6, a7, a8, a9⟩ := h1
    subst a1 a2 a3 a4 a5 a6 a8 a9
    dsimp only at g0
    split at g0
    · next c y cc =>
      obtain ⟨b1, g0⟩ := He.ba g0
      obtain ⟨b2, b3⟩ := He.ba g0
      have ey : y = "__class__" := by
        have := a7
        simpa using this
      subst ey
      refine ⟨c, cc, _, _, _, _, _, _, rfl, ⟨lk, ?_, ?_, htop, of_decide_eq_true g1, He.eqO_ok g2, He.eqO_ok g3, of_decide_eq_true g4, g5, oexB_ok g6⟩, b1⟩
      · split at b2
        · next u1 u2 vs u3 l =>
          split at b2
          · next file tf ev =>
            refine ⟨_, _, vs, _, file, tf, l, ev, ?_⟩
            rw [beq_iff_eq.mp b2] at hfl
            exact hfl
          · cases b2
        · cases b2
      · split at b3
        · next u1 u2 D u3 l =>
          have := of_decide_eq_true b3
          subst this
          exact ⟨_, _, _, l⟩
        · cases b3
    · cases g0
end Z
set_option Elab.async false
set_option linter.all false
set_option maxRecDepth 100000
set_option maxHeartbeats 4000000
namespace Z
open PySem PySem.Spec PyProof.Rows L2 NdefX
/-! ### isinstance(e, c), e a caught error with a dict of its own -/
def rIsX (K : PySem.W.Frag) (a : Addr) (cls : Value) (d : Option Addr) : List V → Hp → VK → Prop := fun xs H Q => ∃ (D dd : Addr) (fs : List (Str × V)) (c : V) (cv : Value) (b : Bool), cls = .ref D ∧ d = some dd ∧ ExcC K D ∧ H dd = some (.xd fs) ∧ xs = [.ref a, c] ∧ (∀ u, RelV c u → u = cv) ∧ PySem.W.kitOne K (.ref D) cv = some b ∧ Q (.bl b) H
theorem call_isX {X : Cx} {a : Addr} {cls : Value} {d : Option Addr} {oe : Obj} {pn : List (Addr × Obj)} (hz : Zc cls d oe) (hf : ∃ vs, oe.data = .fields vs) : CallR (X.suite a ((a, oe) :: pn)) (.builtin "isinstance") (rIsX X.K a cls d) := by
  intro pins s σ H xs us Q I r h
  obtain ⟨D, dd, fs, c, cv, b, rfl, rfl, C, ed, rfl, hcv, e, q⟩ := h
  obtain ⟨u1, u2, rfl, r1, r2⟩ := vals2 r
  cases r1
  have ec := hcv _ r2
  subst ec
  obtain ⟨hget, _⟩ := I.pin (a, oe) (List.mem_append.mpr (.inl List.mem_cons_self))
  obtain ⟨vs, hv⟩ := hf
  have hx : ObjOk X.prog X.w H s.heap dd (.xd fs) := I.hok dd _ ed
  obtain ⟨mA, hns, hr⟩ := hx
  obtain ⟨od, ho, hl⟩ := lookIn_ns hns
  have J : PySem.W.InstAt s.heap a oe D (some od) := ⟨hget, hz.1, by unfold PySem.W.notCls; rw [hv] <;> rfl, by rw [hz.2]; exact ho⟩
  have hcl : (PySem.W.clsIn X.K D).isSome = true := by
    obtain ⟨cd, hc, _⟩ := PySem.W.any_some C.hd
    rw [hc]
    rfl
  exact PySem.W.kia_one (PySem.W.kitx_exc hcl C.hg C.hk C.hs C.ha C.hn C.ht C.hm) I.kIn J e (fun z => nomatch z) fun tk => ⟨.bl b, H, I.kept (t' := tk) fun _ _ z => z, rfl, q⟩
end Z
set_option Elab.async false
set_option linter.all false
set_option maxRecDepth 100000
set_option maxHeartbeats 4000000
namespace Z
open PySem PySem.Spec PyProof.Rows L2 NdefX
/-! ### the head with own exceptions: facts of defs and classes, one more Bool, the __init__s -/
def asX (g : Addr → Option Obj) (n : Nat) : List Addr := He.asD g n ++ [cStatics]
def hookX (n : Nat) (fa : List He.Fa) (fn : List He.DefD) (xs : List Str) (vs : List SupV) (ex : PySem.W.Frag → Bool) : PySem.W.Hook where
  α := He.AlD × (List SupV × Bool)
  obs := fun s => (He.obsD fa fn (He.frG s.heap.get? (asX s.heap.get? n)), xs.map (supObs (He.frG s.heap.get? (asX s.heap.get? n))), ex (He.frG s.heap.get? (asX s.heap.get? n)))
  val := fun _ => (He.valD fn, vs, true)
  says := fun _ h => ∃ K : PySem.W.Frag, K.In h ∧ He.SaysD fa fn K ∧ xs.map (supObs K) = vs ∧ ex K = true
  of := fun _ _ e => ⟨_, He.frG_in, congrArg (fun z : He.AlD × (List SupV × Bool) => z.1) e, congrArg (fun z : He.AlD × (List SupV × Bool) => z.2.1) e, congrArg (fun z : He.AlD × (List SupV × Bool) => z.2.2) e⟩
  keeps := fun _ _ _ ⟨K, hK, c⟩ k => ⟨K, PySem.W.Frag.In.keeps hK k, c⟩
def obX (n : Nat) (fa : List He.Fa) (fn : List He.DefD) (xs : List Str) (ex : PySem.W.Frag → Bool) (g : Addr → Option Obj) : He.AlD × (List SupV × Bool) := (He.obsD fa fn (He.frG g (asX g n)), xs.map (supObs (He.frG g (asX g n))), ex (He.frG g (asX g n)))
theorem obX_eq {n : Nat} {fa : List He.Fa} {fn : List He.DefD} {xs : List Str} {vs : List SupV} {ex : PySem.W.Frag → Bool} {g : Addr → Option Obj} {s : Shared} (h : ∀ a, g a = s.heap.get? a) : obX n fa fn xs ex g = (hookX n fa fn xs vs ex).obs s := by
  have e : g = s.heap.get? := funext h
  rw [e] <;> rfl
theorem sup_at {xs : List Str} {vs : List SupV} {K : PySem.W.Frag} (e : xs.map (supObs K) = vs) (i : Nat) {x : Str} {v : SupV} (h1 : xs[i]? = some x := by rfl) (h2 : vs[i]? = some v := by rfl) : supObs K x = v := by
  have := congrArg (fun z : List SupV => z[i]?) e
  simp only [List.getElem?_map, h1, h2] at this
  exact Option.some.inj this
def excB (K : PySem.W.Frag) (D : Addr) : Bool := He.eqO (PySem.W.findIn K (.ref D) "__getattribute__") (some (some (.builtin "BaseException.__getattribute__"))) && (He.eqO (PySem.W.findIn K (.ref D) "__getattr__") (some none) && (decide (PySem.W.subIn K (.ref D) (.type "BaseException") = some true) && (PySem.W.hasDictIn K D && (He.eqO (PySem.W.findIn K (.ref D) "__class__") (some (some (.builtin "object.__class__"))) && (He.eqO (PySem.W.specialIn K (.builtin "object.__class__") "__get__") (some (some (.builtin "getset_descriptor.__get__"))) && (decide (PySem.W.takesIn K (.builtin "object.__class__") = some true) && decide (PySem.W.mroIn K D (.type "object") = some true)))))))
theorem excB_ok {K : PySem.W.Frag} {D : Addr} (h : excB K D = true) : ExcC K D ∧ XfC K D := by
  obtain ⟨h1, h⟩ := He.ba h
  obtain ⟨h2, h⟩ := He.ba h
  obtain ⟨h3, h⟩ := He.ba h
  obtain ⟨h4, h⟩ := He.ba h
  obtain ⟨h5, h⟩ := He.ba h
  obtain ⟨h6, h⟩ := He.ba h
  obtain ⟨h7, h8⟩ := He.ba h
  exact ⟨⟨He.eqO_ok h1, He.eqO_ok h2, of_decide_eq_true h3, h4, He.eqO_ok h5, He.eqO_ok h6, of_decide_eq_true h7, of_decide_eq_true h8⟩, ⟨He.eqO_ok h1, He.eqO_ok h2, of_decide_eq_true h3, h4⟩⟩
/-- an own exception class with the field -/
def exnB (fl q field : Str) (K : PySem.W.Frag) (C : Addr) : Bool := supB fl K C q && (He.eqO (PySem.W.findIn K (.ref C) "__init__") (some (some (.ref (He.ma K C "__init__")))) && (decide (PySem.W.typeIn K (.ref (He.ma K C "__init__")) = some (.type "function")) && (He.eqO (PySem.W.findIn K (.ref C) field) (some none) && excB K C)))
structure ExnF (K : PySem.W.Frag) (C : Addr) (q field fl : Str) : Prop where
  sup : supB fl K C q = true
  ini : PySem.W.findIn K (.ref C) "__init__" = some (some (.ref (He.ma K C "__init__")))
  ty : PySem.W.typeIn K (.ref (He.ma K C "__init__")) = some (.type "function")
  no : PySem.W.findIn K (.ref C) field = some none
  ec : ExcC K C
  xf : XfC K C
theorem exnB_ok {fl q field : Str} {K : PySem.W.Frag} {C : Addr} (h : exnB fl q field K C = true) : ExnF K C q field fl := by
  obtain ⟨h1, h⟩ := He.ba h
  obtain ⟨h2, h⟩ := He.ba h
  obtain ⟨h3, h⟩ := He.ba h
  obtain ⟨h4, h5⟩ := He.ba h
  exact ⟨h1, He.eqO_ok h2, of_decide_eq_true h3, He.eqO_ok h4, (excB_ok h5).1, (excB_ok h5).2⟩
def exmB (K : PySem.W.Frag) (a b : Addr) : Bool := decide (PySem.W.exmOne K (.ref a) (.ref b) = some true)
def kitVB (K : PySem.W.Frag) (a : Addr) (v : Value) (b : Bool) : Bool := decide (PySem.W.kitOne K (.ref a) v = some b)
end Z
set_option Elab.async false
set_option linter.all false
set_option maxRecDepth 100000
set_option maxHeartbeats 4000000
namespace Z
open PySem PySem.Spec PyProof.Rows L2
/-! ### a op b by the class's own method -/
structure Bin2 (P : Program) (w : World) (K : PySem.W.Frag) (mg : Str → Option Value) (base : Heap) (k : Nat) (C : Addr) (m : Str) (sp : Sp) : Prop where
  ex : ∃ (f : Addr) (fd : FuncData) (ps : List Str), FnOk P w K mg base CX0 k f fd ps sp ∧ PySem.W.findIn K (.ref C) m = some (some (.ref f)) ∧ PySem.W.isFn K (.ref f) = true ∧ Binds K fd ps [] ∧ PySem.W.selfFirst K C = true
def rBin (C : Addr) (sp : Sp) : R2 := fun x y H Q => ∃ a b dx dy fs gs, x = .ref a ∧ y = .ref b ∧ H a = some (.ins C dx fs) ∧ H b = some (.ins C dy gs) ∧ sp [.ref a, .ref b] H (fun v H' => ∃ p, v = .ref p ∧ Q v H') E0
theorem op_bin {X : Cx} {k j : Nat} {C : Addr} {sp : Sp} {op : Operator} (c : Bin2 X.prog X.w X.K X.mg X.base k C (PySem.dunder op.info.2) sp) (hr : Room j X.A) (hk : k ≤ j) : OpR X (binaryOp op) (rBin C sp) := by
  intro pins s σ H x y v u Q I rx ry hq
  obtain ⟨f, fd, ps, F, hs, hf, hb, sf⟩ := c.ex
  obtain ⟨a, b, dx, dy, fs, gs, rfl, rfl, ha, hb', q⟩ := hq
  cases rx
  cases ry
  obtain ⟨mA, J, _⟩ := ins_get I.hok ha
  obtain ⟨mB, J', _⟩ := ins_get I.hok hb'
  obtain ⟨od, J, _⟩ := J.look
  obtain ⟨od', J', _⟩ := J'.look
  obtain ⟨m, hF⟩ := I.fr
  refine PySem.W.binop_K hF I.ok.mod.kin J J'.type sf hs hf ?_
  have r2 : Vals [V.ref a, V.ref b] [Value.ref a, Value.ref b] := .cons rfl (.cons rfl .nil)
  refine thn (run_fn (dvs := []) F (hr.mono hk) hb .nil pass0 I r2 q) fun r s' z => ?_
  obtain ⟨v, H', I', rv, p, rfl, q'⟩ := z
  cases rv
  exact ⟨.ref p, H', I', rfl, q'⟩
/-! ### a op n, n an int, by the class's own method, which may raise -/
structure BinI (P : Program) (w : World) (K : PySem.W.Frag) (mg : Str → Option Value) (base : Heap) (k : Nat) (C : Addr) (op : Operator) (sp : Sp) : Prop where
  ex : ∃ (f : Addr) (fd : FuncData) (ps : List Str) (fo ro : Option Value), FnOk P w K mg base (L2.CX P w) k f fd ps sp ∧ PySem.W.findIn K (.ref C) (PySem.dunder op.info.2) = some (some (.ref f)) ∧ PySem.W.isFn K (.ref f) = true ∧ Binds K fd ps [] ∧ PySem.W.selfFirst K C = true ∧
    PySem.W.findIn K (.ref C) (dunderR op.info.2) = some none ∧ PySem.W.findIn K (.type "int") (PySem.dunder op.info.2) = some fo ∧ PySem.W.findIn K (.type "int") (dunderR op.info.2) = some ro ∧ PySem.W.subIn K (.type "int") (.ref C) = some false
def tOpE (C : Addr) (sp : Sp) (E : L2.St → XK) (ta tb : TE) : TE := fun σ H Q => ta σ H fun x H1 => tb σ H1 fun y H2 => ∃ a n dx fs, x = .ref a ∧ y = .int n ∧ H2 a = some (.ins C dx fs) ∧ sp [.ref a, .int n] H2 (fun v H' => ∃ p, v = .ref p ∧ Q v H') (E σ)
theorem pe_opE {X : Cx} {k j : Nat} {C : Addr} {sp : Sp} {op : Operator} {E : L2.St → XK} {a b : Expr} {ta tb : TE} {pos : Pos} (c : BinI X.prog X.w X.K X.mg X.base k C op sp) (hx : ∀ σ, PassesAt (L2.CX X.prog X.w) X σ (E σ)) (hr : Room j X.A) (hk : k ≤ j) (ha : PE X a ta) (hb : PE X b tb) : PE X (.BinOp a op b pos) (tOpE C sp E ta tb) := by
  obtain ⟨f, fd, ps, fo, ro, F, hs, hf, hbi, sf, hr0, h1, h2, hsub⟩ := c.ex
  refine ⟨fun pins s σ H Q I h => ?_⟩
  refine wpAny_BinOp (binT ha hb I h fun v u s2 x y H2 I2 rx ry q => ?_)
  obtain ⟨a, n, dx, fs, rfl, rfl, ea, q⟩ := q
  cases rx
  obtain ⟨tk, rfl⟩ := ry
  obtain ⟨mA, J, _⟩ := ins_get I2.hok ea
  obtain ⟨od, J, _⟩ := J.look
  obtain ⟨m, hF⟩ := I2.fr
  refine PySem.W.ksp_binT (T := "int") (fo := fo) (ro := ro) (rc := none) hF I2.ok.mod.kin J rfl sf hs hf hr0 (.inl rfl) h1 h2 hsub ?_
  refine thn (wpAny_call (run_atE (vs := [.ref a, .int n]) (us := [.ref a, .int n tk]) F hbi (hx σ) (hr.mono hk) I2 (.cons rfl (.cons ⟨_, rfl⟩ .nil)) q)) fun r s' z => ?_
  obtain ⟨v, H', I', rv, p, rfl, q'⟩ := z
  cases rv
  exact ⟨.ref p, H', I', rfl, q'⟩
end Z
set_option Elab.async false
set_option linter.all false
namespace Nd
/-! ### needs: the mathematics -/
abbrev Rs := List (Int × Option Int)
def rise (k : Int) (p : Int × Option Int) : Int := if k ≤ p.1 then 0 else match p.2 with
  | none => k - p.1
  | some h => if k < h then k - p.1 else h - p.1
def Fs (rs : Rs) (k : Int) : Int := (rs.map (rise k)).sum
/-- the pairs lie behind the edge e, one behind another with gaps, none but the last is open -/
def Good : Int → Rs → Prop
  | _, [] => True
  | e, (l, none) :: r => e < l ∧ r = []
  | e, (l, some h) :: r => e < l ∧ l < h ∧ Good h r
theorem Good.weak {e e' : Int} (h : e' ≤ e) : ∀ {rs : Rs}, Good e rs → Good e' rs
  | [], _ => trivial
  | (l, none) :: r, g => ⟨by have := g.1; omega, g.2⟩
  | (l, some x) :: r, g => ⟨by have := g.1; omega, g.2⟩
theorem Fs_nil (k : Int) : Fs [] k = 0 := rfl
theorem Fs_cons (p : Int × Option Int) (rs : Rs) (k : Int) : Fs (p :: rs) k = rise k p + Fs rs k := by
  unfold Fs
  rw [List.map_cons, List.sum_cons]
theorem Fs_append (a b : Rs) (k : Int) : Fs (a ++ b) k = Fs a k + Fs b k := by
  unfold Fs
  rw [List.map_append, List.sum_append]
theorem rise_zero {k : Int} {p : Int × Option Int} (h : k ≤ p.1) : rise k p = 0 := if_pos h
theorem rise_none {k l : Int} (h : l < k) : rise k (l, none) = k - l := if_neg (by omega : ¬ k ≤ l)
theorem rise_some {k l x : Int} (h : l < k) : rise k (l, some x) = if k < x then k - l else x - l := if_neg (by omega : ¬ k ≤ l)
theorem Fs_zero {k : Int} : ∀ {e : Int} {rs : Rs}, Good e rs → k ≤ e → Fs rs k = 0
  | _, [], _, _ => rfl
  | e, (l, none) :: r, g, h => by
    have g1 := g.1
    rw [Fs_cons, rise_zero (show k ≤ l by omega), g.2]
    rfl
  | e, (l, some x) :: r, g, h => by
    have g1 := g.1
    have g2 := g.2.1
    rw [Fs_cons, rise_zero (show k ≤ l by omega), Fs_zero g.2.2 (by omega)]
    rfl
theorem Good.drop : ∀ {e : Int} {rs : Rs} (i : Nat), Good e rs → ∃ e', Good e' (rs.drop i)
  | e, rs, 0, g => ⟨e, g⟩
  | e, [], i + 1, _ => ⟨e, trivial⟩
  | e, (l, none) :: r, i + 1, g => by
    rw [g.2]
    exact ⟨e, by simp [Good]⟩
  | e, (l, some x) :: r, i + 1, g => Good.drop i g.2.2
/-- behind a low edge that k does not pass nothing is added -/
theorem Fs_stop {rs : Rs} {e k : Int} (g : Good e rs) {i : Nat} {l : Int} {h : Option Int} (hi : rs[i]? = some (l, h)) (hk : k ≤ l) : Fs rs k = Fs (rs.take i) k := by
  obtain ⟨e', g'⟩ := g.drop i
  have hd : rs.drop i = (l, h) :: rs.drop (i + 1) := by
    obtain ⟨hlt, e1⟩ := List.getElem?_eq_some_iff.mp hi
    rw [List.drop_eq_getElem_cons hlt, e1]
  have e2 : Fs (rs.drop i) k = 0 := by
    rw [hd] at g' ⊢
    rw [Fs_cons, rise_zero hk]
    cases h with
    | none => rw [g'.2]; rfl
    | some x =>
      rw [Fs_zero g'.2.2 (by have := g'.2.1; omega)]
      rfl
  have e3 : Fs rs k = Fs (rs.take i ++ rs.drop i) k := by rw [List.take_append_drop]
  rw [e3, Fs_append, e2]
  omega
theorem Fs_take {rs : Rs} {k : Int} {i : Nat} {p : Int × Option Int} (hi : rs[i]? = some p) : Fs (rs.take (i + 1)) k = Fs (rs.take i) k + rise k p := by
  rw [List.take_add_one, hi, Fs_append]
  show _ = _
  rw [show (some p).toList = [p] from rfl, Fs_cons, Fs_nil]
  omega
theorem rise_bounds {x y l : Int} {h : Option Int} (hl : ∀ v, h = some v → l < v) (hxy : x ≤ y) : 0 ≤ rise y (l, h) - rise x (l, h) ∧ 0 ≤ rise x (l, h) := by
  unfold rise
  dsimp only
  cases h with
  | none => dsimp only; constructor <;> (repeat' split) <;> omega
  | some v =>
    have := hl v rfl
    dsimp only
    constructor <;> (repeat' split) <;> omega
/-- the sum does not fall, and it grows by at most one for one -/
theorem Fs_slope {x y : Int} (hxy : x ≤ y) : ∀ {e : Int} {rs : Rs}, Good e rs → 0 ≤ Fs rs x ∧ Fs rs x ≤ Fs rs y ∧ (Fs rs y - Fs rs x ≤ y - x) ∧ (e ≤ y → Fs rs y ≤ y - e)
  | e, [], _ => ⟨by rw [Fs_nil]; omega, by rw [Fs_nil, Fs_nil]; omega, by rw [Fs_nil, Fs_nil]; omega, fun _ => by rw [Fs_nil]; omega⟩
  | e, (l, none) :: r, g => by
    have g1 := g.1
    rw [g.2, Fs_cons, Fs_cons, Fs_nil, Fs_nil]
    unfold rise
    dsimp only
    refine ⟨?_, ?_, ?_, fun _ => ?_⟩ <;> (repeat' split) <;> omega
  | e, (l, some h) :: r, g => by
    have g1 := g.1
    have g2 := g.2.1
    obtain ⟨i1, i2, i3, i4⟩ := Fs_slope hxy g.2.2
    rw [Fs_cons, Fs_cons]
    have z1 : x ≤ h → Fs r x = 0 := fun q => Fs_zero g.2.2 q
    have z2 : y ≤ h → Fs r y = 0 := fun q => Fs_zero g.2.2 q
    by_cases hy : y ≤ h
    · have a1 := z2 hy
      have a2 := z1 (by omega)
      rw [a1, a2]
      unfold rise
      dsimp only
      refine ⟨?_, ?_, ?_, fun _ => ?_⟩ <;> (repeat' split) <;> omega
    · have a4 := i4 (by omega)
      by_cases hx : x ≤ h
      · have a2 := z1 hx
        rw [a2]
        unfold rise
        dsimp only
        refine ⟨?_, ?_, ?_, fun _ => ?_⟩ <;> (repeat' split) <;> omega
      · unfold rise
        dsimp only
        refine ⟨?_, ?_, ?_, fun _ => ?_⟩ <;> (repeat' split) <;> omega
/-- flat_point as it goes -/
def fp : Rs → Int → Int → Option Int
  | [], left, edge => some (edge + left)
  | (l, h) :: r, left, edge => if left ≤ l - edge then some (edge + left) else match h with
    | none => none
    | some x => fp r (left - (l - edge)) x
theorem fp_spec : ∀ {rs : Rs} {A E : Int}, Good (E - 1) rs → 0 ≤ A → match fp rs A E with
    | some x => E ≤ x ∧ ∀ y, E ≤ y → (A ≤ (y - E) - Fs rs y ↔ x ≤ y)
    | none => ∀ y, E ≤ y → (y - E) - Fs rs y < A
  | [], A, E, _, hA => ⟨by omega, fun y hy => by rw [Fs_nil]; constructor <;> intro h <;> omega⟩
  | (l, h) :: r, A, E, g, hA => by
    unfold fp
    by_cases c : A ≤ l - E
    · rw [if_pos c]
      refine ⟨by omega, fun y hy => ?_⟩
      by_cases yl : y ≤ l
      · have z : Fs ((l, h) :: r) y = 0 := Fs_stop g (i := 0) rfl yl
        rw [z]
        constructor <;> intro <;> omega
      · have z : Fs ((l, h) :: r) l = 0 := Fs_stop g (i := 0) rfl (Int.le_refl l)
        have s := (Fs_slope (x := l) (y := y) (by omega) g).2.2.1
        rw [z] at s
        constructor <;> intro <;> omega
    · rw [if_neg c]
      cases h with
      | none =>
        have g2 := g.2
        subst g2
        intro y hy
        rw [Fs_cons, Fs_nil]
        by_cases yl : y ≤ l
        · rw [rise_zero yl]; omega
        · rw [rise_none (by omega)]; omega
      | some x =>
        have g1 := g.1
        have g2 := g.2.1
        have ih := fp_spec (rs := r) (A := A - (l - E)) (E := x) (g.2.2.weak (by omega)) (by omega)
        dsimp only
        have low : ∀ y, E ≤ y → y < x → (y - E) - Fs ((l, some x) :: r) y < A := fun y hy hx => by
          rw [Fs_cons, Fs_zero g.2.2 (by omega)]
          by_cases yl : y ≤ l
          · rw [rise_zero yl]; omega
          · rw [rise_some (by omega), if_pos hx]; omega
        have high : ∀ y, x ≤ y → (y - E) - Fs ((l, some x) :: r) y = (y - x) - Fs r y + (l - E) := fun y hx => by
          rw [Fs_cons, rise_some (by omega), if_neg (by omega)]
          omega
        cases e : fp r (A - (l - E)) x with
        | some q =>
          rw [e] at ih
          refine ⟨by have := ih.1; omega, fun y hy => ?_⟩
          by_cases hx : y < x
          · have a := low y hy hx
            have b := ih.1
            constructor <;> intro <;> omega
          · have a := high y (by omega)
            have b := ih.2 y (by omega)
            rw [a]
            constructor
            · intro h1
              exact b.mp (by omega)
            · intro h1
              have := b.mpr h1
              omega
        | none =>
          rw [e] at ih
          intro y hy
          by_cases hx : y < x
          · exact low y hy hx
          · have a := high y (by omega)
            have b := ih y (by omega)
            omega
end Nd
set_option Elab.async false
set_option linter.all false
namespace Nd
def top : Int → Rs → Option Int
  | t, [] => some t
  | _, (_, none) :: _ => none
  | t, (l, some h) :: r => top (t + h - l) r
def bnd : Int → Rs → Int
  | t, [] => t
  | t, (l, none) :: _ => if l > t then l else t
  | t, (l, some h) :: r => bnd (t + h - l) r
/-- the last pair is open, from l on -/
def opn : Rs → Option Int
  | [] => none
  | [(l, none)] => some l
  | [(_, some _)] => none
  | _ :: q :: r => opn (q :: r)
theorem ends_spec : ∀ {rs : Rs} {e t : Int}, Good e rs → match opn rs with
    | some l => e < l ∧ bnd t rs = (if l > t + Fs rs l then l else t + Fs rs l) ∧ (∀ y, l ≤ y → Fs rs y = Fs rs l + (y - l)) ∧ top t rs = none
    | none => (∀ y, t + Fs rs y ≤ bnd t rs) ∧ top t rs = some (bnd t rs)
  | [], e, t, _ => ⟨fun y => by rw [Fs_nil]; show t + 0 ≤ t; omega, rfl⟩
  | [(l, none)], e, t, g => by
    have z : Fs [(l, none)] l = 0 := by rw [Fs_cons, rise_zero (Int.le_refl l), Fs_nil]; rfl
    refine ⟨g.1, ?_, fun y hy => ?_, rfl⟩
    · rw [z]; show (if l > t then l else t) = _; rw [Int.add_zero]
    · rw [z, Fs_cons, Fs_nil]
      by_cases h : y ≤ l
      · rw [rise_zero h]; omega
      · rw [rise_none (by omega)]; omega
  | [(l, some h)], e, t, g => by
    have g2 := g.2.1
    refine ⟨fun y => ?_, rfl⟩
    rw [Fs_cons, Fs_nil]
    show t + (rise y (l, some h) + 0) ≤ t + h - l
    unfold rise
    dsimp only
    (repeat' split) <;> omega
  | (l, none) :: q :: r, e, t, g => by
    have := g.2
    cases this
  | (l, some h) :: q :: r, e, t, g => by
    have g2 := g.2.1
    have ih := ends_spec (rs := q :: r) (e := h) (t := t + h - l) g.2.2
    show match opn (q :: r) with
      | some l' => _
      | none => _
    cases c : opn (q :: r) with
    | some l' =>
      rw [c] at ih
      obtain ⟨i1, i2, i3, i4⟩ := ih
      have e1 : ∀ y, h ≤ y → Fs ((l, some h) :: q :: r) y = (h - l) + Fs (q :: r) y := fun y hy => by
        rw [Fs_cons, rise_some (by omega), if_neg (by omega)]
      have g1 := g.1
      refine ⟨by omega, ?_, fun y hy => ?_, i4⟩
      · show bnd (t + h - l) (q :: r) = _
        rw [i2, e1 l' (by omega)]
        rw [show t + h - l + Fs (q :: r) l' = t + (h - l + Fs (q :: r) l') by omega]
      · rw [e1 y (by omega), e1 l' (by omega), i3 y hy]
        omega
    | none =>
      rw [c] at ih
      refine ⟨fun y => ?_, ih.2⟩
      have := ih.1 y
      rw [Fs_cons]
      show t + (rise y (l, some h) + Fs (q :: r) y) ≤ bnd (t + h - l) (q :: r)
      have b : rise y (l, some h) ≤ h - l := by
        unfold rise
        dsimp only
        (repeat' split) <;> omega
      omega
def val (st : Option Int) (rs : Rs) (nv : Option Int) (k : Option Int) : Option Int := match st, k with
  | some s, some k => some (s + Fs rs k)
  | _, _ => nv
/-- the greatest x with f(x) ≥ x; the least with f(x) ≤ x -/
def grt (s : Int) (rs : Rs) : Option Int := (fp rs (s + 1) 0).map (· - 1)
def lst (s : Int) (rs : Rs) : Option Int := fp rs s 0
theorem lst_spec {s : Int} {rs : Rs} (g : Good (-1) rs) (hs : 0 ≤ s) : match lst s rs with
    | some x => 0 ≤ x ∧ ∀ y, 0 ≤ y → (s + Fs rs y ≤ y ↔ x ≤ y)
    | none => ∀ y, 0 ≤ y → y < s + Fs rs y := by
  have h := fp_spec (rs := rs) (A := s) (E := 0) g hs
  unfold lst
  cases e : fp rs s 0 with
  | some x =>
    rw [e] at h
    refine ⟨h.1, fun y hy => ?_⟩
    have := h.2 y hy
    constructor
    · intro z
      exact this.mp (by omega)
    · intro z
      have := this.mpr z
      omega
  | none =>
    rw [e] at h
    intro y hy
    have := h y hy
    omega
theorem grt_spec {s : Int} {rs : Rs} (g : Good (-1) rs) (hs : 0 ≤ s) : match grt s rs with
    | some x => 0 ≤ x ∧ ∀ y, 0 ≤ y → (y ≤ s + Fs rs y ↔ y ≤ x)
    | none => ∀ y, 0 ≤ y → y ≤ s + Fs rs y := by
  have h := fp_spec (rs := rs) (A := s + 1) (E := 0) g (by omega)
  unfold grt
  cases e : fp rs (s + 1) 0 with
  | some x =>
    rw [e] at h
    have pos := h.2 0 (by omega)
    have z0 := (Fs_slope (x := 0) (y := 0) (by omega) g).1
    have x1 : ¬ x ≤ 0 := fun z => by
      have := pos.mpr z
      omega
    show 0 ≤ x - 1 ∧ ∀ y, 0 ≤ y → (y ≤ s + Fs rs y ↔ y ≤ x - 1)
    refine ⟨by omega, fun y hy => ?_⟩
    have := h.2 y hy
    constructor
    · intro z
      apply Decidable.byContradiction
      intro q
      have := this.mpr (by omega)
      omega
    · intro z
      apply Decidable.byContradiction
      intro q
      have := this.mp (by omega)
      omega
  | none =>
    rw [e] at h
    intro y hy
    have := h y hy
    omega
theorem grt_none {s l : Int} {rs : Rs} (g : Good (-1) rs) (hs : 0 ≤ s) (ho : opn rs = some l) (hl : l ≤ s + Fs rs l) : grt s rs = none := by
  have h := grt_spec g hs
  have e := ends_spec (t := s) g
  rw [ho] at e
  cases c : grt s rs with
  | none => rfl
  | some x =>
    rw [c] at h
    exfalso
    have h1 := h.2 (max l (x + 1)) (by omega)
    have h2 := e.2.2.1 (max l (x + 1)) (by omega)
    have h3 := h1.mp (by omega)
    omega
theorem lst_none {s l : Int} {rs : Rs} (g : Good (-1) rs) (hs : 0 ≤ s) (ho : opn rs = some l) (hl : l < s + Fs rs l) : lst s rs = none := by
  have h := lst_spec g hs
  have e := ends_spec (t := s) g
  rw [ho] at e
  cases c : lst s rs with
  | none => rfl
  | some x =>
    rw [c] at h
    exfalso
    have h1 := h.2 (max l x) (by omega)
    have h2 := e.2.2.1 (max l x) (by omega)
    have h3 := h1.mpr (by omega)
    omega
/-- where the search for the greatest one begins -/
theorem grt_top {s : Int} {rs : Rs} (g : Good (-1) rs) (hs : 0 ≤ s) (hn : ∀ l, opn rs = some l → ¬ l ≤ s + Fs rs l) : s + Fs rs (bnd s rs + 1) < bnd s rs + 1 ∧ 0 ≤ bnd s rs := by
  have e := ends_spec (t := s) g
  have z0 := (Fs_slope (x := 0) (y := 0) (by omega) g).1
  cases c : opn rs with
  | some l =>
    rw [c] at e
    have h1 := hn l c
    obtain ⟨e1, e2, e3, e4⟩ := e
    rw [if_pos (by omega)] at e2
    rw [e2, e3 (l + 1) (by omega)]
    omega
  | none =>
    rw [c] at e
    have h1 := e.1 (bnd s rs + 1)
    have h2 := e.1 0
    omega
theorem lst_top {s : Int} {rs : Rs} (g : Good (-1) rs) (hs : 0 ≤ s) (hn : ∀ l, opn rs = some l → ¬ l < s + Fs rs l) : s + Fs rs (bnd s rs) ≤ bnd s rs ∧ 0 ≤ bnd s rs := by
  have e := ends_spec (t := s) g
  have z0 := (Fs_slope (x := 0) (y := 0) (by omega) g).1
  cases c : opn rs with
  | some l =>
    rw [c] at e
    have h1 := hn l c
    obtain ⟨e1, e2, e3, e4⟩ := e
    by_cases q : l > s + Fs rs l
    · rw [if_pos q] at e2
      rw [e2]
      omega
    · rw [if_neg q] at e2
      have q2 : s + Fs rs l = l := by omega
      rw [e2, q2]
      omega
  | none =>
    rw [c] at e
    have h1 := e.1 (bnd s rs)
    have h2 := e.1 0
    omega
theorem grt_is {s x : Int} {rs : Rs} (g : Good (-1) rs) (hs : 0 ≤ s) (h0 : 0 ≤ x) (h1 : x ≤ s + Fs rs x) (h2 : s + Fs rs (x + 1) < x + 1) : grt s rs = some x := by
  have h := grt_spec g hs
  cases c : grt s rs with
  | none =>
    rw [c] at h
    have := h (x + 1) (by omega)
    omega
  | some y =>
    rw [c] at h
    have a := (h.2 x h0).mp h1
    have b : ¬ x + 1 ≤ y := fun z => by
      have := (h.2 (x + 1) (by omega)).mpr z
      omega
    rw [show y = x by omega]
theorem lst_is {s x : Int} {rs : Rs} (g : Good (-1) rs) (hs : 0 ≤ s) (h0 : 0 ≤ x) (h1 : s + Fs rs x ≤ x) (h2 : x = 0 ∨ x - 1 < s + Fs rs (x - 1)) : lst s rs = some x := by
  have h := lst_spec g hs
  cases c : lst s rs with
  | none =>
    rw [c] at h
    have := h x h0
    omega
  | some y =>
    rw [c] at h
    have a := (h.2 x h0).mp h1
    have b := h.1
    rcases h2 with z | z
    · rw [show y = x by omega]
    · by_cases hx : x = 0
      · rw [show y = x by omega]
      · have d : ¬ y ≤ x - 1 := fun q => by
          have := (h.2 (x - 1) (by omega)).mpr q
          omega
        rw [show y = x by omega]
end Nd
set_option Elab.async false
set_option linter.all false
set_option maxRecDepth 100000
set_option maxHeartbeats 4000000
namespace Z
open PySem PySem.Spec PyProof.Rows L2 Nd
/-! ### None or a number; pairs; lists of pairs -/
def oV : Option Int → V
  | none => .non
  | some i => .int i
theorem oV_non {o : Option Int} : decide (oV o = V.non) = o.isNone := by cases o <;> rfl
def Ris (b c : Bool) (K : PySem.W.Frag) (H : Hp) (a : Addr) (ps : List Addr) (rs : Rs) : Prop := SqK b K H a (ps.map V.ref) ∧ ps.length = rs.length ∧ ∀ (i : Nat) (p : Addr) (q : Int × Option Int), ps[i]? = some p → rs[i]? = some q → SqK c K H p [.int q.1, oV q.2]
theorem Ris.mono {b c : Bool} {K : PySem.W.Frag} {H H' : Hp} {a : Addr} {ps : List Addr} {rs : Rs} (s : Same H H') (r : Ris b c K H a ps rs) : Ris b c K H' a ps rs := ⟨Z.Same.sqK s r.1, r.2.1, fun i p q h1 h2 => Z.Same.sqK s (r.2.2 i p q h1 h2)⟩
theorem _root_.Z.SqK.or {b : Bool} {K : PySem.W.Frag} {H : Hp} {a : Addr} {xs : List V} (h : SqK b K H a xs) : SqL K H a xs ∨ SqT K H a xs := by
  cases b
  · exact .inr h
  · exact .inl h
/-! ### what is walked: a list or a tuple -/
inductive Eor (A B : Prop) : Prop
  | l : A → Eor A B
  | r : B → Eor A B
def iOr (a b : TI) : TI := fun σ H R => Eor (a σ H R) (b σ H R)
theorem pi_or {X : Cx} {tg e : Expr} {a b : TI} (h1 : PI X tg e a) (h2 : PI X tg e b) : PI X tg e (iOr a b) := by
  constructor
  intro pins s σ H R I h
  rcases h with h | h
  · exact h1.run pins s σ H R I h
  · exact h2.run pins s σ H R I h
theorem pi_seq {X : Cx} {tg l : Expr} {tl : TE} (h : PE X l tl) : PI X tg l (iOr (iList X.K tl) (iTup X.K tl)) := pi_or (pi_list h) (pi_tup h)
def ItS (b : Bool) (K : PySem.W.Frag) (a : Addr) : It := match b with
  | true => Itl K a
  | false => Itt K a
theorem its_go {b : Bool} {K : PySem.W.Frag} {H : Hp} {a : Addr} {xs : List V} {i : Nat} {x : V} (h : SqK b K H a xs) (e : xs[i]? = some x) : (ItS b K a).go i H := by
  cases b
  · exact ⟨_, _, h, e⟩
  · exact ⟨_, _, h, e⟩
theorem its_stop {b : Bool} {K : PySem.W.Frag} {H : Hp} {a : Addr} {xs : List V} {i : Nat} (h : SqK b K H a xs) (e : xs.length ≤ i) : (ItS b K a).stop i H := by
  cases b
  · exact ⟨_, h, e⟩
  · exact ⟨_, h, e⟩
theorem its_yld {b : Bool} {K : PySem.W.Frag} {H H' : Hp} {a : Addr} {xs : List V} {i : Nat} {x : V} (h : SqK b K H a xs) (y : (ItS b K a).yld i H x H') : H' = H ∧ xs[i]? = some x := by
  cases b
  · exact ⟨y.1, y.2 _ h⟩
  · exact ⟨y.1, y.2 _ h⟩
theorem iSeq_of {b : Bool} {K : PySem.W.Frag} {σ : L2.St} {H : Hp} {tl : TE} {R : It → Hp → Prop} {a : Addr} {xs : List V} (h : ∀ Q : VK, Q (.ref a) H → tl σ H Q) (hs : SqK b K H a xs) (q : R (ItS b K a) H) : iOr (iList K tl) (iTup K tl) σ H R := by
  cases b
  · exact .r (h _ ⟨a, rfl, ⟨_, hs⟩, q⟩)
  · exact .l (h _ ⟨a, rfl, ⟨_, hs⟩, q⟩)
abbrev gPair (K : PySem.W.Frag) (i j : Nat) : TG := gOr (gUnl K 2 (gCons (gName i) (gCons (gName j) gNil))) (gTup K 2 (gCons (gName i) (gCons (gName j) gNil)))
theorem gpair_of {c : Bool} {K : PySem.W.Frag} {i j : Nat} {p : Addr} {x y : V} {σ : L2.St} {H : Hp} {Q : L2.St → Hp → Prop} (h : SqK c K H p [x, y]) (q : Q ((σ.set i (some x)).set j (some y)) H) : gPair K i j (.ref p) σ H Q := by
  cases c
  · exact .inr ⟨p, _, rfl, h, rfl, x, [y], rfl, y, [], rfl, rfl, q⟩
  · exact .inl ⟨p, _, rfl, h, rfl, x, [y], rfl, y, [], rfl, rfl, q⟩
/-- for low, high in rises, the list standing still -/
theorem for_pairs {b c : Bool} {K : PySem.W.Frag} {a : Addr} {ps : List Addr} {rs : Rs} {H0 : Hp} {i1 i2 j : Nat} {tb : TS} {D : Ends} {σ : L2.St} {H : Hp} (hR : Ris b c K H0 a ps rs) (s0 : Same H0 H) (hj : σ[j]? = some (some (.ref a))) (Pv : Nat → L2.St → Hp → Prop) (h0 : Pv 0 σ H) (hq : ∀ i σ H1, Pv i σ H1 → Same H0 H1)
    (hs : ∀ (i : Nat) (l : Int) (h : Option Int) (σ : L2.St) (H1 : Hp), rs[i]? = some (l, h) → Pv i σ H1 → tb { D with nx := Pv (i + 1), ct := Pv (i + 1), bk := D.nx } ((σ.set i1 (some (.int l))).set i2 (some (oV h))) H1)
    (hd : ∀ σ H1, Pv rs.length σ H1 → D.nx σ H1) : tFor (iOr (iList K (tVar j)) (iTup K (tVar j))) (gPair K i1 i2) tb D σ H := by
  refine iSeq_of (b := b) (fun Q q => ⟨_, hj, q⟩) (Z.Same.sqK s0 hR.1) ?_
  refine for_gen (n := rs.length) Pv h0 ?_ ?_ ?_ hd
  · intro i σ1 H1 hi p
    have hi2 : i < ps.length := by rw [hR.2.1]; exact hi
    exact its_go (x := .ref ps[i]) (Z.Same.sqK (hq i σ1 H1 p) hR.1) (by rw [List.getElem?_map, List.getElem?_eq_getElem hi2]; rfl)
  · intro σ1 H1 p
    exact its_stop (Z.Same.sqK (hq _ σ1 H1 p) hR.1) (by rw [List.length_map, hR.2.1]; exact Nat.le_refl _)
  · intro i σ1 H1 x H' hi p y
    have s1 := hq i σ1 H1 p
    obtain ⟨rfl, ex⟩ := its_yld (Z.Same.sqK s1 hR.1) y
    obtain ⟨q, eq, rfl⟩ := of_map ex
    have er : rs[i]? = some (rs[i].1, rs[i].2) := List.getElem?_eq_getElem hi
    exact gpair_of (Z.Same.sqK s1 (hR.2.2 i q _ eq er)) (hs i _ _ σ1 H' er p)
abbrev FnM (K : PySem.W.Frag) (x q : Str) (st : Stmt) (f : Addr) (fd : FuncData) : Prop := FunD K x q (defArgs st) (defBody st) (defScope st) [] [] f fd
theorem fnr_of {P : Program} {w : World} {K : PySem.W.Frag} {mg : Str → Option Value} {base : Heap} {k : Nat} {f : Addr} {fd : FuncData} {ps : List Str} {sp : Sp} (F : FnOk P w K mg base CX0 k f fd ps sp) (b : Binds K fd ps []) : FnR P w K mg base CX0 k f sp := (FnOk.raw (dvs := []) F b .nil).imp fun vs H Q E h => by
  show sp (vs ++ []) H Q E
  rw [List.append_nil]
  exact h
theorem relv_ref {a : Addr} : L2.RelV (.ref a) (.ref a) := rfl
/-- an if that only guards -/
theorem cut_stay {t u : TS} {D : Ends} {σ : L2.St} {H : Hp} (h : t { D with nx := fun σ' H' => σ' = σ ∧ H' = H } σ H) (h2 : u D σ H) : C8.tCut t u D σ H := ⟨_, h, fun σ' H' z => by
  obtain ⟨rfl, rfl⟩ := z
  exact h2⟩
/-- the fields of a need -/
def NeedAt (C : Addr) (K : PySem.W.Frag) (H : Hp) (n : Addr) (st : Option Int) (rs : Rs) (nv : Option Int) : Prop := ∃ dx r ps, H n = some (.ins C dx [("start", oV st), ("rises", .ref r), ("never", oV nv)]) ∧ Ris false false K H r ps rs ∧ H r = some (.tup (ps.map V.ref))
theorem NeedAt.mono {C : Addr} {K : PySem.W.Frag} {H H' : Hp} {n : Addr} {st nv : Option Int} {rs : Rs} (s : Same H H') (h : NeedAt C K H n st rs nv) : NeedAt C K H' n st rs nv := by
  obtain ⟨dx, r, ps, e, h2, h3⟩ := h
  exact ⟨dx, r, ps, s _ _ e, h2.mono s, s _ _ h3⟩
/-- for pair in rises, a tuple standing still -/
theorem for_prs {c : Bool} {K : PySem.W.Frag} {a : Addr} {ps : List Addr} {rs : Rs} {H0 : Hp} {i1 : Nat} {tb : TS} {D : Ends} {σ : L2.St} {H : Hp} (hR : Ris false c K H0 a ps rs) (Pv : Nat → L2.St → Hp → Prop) (h0 : Pv 0 σ H) (hq : ∀ i σ H1, Pv i σ H1 → Same H0 H1)
    (hs : ∀ (i : Nat) (p : Addr) (l : Int) (h : Option Int) (σ : L2.St) (H1 : Hp), rs[i]? = some (l, h) → SqK c K H1 p [.int l, oV h] → Pv i σ H1 → tb { D with nx := Pv (i + 1), ct := Pv (i + 1), bk := D.nx } (σ.set i1 (some (.ref p))) H1)
    (hd : ∀ σ H1, Pv rs.length σ H1 → D.nx σ H1) : forW (Itt K a) (gName i1) tb D σ H := by
  refine for_gen (n := rs.length) Pv h0 ?_ ?_ ?_ hd
  · intro i σ1 H1 hi p
    have hi2 : i < ps.length := by rw [hR.2.1]; exact hi
    exact its_go (b := false) (x := .ref ps[i]) (Z.Same.sqK (hq i σ1 H1 p) hR.1) (by rw [List.getElem?_map, List.getElem?_eq_getElem hi2]; rfl)
  · intro σ1 H1 p
    exact its_stop (b := false) (Z.Same.sqK (hq _ σ1 H1 p) hR.1) (by rw [List.length_map, hR.2.1]; exact Nat.le_refl _)
  · intro i σ1 H1 x H' hi p y
    have s1 := hq i σ1 H1 p
    obtain ⟨rfl, ex⟩ := its_yld (b := false) (Z.Same.sqK s1 hR.1) y
    obtain ⟨q, eq, rfl⟩ := of_map ex
    have er : rs[i]? = some (rs[i].1, rs[i].2) := List.getElem?_eq_getElem hi
    exact hs i q _ _ σ1 H' er (Z.Same.sqK s1 (hR.2.2 i q _ eq er)) p
end Z
set_option pp.maxSteps 700
set_option Elab.async false
set_option linter.all false
set_option maxRecDepth 100000
set_option maxHeartbeats 4000000
namespace Z
open Nd
open PySem PySem.Spec PyProof.Rows L2
open C8 (pss_cut tCut)
local macro_rules | `(tactic| walk_at "num") => `(tactic| first | rfl | omega | decide | exact Nat.le_of_lt (small1000 (by simp)) | exact ⟨by omega, by omega⟩ | exact ⟨by omega, by omega, by omega⟩ | exact ⟨by decide, by decide, by decide⟩ | exact Or.inl ⟨by omega, by omega⟩ | exact Or.inr ⟨by omega, by omega⟩)
local macro_rules | `(tactic| walk_at "go") => `(tactic| repeat (first | refine ⟨_, rfl, ?_⟩ | refine ⟨_, _, rfl, rfl, ?_⟩ | refine ⟨_, _, rfl, ?_⟩ | refine ⟨_, _, rfl, rfl, (by walk_at "num"), ?_⟩ | refine Or.inl ⟨_, rfl, ?_⟩ | refine ⟨_, _, _, _, rfl, rfl, (by assumption), (by rfl), ?_⟩ | refine ⟨_, _, _, _, _, rfl, (by assumption), (by assumption), (by assumption), (by rfl), ?_⟩ | refine ⟨rfl, ?_⟩ | refine And.intro (by walk_at "num") ?_))
abbrev s_value_at : Stmt := topS 7
abbrev N_value_at : List Str := ["start", "rises", "k", "value", "low", "high", "top"]
abbrev P_value_at : List Str := ["start", "rises", "k"]
theorem sc_value_at : FnScope N_value_at P_value_at (defScope s_value_at) := ⟨rfl, rfl, rfl, by decide +kernel, rfl, by decide +kernel, by decide +kernel⟩
abbrev s_greatest_value : Stmt := topS 18
abbrev N_greatest_value : List Str := ["start", "rises", "top", "edge", "low", "high"]
abbrev P_greatest_value : List Str := ["start", "rises"]
theorem sc_greatest_value : FnScope N_greatest_value P_greatest_value (defScope s_greatest_value) := ⟨rfl, rfl, rfl, by decide +kernel, rfl, by decide +kernel, by decide +kernel⟩
abbrev s_flat_point : Stmt := topS 14
abbrev N_flat_point : List Str := ["rises", "amount", "left", "edge", "low", "high"]
abbrev P_flat_point : List Str := ["rises", "amount"]
theorem sc_flat_point : FnScope N_flat_point P_flat_point (defScope s_flat_point) := ⟨rfl, rfl, rfl, by decide +kernel, rfl, by decide +kernel, by decide +kernel⟩
abbrev s_Need___init__ : Stmt := inClass (topS 19) 0
abbrev N_Need___init__ : List Str := ["self", "start", "rises", "never", "top", "low", "high"]
abbrev P_Need___init__ : List Str := ["self", "start", "rises", "never"]
theorem sc_Need___init__ : FnScope N_Need___init__ P_Need___init__ (defScope s_Need___init__) := ⟨rfl, rfl, rfl, by decide +kernel, rfl, by decide +kernel, by decide +kernel⟩
abbrev s_Need_value_for : Stmt := inClass (topS 19) 1
abbrev N_Need_value_for : List Str := ["self", "k"]
abbrev P_Need_value_for : List Str := ["self", "k"]
theorem sc_Need_value_for : FnScope N_Need_value_for P_Need_value_for (defScope s_Need_value_for) := ⟨rfl, rfl, rfl, by decide +kernel, rfl, by decide +kernel, by decide +kernel⟩
abbrev s_Need___call__ : Stmt := inClass (topS 19) 2
abbrev N_Need___call__ : List Str := ["self", "needed"]
abbrev P_Need___call__ : List Str := ["self", "needed"]
theorem sc_Need___call__ : FnScope N_Need___call__ P_Need___call__ (defScope s_Need___call__) := ⟨rfl, rfl, rfl, by decide +kernel, rfl, by decide +kernel, by decide +kernel⟩
abbrev s_Need___eq__ : Stmt := inClass (topS 19) 3
abbrev N_Need___eq__ : List Str := ["self", "other"]
abbrev P_Need___eq__ : List Str := ["self", "other"]
theorem sc_Need___eq__ : FnScope N_Need___eq__ P_Need___eq__ (defScope s_Need___eq__) := ⟨rfl, rfl, rfl, by decide +kernel, rfl, by decide +kernel, by decide +kernel⟩
abbrev s_Need_mine : Stmt := inClass (topS 19) 9
abbrev N_Need_mine : List Str := ["self", "point", "rises"]
abbrev P_Need_mine : List Str := ["self"]
theorem sc_Need_mine : FnScope N_Need_mine P_Need_mine (defScope s_Need_mine) := ⟨rfl, rfl, rfl, by decide +kernel, rfl, by decide +kernel, by decide +kernel⟩
abbrev s_Need_theirs : Stmt := inClass (topS 19) 10
abbrev N_Need_theirs : List Str := ["self", "point"]
abbrev P_Need_theirs : List Str := ["self"]
theorem sc_Need_theirs : FnScope N_Need_theirs P_Need_theirs (defScope s_Need_theirs) := ⟨rfl, rfl, rfl, by decide +kernel, rfl, by decide +kernel, by decide +kernel⟩
abbrev s_Need_endless : Stmt := inClass (topS 19) 11
abbrev N_Need_endless : List Str := ["self", "point"]
abbrev P_Need_endless : List Str := ["self"]
theorem sc_Need_endless : FnScope N_Need_endless P_Need_endless (defScope s_Need_endless) := ⟨rfl, rfl, rfl, by decide +kernel, rfl, by decide +kernel, by decide +kernel⟩
section
variable {P : Program} {w : World} {K : PySem.W.Frag} {mg : Str → Option Value} {base : Heap} {f C : Addr} {fd : FuncData}
/-! ### value_at -/
def spValueAt (K : PySem.W.Frag) : Sp := fun vs H Q _ => ∃ (b c : Bool) (s k : Int) (r : Addr) (ps : List Addr) (rs : Rs), vs = [.int s, .ref r, .int k] ∧ Ris b c K H r ps rs ∧ Good (-1) rs ∧ Q (.int (s + Fs rs k)) H
theorem ok_value_at (F : FnP K "value_at" s_value_at f fd) : FnOk P w K mg base CX0 1 f fd P_value_at (spValueAt K) := by
  refine F.ok sc_value_at (fun vs H Q E h => ?_) (fun cdv A outer s H vs Q E hr h => ?_)
  · obtain ⟨b, c, s, k, r, ps, rs, rfl, _⟩ := h
    rfl
  · obtain ⟨b, c, s, k, r, ps, rs, rfl, hR, hg, q⟩ := h
    refine ⟨_, PSs.nox (pss_cons (ps_set (i := 3) sc_value_at.nd rfl (by first | exact .inl rfl | exact .inr rfl) (pv 0))
      (pss_cons (ps_for PassesOwn.never rfl (pi_seq (pv 1)) (pg_or (pg_unl rfl (pgs_cons (pg_name (i := 4) sc_value_at.nd rfl (by first | exact .inl rfl | exact .inr rfl)) (pgs_cons (pg_name (i := 5) sc_value_at.nd rfl (by first | exact .inl rfl | exact .inr rfl)) pgs_nil))) (pg_tup rfl (pgs_cons (pg_name (i := 4) sc_value_at.nd rfl (by first | exact .inl rfl | exact .inr rfl)) (pgs_cons (pg_name (i := 5) sc_value_at.nd rfl (by first | exact .inl rfl | exact .inr rfl)) pgs_nil))))
        (pss_cons (ps_if (pt_cmpR op_le (pv 2) (pv 4) (nomark _)) (pss_one ps_break) pss_nil)
      (pss_cons (ps_set (i := 6) sc_value_at.nd rfl (by first | exact .inl rfl | exact .inr rfl) (pe_ifExp (PW.pt (pw_or (pt_cmpR op_isN (pv 5) pe_non (nomark _)) (pw_or1 (pt_cmpR op_lt (pv 2) (pv 5) (nomark _))))) (pv 2) (pv 5)))
      (pss_one (ps_set (i := 3) sc_value_at.nd rfl (by first | exact .inl rfl | exact .inr rfl) (pe_op op_sub (pe_op op_add (pv 3) (pv 6)) (pv 4)))))))
      (pss_one (ps_ret (pv 3))))), ?_⟩
    walk_at "go"
    refine for_pairs (j := 1) hR (Same.refl H) (by rfl) (fun i σ H1 => H1 = H ∧ ∃ (x : Int) (v4 v5 v6 : Option V), x = s + Fs (rs.take i) k ∧ σ = [some (.int s), some (.ref r), some (.int k), some (.int x), v4, v5, v6]) ⟨rfl, s, none, none, none, ?_, rfl⟩ ?_ ?_ ?_
    · rw [List.take_zero, Fs_nil, Int.add_zero]
    · rintro i σ H1 ⟨rfl, _⟩
      exact Same.refl _
    · rintro i l h σ H1 hi ⟨rfl, x, v4, v5, v6, ex, rfl⟩
      walk_at "go"
      refine ite2 (fun e => ?_) (fun e => ?_)
      · have hk : k ≤ l := of_decide_eq_true e
        refine ⟨_, rfl, ?_⟩
        rw [ex, ← Fs_stop hg hi hk]
        exact q
      · have hk : ¬ k ≤ l := fun z => e (decide_eq_true z)
        have et := Fs_take (k := k) hi
        cases h with
        | none =>
          rw [rise_none (by omega)] at et
          walk_at "go"
          refine ⟨_, _, _, _, ?_, rfl⟩
          omega
        | some y =>
          rw [rise_some (by omega)] at et
          walk_at "go"
          refine ite2 (fun e2 => ?_) (fun e2 => ?_)
          · have hx : k < y := of_decide_eq_true e2
            rw [if_pos hx] at et
            walk_at "go"
            refine ⟨_, _, _, _, ?_, rfl⟩
            omega
          · have hx : ¬ k < y := fun z => e2 (decide_eq_true z)
            rw [if_neg hx] at et
            walk_at "go"
            refine ⟨_, _, _, _, ?_, rfl⟩
            omega
    · rintro σ H1 ⟨rfl, x, v4, v5, v6, ex, rfl⟩
      rw [List.take_length] at ex
      walk_at "go"
      rw [ex]
      exact q
/-! ### greatest_value -/
def tops : Option Int → Rs → Option Int
  | none, _ => none
  | some s, rs => top s rs
def Fit : Option Int → Rs → Prop
  | none, rs => rs = []
  | some _, rs => Good (-1) rs
def spGreatest (K : PySem.W.Frag) : Sp := fun vs H Q _ => ∃ (b c : Bool) (st : Option Int) (r : Addr) (ps : List Addr) (rs : Rs), vs = [oV st, .ref r] ∧ Ris b c K H r ps rs ∧ Fit st rs ∧ Q (oV (tops st rs)) H
theorem ok_greatest_value (F : FnP K "greatest_value" s_greatest_value f fd) (m_len : mg "len" = none) : FnOk P w K mg base CX0 1 f fd P_greatest_value (spGreatest K) := by
  refine F.ok sc_greatest_value (fun vs H Q E h => ?_) (fun cdv A outer s H vs Q E hr h => ?_)
  · obtain ⟨b, c, st, r, ps, rs, rfl, _⟩ := h
    rfl
  · obtain ⟨b, c, st, r, ps, rs, rfl, hR, hg, q⟩ := h
    refine ⟨_, PSs.nox (pss_cons (ps_if (pt_cmpR op_isN (pv 0) pe_non (nomark _)) (pss_cons (ps_if (pt_cmpR op_gt (pe_callB call_len_seq (by rfl) m_len PySem.boot_len (pa_cons (pv 1) pa_nil)) pe_int (nomark _)) (pss_one ps_never) pss_nil)
      (pss_one (ps_ret pe_non))) pss_nil)
      (pss_cons (ps_par (i := 2) (j := 3) (by rfl) sc_greatest_value.nd rfl rfl (by decide) rfl rfl (pa_cons (pv 0) (pa_cons (pe_un un_neg pe_int) pa_nil)) (by rfl))
      (pss_cons (ps_for PassesOwn.never rfl (pi_seq (pv 1)) (pg_or (pg_unl rfl (pgs_cons (pg_name (i := 4) sc_greatest_value.nd rfl (by first | exact .inl rfl | exact .inr rfl)) (pgs_cons (pg_name (i := 5) sc_greatest_value.nd rfl (by first | exact .inl rfl | exact .inr rfl)) pgs_nil))) (pg_tup rfl (pgs_cons (pg_name (i := 4) sc_greatest_value.nd rfl (by first | exact .inl rfl | exact .inr rfl)) (pgs_cons (pg_name (i := 5) sc_greatest_value.nd rfl (by first | exact .inl rfl | exact .inr rfl)) pgs_nil))))
        (pss_cons (ps_if (PW.pt (pw_or (pt_cmpR op_isN (pv 3) pe_non (nomark _)) (pw_or (pt_cmpR op_le (pv 4) (pv 3) (nomark _)) (pw_or1 (PW.pt (pw_and (pt_cmpR op_notN (pv 5) pe_non (nomark _)) (pw_and1 (pt_cmpR op_le (pv 5) (pv 4) (nomark _))))))))) (pss_one ps_never) pss_nil)
      (pss_cons (ps_set (i := 2) sc_greatest_value.nd rfl (by first | exact .inl rfl | exact .inr rfl) (pe_ifExp (pt_cmpR op_isN (pv 5) pe_non (nomark _)) pe_non (pe_op op_sub (pe_op op_add (pv 2) (pv 5)) (pv 4))))
      (pss_one (ps_set (i := 3) sc_greatest_value.nd rfl (by first | exact .inl rfl | exact .inr rfl) (pv 5))))))
      (pss_one (ps_ret (pv 2)))))), ?_⟩
    cases st with
    | none =>
      have hg : rs = [] := hg
      subst hg
      walk_at "go"
      refine ⟨r, _, rfl, hR.1.or, ?_⟩
      walk_at "go"
      have e0 : ps = [] := List.length_eq_zero_iff.mp hR.2.1
      subst e0
      walk_at "go"
      refine ite2 (fun e => ?_) (fun e => ?_)
      · cases e
      walk_at "go"
      exact q
    | some s =>
      have hg : Good (-1) rs := hg
      walk_at "go"
      refine for_pairs (j := 1) hR (Same.refl H) (by rfl) (fun i σ H1 => H1 = H ∧ ∃ (t e : Option Int) (v4 v5 : Option V), σ = [some (.int s), some (.ref r), some (oV t), some (oV e), v4, v5] ∧ match t, e with
        | some t, some e => Good e (rs.drop i) ∧ top t (rs.drop i) = top s rs
        | t, none => rs.drop i = [] ∧ t = none ∧ top s rs = none
        | none, some e => False) ⟨rfl, some s, some (-1), none, none, rfl, hg, rfl⟩ ?_ ?_ ?_
      · rintro i σ H1 ⟨rfl, _⟩
        exact Same.refl _
      · rintro i l h σ H1 hi ⟨rfl, t, e, v4, v5, rfl, z⟩
        have hd : rs.drop i = (l, h) :: rs.drop (i + 1) := by
          rw [List.drop_eq_getElem?_toList_append, hi]
          rfl
        rw [hd] at z
        cases e with
        | none => cases t <;> cases z.1
        | some e =>
          cases t with
          | none => cases z
          | some t =>
            obtain ⟨z1, z2⟩ := z
            have z0 : e < l := by cases h <;> exact z1.1
            walk_at "go"
            refine ite2 (fun e => ?_) (fun e => ?_)
            · have := of_decide_eq_true e
              omega
            · cases h with
              | none =>
                walk_at "go"
                exact ⟨none, none, _, _, rfl, z1.2, rfl, z2.symm⟩
              | some y =>
                walk_at "go"
                refine ite2 (fun e => ?_) (fun e => ?_)
                · have := of_decide_eq_true e
                  have := z1.2.1
                  omega
                · walk_at "go"
                  exact ⟨some (t + y - l), some y, _, _, rfl, z1.2.2, z2⟩
      · rintro σ H1 ⟨rfl, t, e, v4, v5, rfl, z⟩
        rw [List.drop_length] at z
        walk_at "go"
        have et : t = top s rs := by
          cases e with
          | none => cases t <;> rw [z.2.2] <;> first | rfl | exact z.2.1
          | some e =>
            cases t with
            | none => cases z
            | some t => exact z.2
        rw [et]
        exact q
/-! ### flat_point -/
theorem fp_cons (l : Int) (h : Option Int) (r : Rs) (t e : Int) : fp ((l, h) :: r) t e = if t ≤ l - e then some (e + t) else match h with
    | none => none
    | some x => fp r (t - (l - e)) x := rfl
def spFlat (K : PySem.W.Frag) : Sp := fun vs H Q _ => ∃ (b c : Bool) (m : Int) (r : Addr) (ps : List Addr) (rs : Rs), vs = [.ref r, .int m] ∧ Ris b c K H r ps rs ∧ Q (oV (fp rs m 0)) H
theorem ok_flat_point (F : FnP K "flat_point" s_flat_point f fd) : FnOk P w K mg base CX0 1 f fd P_flat_point (spFlat K) := by
  refine F.ok sc_flat_point (fun vs H Q E h => ?_) (fun cdv A outer s H vs Q E hr h => ?_)
  · obtain ⟨b, c, m, r, ps, rs, rfl, _⟩ := h
    rfl
  · obtain ⟨b, c, m, r, ps, rs, rfl, hR, q⟩ := h
    refine ⟨_, PSs.nox (pss_cons (ps_par (i := 2) (j := 3) (by rfl) sc_flat_point.nd rfl rfl (by decide) rfl rfl (pa_cons (pv 1) (pa_cons pe_int pa_nil)) (by rfl))
      (pss_cons (ps_for PassesOwn.never rfl (pi_seq (pv 0)) (pg_or (pg_unl rfl (pgs_cons (pg_name (i := 4) sc_flat_point.nd rfl (by first | exact .inl rfl | exact .inr rfl)) (pgs_cons (pg_name (i := 5) sc_flat_point.nd rfl (by first | exact .inl rfl | exact .inr rfl)) pgs_nil))) (pg_tup rfl (pgs_cons (pg_name (i := 4) sc_flat_point.nd rfl (by first | exact .inl rfl | exact .inr rfl)) (pgs_cons (pg_name (i := 5) sc_flat_point.nd rfl (by first | exact .inl rfl | exact .inr rfl)) pgs_nil))))
        (pss_cons (ps_if (pt_cmpR op_ge (pe_op op_sub (pv 4) (pv 3)) (pv 2) (nomark _)) (pss_one (ps_ret (pe_op op_add (pv 3) (pv 2)))) pss_nil)
      (pss_cons (ps_if (pt_cmpR op_isN (pv 5) pe_non (nomark _)) (pss_one (ps_ret pe_non)) pss_nil)
      (pss_cons (ps_set (i := 2) sc_flat_point.nd rfl (by first | exact .inl rfl | exact .inr rfl) (pe_op op_sub (pv 2) (pe_op op_sub (pv 4) (pv 3))))
      (pss_one (ps_set (i := 3) sc_flat_point.nd rfl (by first | exact .inl rfl | exact .inr rfl) (pv 5)))))))
      (pss_one (ps_ret (pe_op op_add (pv 3) (pv 2)))))), ?_⟩
    walk_at "go"
    refine for_pairs (j := 0) hR (Same.refl H) (by rfl) (fun i σ H1 => H1 = H ∧ ∃ (t e : Int) (v4 v5 : Option V), σ = [some (.ref r), some (.int m), some (.int t), some (.int e), v4, v5] ∧ fp (rs.drop i) t e = fp rs m 0) ⟨rfl, _, _, none, none, rfl, rfl⟩ ?_ ?_ ?_
    · rintro i σ H1 ⟨rfl, _⟩
      exact Same.refl _
    · rintro i l h σ H1 hi ⟨rfl, t, e, v4, v5, rfl, z⟩
      have hd : rs.drop i = (l, h) :: rs.drop (i + 1) := by
        rw [List.drop_eq_getElem?_toList_append, hi]
        rfl
      rw [hd] at z
      rw [fp_cons] at z
      walk_at "go"
      refine ite2 (fun e1 => ?_) (fun e1 => ?_)
      · have := of_decide_eq_true e1
        rw [if_pos this] at z
        walk_at "go"
        rw [← z] at q
        exact q
      · have : ¬ t ≤ l - e := fun z => e1 (decide_eq_true z)
        rw [if_neg this] at z
        cases h with
        | none =>
          walk_at "go"
          refine ite2 (fun e2 => ?_) (fun e2 => absurd rfl e2)
          walk_at "go"
          rw [← z] at q
          exact q
        | some y =>
          walk_at "go"
          exact ⟨_, _, _, _, rfl, z⟩
    · rintro σ H1 ⟨rfl, t, e, v4, v5, rfl, z⟩
      rw [List.drop_length] at z
      walk_at "go"
      rw [← z] at q
      exact q
end
end Z
set_option pp.maxSteps 700
set_option Elab.async false
set_option linter.all false
set_option maxRecDepth 100000
set_option maxHeartbeats 4000000
namespace Z
open Nd
open PySem PySem.Spec PyProof.Rows L2
open C8 (pss_cut tCut)
local macro_rules | `(tactic| walk_at "num") => `(tactic| first | rfl | omega | decide | exact Nat.le_of_lt (small1000 (by simp)) | exact ⟨by omega, by omega⟩ | exact ⟨by omega, by omega, by omega⟩ | exact ⟨by decide, by decide, by decide⟩ | exact Or.inl ⟨by omega, by omega⟩ | exact Or.inr ⟨by omega, by omega⟩)
local macro_rules | `(tactic| walk_at "go") => `(tactic| repeat (first | refine ⟨_, rfl, ?_⟩ | refine ⟨_, _, rfl, rfl, ?_⟩ | refine ⟨_, _, rfl, ?_⟩ | refine ⟨_, _, rfl, rfl, (by walk_at "num"), ?_⟩ | refine Or.inl ⟨_, rfl, ?_⟩ | refine ⟨_, _, _, _, rfl, rfl, (by assumption), (by rfl), ?_⟩ | refine ⟨_, _, _, _, _, rfl, (by assumption), (by assumption), (by assumption), (by rfl), ?_⟩ | refine ⟨rfl, ?_⟩ | refine And.intro (by walk_at "num") ?_))
/-- the comprehension that copies the pairs -/
theorem lc_copy {b c : Bool} {K : PySem.W.Frag} {a D : Addr} {ps : List Addr} {rs : Rs} {H0 : Hp} {i j : Nat} {te : TE} {vs : List Nat} {σ : L2.St} {Qd : Hp → Prop} (hR : Ris b c K H0 a ps rs) (hb : rs.length ≤ 100000) (nD : H0 D = none)
    (hw : ∀ x y : V, wipe (((wipe σ vs).set i (some x)).set j (some y)) vs = wipe σ vs)
    (ht : ∀ x y H1 (Q : VK), Same H0 H1 → (∀ T, H1 T = none → Q (.ref T) (upd H1 T (.tup [.int x, oV y]))) → te (((wipe σ vs).set i (some (.int x))).set j (some (oV y))) H1 Q)
    (hd : ∀ H1 (qs : List Addr), Same H0 H1 → H1 D = some (.lst (qs.map V.ref)) → qs.length = rs.length → (∀ (k : Nat) (p : Addr) (q : Int × Option Int), qs[k]? = some p → rs[k]? = some q → H1 p = some (.tup [.int q.1, oV q.2])) → Qd H1) : lcW (ItS b K a) (gPair K i j) tYes te vs σ D Qd H0 := by
  refine lc_gen (n := rs.length) (fun k H1 => Same H0 H1 ∧ ∃ qs : List Addr, H1 D = some (.lst (qs.map V.ref)) ∧ qs.length = k ∧ ∀ (k : Nat) (p : Addr) (q : Int × Option Int), qs[k]? = some p → rs[k]? = some q → H1 p = some (.tup [.int q.1, oV q.2])) ⟨same_new nD, [], upd_same, rfl, fun k p q h => nomatch h⟩ ?_ ?_ ?_ ?_
  · rintro k H1 hk ⟨s, _⟩
    have hi2 : k < ps.length := by rw [hR.2.1]; exact hk
    exact its_go (x := .ref ps[k]) (Z.Same.sqK s hR.1) (by rw [List.getElem?_map, List.getElem?_eq_getElem hi2]; rfl)
  · rintro H1 ⟨s, _⟩
    exact its_stop (Z.Same.sqK s hR.1) (by rw [List.length_map, hR.2.1]; exact Nat.le_refl _)
  · rintro k H1 v H' hk ⟨s, qs, eD, el, eq⟩ y
    obtain ⟨rfl, ex⟩ := its_yld (Z.Same.sqK s hR.1) y
    obtain ⟨p, ep, rfl⟩ := of_map ex
    have er : rs[k]? = some (rs[k].1, rs[k].2) := List.getElem?_eq_getElem hk
    refine gpair_of (Z.Same.sqK s (hR.2.2 k p _ ep er)) ⟨hw _ _, ?_⟩
    refine ht _ _ _ _ s (fun T nT => ?_)
    have sT : Same H' (upd H' T (.tup [.int rs[k].1, oV rs[k].2])) := same_new nT
    refine ⟨_, sT _ _ eD, ?_, ?_, qs ++ [T], ?_, ?_, ?_⟩
    · rw [List.length_map, el]
      exact Nat.lt_of_lt_of_le hk (Nat.le_trans hb (by decide))
    · exact Z.Same.mut (s.trans sT) nD
    · rw [upd_same, List.map_append]
      rfl
    · rw [List.length_append, el]
      rfl
    · intro k2 p2 q2 h1 h2
      have tD : T ≠ D := (ne_of_none eD nT).symm
      by_cases hlt : k2 < qs.length
      · rw [List.getElem?_append_left hlt] at h1
        have z := eq k2 p2 q2 h1 h2
        have pD : p2 ≠ D := fun e => by
          rw [e, eD] at z
          cases z
        rw [upd_ne pD]
        exact sT _ _ z
      · rw [List.getElem?_append_right (by omega)] at h1
        have h3 : k2 - qs.length = 0 := by
          have := (List.getElem?_eq_some_iff.mp h1).1
          simp at this
          omega
        rw [h3] at h1
        obtain rfl : T = p2 := Option.some.inj h1
        have h4 : k2 = k := by omega
        subst h4
        rw [er] at h2
        obtain rfl := Option.some.inj h2
        rw [upd_ne tD, upd_same]
  · rintro H1 ⟨s, qs, eD, el, eq⟩
    exact hd H1 qs s eD el eq
theorem sq_ins {b : Bool} {K : PySem.W.Frag} {H H' : Hp} {n C dx a : Addr} {fs : List (Str × V)} {xs : List V} (s : SB n H H') (hn : H n = some (.ins C dx fs)) (h : SqK b K H a xs) : SqK b K H' a xs := by
  have ne : ∀ {o : HO}, H a = some o → (∀ C dx fs, o ≠ .ins C dx fs) → a ≠ n := fun e z w => by
    rw [w, hn] at e
    exact z _ _ _ (Option.some.inj e).symm
  cases b
  · rcases h with (h | ⟨o, h⟩) | h
    · exact .inl (.inl (s _ _ (ne h fun _ _ _ => nofun) h))
    · exact .inl (.inr ⟨o, s _ _ (ne h fun _ _ _ => nofun) h⟩)
    · exact .inr h
  · rcases h with (h | ⟨o, h⟩) | h
    · exact .inl (.inl (s _ _ (ne h fun _ _ _ => nofun) h))
    · exact .inl (.inr ⟨o, s _ _ (ne h fun _ _ _ => nofun) h⟩)
    · exact .inr h
theorem Ris.ins {b c : Bool} {K : PySem.W.Frag} {H H' : Hp} {n C dx a : Addr} {fs : List (Str × V)} {ps : List Addr} {rs : Rs} (s : SB n H H') (hn : H n = some (.ins C dx fs)) (r : Ris b c K H a ps rs) : Ris b c K H' a ps rs := ⟨sq_ins s hn r.1, r.2.1, fun i p q h1 h2 => sq_ins s hn (r.2.2 i p q h1 h2)⟩
section
variable {P : Program} {w : World} {K : PySem.W.Frag} {mg : Str → Option Value} {base : Heap} {f C : Addr} {fd : FuncData}
def Ok (st : Option Int) (rs : Rs) (nv : Option Int) : Prop := Fit st rs ∧ (∀ s, st = some s → 0 ≤ s) ∧ ∀ v, nv = some v → ∃ t, tops st rs = some t ∧ t ≤ v
/-! ### Need.__init__ -/
def spInit (C : Addr) (K : PySem.W.Frag) : Sp := fun vs H Q _ => ∃ (b c : Bool) (st nv : Option Int) (n dx r : Addr) (ps : List Addr) (rs : Rs), vs = [.ref n, oV st, .ref r, oV nv] ∧ H n = some (.ins C dx []) ∧ Ris b c K H r ps rs ∧ rs.length ≤ 100000 ∧ Ok st rs nv ∧
  ∀ H', SB n H H' → NeedAt C K H' n st rs nv → Q .non H'
theorem ok_init (F : FnM K "__init__" "Need.__init__" s_Need___init__ f fd) (cls : Cls K C) (n_start : NoAttr K C "start") (n_rises : NoAttr K C "rises") (n_never : NoAttr K C "never") (m_tuple : mg "tuple" = none) (c_greatest_value : Cal P w K mg base 1 "greatest_value" (spGreatest K)) : FnOk P w K mg base CX0 2 f fd P_Need___init__ (spInit C K) := by
  refine F.ok sc_Need___init__ (fun vs H Q E h => ?_) (fun cdv A outer s H vs Q E hr h => ?_)
  · obtain ⟨b, c, st, nv, n, dx, r, ps, rs, rfl, _⟩ := h
    rfl
  · obtain ⟨b, c, st, nv, n, dx, r, ps, rs, rfl, hn, hR, hb, ok, q⟩ := h
    refine ⟨_, PSs.nox (pss_cut (ps_if (PW.pt (pw_and (pt_cmpR op_notN (pv 1) pe_non (nomark _)) (pw_and1 (pt_cmpR op_lt (pv 1) pe_int (nomark _))))) (pss_one ps_never) pss_nil)
      (pss_cons (ps_set (i := 4) sc_Need___init__.nd rfl (by first | exact .inl rfl | exact .inr rfl) (pe_cl c_greatest_value hr (by decide) (by rfl) (pa_cons (pv 1) (pa_cons (pv 2) pa_nil))))
      (pss_cut (ps_if (PW.pt (pw_and (pt_cmpR op_notN (pv 3) pe_non (nomark _)) (pw_and1 (PW.pt (pw_or (pt_cmpR op_isN (pv 4) pe_non (nomark _)) (pw_or1 (pt_cmpR op_lt (pv 3) (pv 4) (nomark _)))))))) (pss_one ps_never) pss_nil)
      (pss_cons (ps_fld (pv 0) (pv 1) rfl)
      (pss_cons (ps_fld (pv 0) (pe_callTy call_tuple_of (by rfl) m_tuple (by decide +kernel) (pa_cons (pe_lc (own := [("low", 5), ("high", 6)]) (g := (gOr (gUnl K 2 (gCons (gName 5) (gCons (gName 6) gNil))) (gTup K 2 (gCons (gName 5) (gCons (gName 6) gNil))))) (tt := tYes) (by rfl) sc_Need___init__.nd (pi_seq (pv 2)) (blkOk_by (own := [("low", 5), ("high", 6)]) (N := N_Need___init__) (sc := defScope s_Need___init__) (by decide +kernel)) (fun _ _ _ _ _ => (pg_or (pg_unl rfl (pgs_cons (pg_name (i := 5) sc_Need___init__.nd rfl (by first | exact .inl rfl | exact .inr rfl)) (pgs_cons (pg_name (i := 6) sc_Need___init__.nd rfl (by first | exact .inl rfl | exact .inr rfl)) pgs_nil))) (pg_tup rfl (pgs_cons (pg_name (i := 5) sc_Need___init__.nd rfl (by first | exact .inl rfl | exact .inr rfl)) (pgs_cons (pg_name (i := 6) sc_Need___init__.nd rfl (by first | exact .inl rfl | exact .inr rfl)) pgs_nil))))) (fun _ _ _ _ _ => pts_nil) (fun _ _ _ _ _ => (pe_tup (pa_cons (pv 5) (pa_cons (pv 6) pa_nil))))) pa_nil)) rfl)
      (pss_one (ps_fld (pv 0) (pv 3) rfl))))))), ?_⟩
    refine cut_stay ?_ ?_
    · cases st with
      | none =>
        walk_at "go"
        rfl
      | some s =>
        walk_at "go"
        refine ite2 (fun e => ?_) (fun e => ?_)
        · have := of_decide_eq_true e
          have := ok.2.1 s rfl
          omega
        · exact ⟨rfl, rfl⟩
    walk_at "go"
    refine ⟨b, c, st, r, ps, rs, rfl, hR, ok.1, ?_⟩
    walk_at "go"
    refine cut_stay ?_ ?_
    · cases nv with
      | none =>
        walk_at "go"
        rfl
      | some v =>
        obtain ⟨t, e1, e2⟩ := ok.2.2 v rfl
        rw [e1]
        walk_at "go"
        refine ite2 (fun e => ?_) (fun e => ?_)
        · have := of_decide_eq_true e
          omega
        · walk_at "go"
          rfl
    walk_at "go"
    refine ⟨n, C, dx, _, rfl, hn, cls, n_start, by decide, ?_⟩
    walk_at "go"
    have s1 : SB n H (upd H n (.ins C dx [("start", oV st)])) := SB.upd (fun _ _ _ h => h)
    refine iSeq_of (b := b) (fun Q q => ⟨_, rfl, q⟩) (hR.ins s1 hn).1 ?_
    intro D nD
    refine lc_copy (hR.ins s1 hn) hb nD (fun _ _ => rfl) ?_ ?_
    · intro x y H1 Q1 s2 q1
      walk_at "go"
      exact q1
    · intro H1 qs s2 eD el eq
      walk_at "go"
      refine ⟨D, _, rfl, .inl ⟨.inl (.inl eD), fun t nt => ?_⟩⟩
      walk_at "go"
      have s3 : Same H1 (upd H1 t (.tup (qs.map V.ref))) := same_new nt
      have hn3 := s3 _ _ (s2 _ _ upd_same)
      have nt' : t ≠ n := (ne_of_none (s2 _ _ upd_same) nt).symm
      refine ⟨n, C, dx, _, rfl, hn3, cls, n_rises, (by show (1 : Nat) < 1000; decide), ?_⟩
      walk_at "go"
      refine ⟨n, C, dx, _, rfl, upd_same, cls, n_never, (by show (2 : Nat) < 1000; decide), ?_⟩
      walk_at "go"
      refine q _ ?_ ?_
      · exact SB.upd (SB.upd ((s1.trans (Z.Same.sb s2)).trans (Z.Same.sb s3)))
      · refine ⟨dx, t, qs, upd_same, ⟨?_, el, fun i p q h1 h2 => ?_⟩, ?_⟩
        · exact .inl (.inl (by rw [upd_ne nt', upd_ne nt', upd_same]))
        · have z := eq i p q h1 h2
          have pt : p ≠ t := ne_of_none z nt
          have pn : p ≠ n := fun e => by
            rw [e, s2 _ _ upd_same] at z
            cases z
          exact .inl (.inl (by rw [upd_ne pn, upd_ne pn, upd_ne pt, z]))
        · rw [upd_ne nt', upd_ne nt', upd_same]
/-! ### Need(..) -/
def spNeed (C : Addr) (K : PySem.W.Frag) : Sp := fun vs H Q _ => ∃ (b c : Bool) (st nv : Option Int) (r : Addr) (ps : List Addr) (rs : Rs), vs = [oV st, .ref r, oV nv] ∧ Ris b c K H r ps rs ∧ rs.length ≤ 100000 ∧ Ok st rs nv ∧
  ∀ n H', Same H H' → H n = none → NeedAt C K H' n st rs nv → Q (.ref n) H'
theorem mak_need {si : FnOk P w K mg base CX0 2 f fd P_Need___init__ (spInit C K)} (M : Mk K C f) (hm : mg "Need" = some (.ref C)) (hb : Binds K fd P_Need___init__ []) : Mak P w K mg base 2 "Need" (spNeed C K) := by
  refine ⟨C, f, fd, _, _, M, si, hm, hb, ?_⟩
  rintro vs H Q E ⟨b, c, st, nv, r, ps, rs, rfl, hR, hl, ok, q⟩ n dx n1 n2 n3
  have s1 : Same H (upd (upd H dx (.own n)) n (.ins C dx [])) := Z.Same.mut (same_new n2) n1
  exact ⟨b, c, st, nv, n, dx, r, ps, rs, rfl, upd_same, hR.mono s1, hl, ok, fun H' z1 z2 => ⟨rfl, q n H' (fun a o h => z1 a o (ne_of_none h n1) (s1 a o h)) n1 z2⟩⟩
/-! ### value_for, a call -/
def spCallN (C : Addr) (K : PySem.W.Frag) : Sp := fun vs H Q _ => ∃ (st nv k : Option Int) (n : Addr) (rs : Rs), vs = [.ref n, oV k] ∧ NeedAt C K H n st rs nv ∧ Ok st rs nv ∧ (∀ i, k = some i → 0 ≤ i) ∧ Q (oV (val st rs nv k)) H
theorem ok_value_for (F : FnM K "value_for" "Need.value_for" s_Need_value_for f fd) (cls : Cls K C) (n_start : NoAttr K C "start") (n_rises : NoAttr K C "rises") (n_never : NoAttr K C "never") (c_value_at : Cal P w K mg base 1 "value_at" (spValueAt K)) : FnOk P w K mg base CX0 2 f fd P_Need_value_for (spCallN C K) := by
  refine F.ok sc_Need_value_for (fun vs H Q E h => ?_) (fun cdv A outer s H vs Q E hr h => ?_)
  · obtain ⟨st, nv, k, n, rs, rfl, _⟩ := h
    rfl
  · obtain ⟨st, nv, k, n, rs, rfl, ⟨dx, r, ps, hn, hR, _⟩, ok, hk, q⟩ := h
    refine ⟨_, PSs.nox (pss_cons (ps_if (PW.pt (pw_or (pt_cmpR op_isN (pv 1) pe_non (nomark _)) (pw_or1 (pt_cmpR op_isN (pe_fld (pv 0) rfl) pe_non (nomark _))))) (pss_one (ps_ret (pe_fld (pv 0) rfl))) pss_nil)
      (pss_one (ps_ret (pe_cl c_value_at hr (by decide) (by rfl) (pa_cons (pe_fld (pv 0) rfl) (pa_cons (pe_fld (pv 0) rfl) (pa_cons (pv 1) pa_nil))))))), ?_⟩
    cases st with
    | none =>
      cases k with
      | none =>
        walk_at "go"
        exact q
      | some i =>
        walk_at "go"
        exact q
    | some s =>
      cases k with
      | none =>
        walk_at "go"
        exact q
      | some i =>
        walk_at "go"
        refine ⟨_, _, s, i, r, ps, rs, rfl, hR, ok.1, ?_⟩
        exact q
theorem ok_call (F : FnM K "__call__" "Need.__call__" s_Need___call__ f fd) (me_value_for : Met P w K mg base 2 C "value_for" (spCallN C K)) : FnOk P w K mg base CX0 3 f fd P_Need___call__ (spCallN C K) := by
  refine F.ok sc_Need___call__ (fun vs H Q E h => ?_) (fun cdv A outer s H vs Q E hr h => ?_)
  · obtain ⟨st, nv, k, n, rs, rfl, _⟩ := h
    rfl
  · obtain ⟨st, nv, k, n, rs, rfl, hN, ok, hk, q⟩ := h
    have hN2 := hN
    obtain ⟨dx, r, ps, hn, hR, _⟩ := hN2
    refine ⟨_, PSs.nox (pss_cut (ps_if (PW.pt (pw_and (pt_cmpR op_notN (pv 1) pe_non (nomark _)) (pw_and1 (pt_cmpR op_lt (pv 1) pe_int (nomark _))))) (pss_one ps_never) pss_nil)
      (pss_one (ps_ret (pe_me me_value_for (pv 0) hr (by decide) (pa_cons (pv 1) pa_nil))))), ?_⟩
    refine cut_stay ?_ ?_
    · cases k with
      | none =>
        walk_at "go"
        rfl
      | some i =>
        walk_at "go"
        refine ite2 (fun e => ?_) (fun e => ?_)
        · have := of_decide_eq_true e
          have := hk i rfl
          omega
        · exact ⟨rfl, rfl⟩
    walk_at "go"
    refine ⟨n, dx, _, rfl, hn, rfl, ?_⟩
    walk_at "go"
    exact ⟨st, nv, k, n, rs, rfl, hN, ok, hk, q⟩
end
end Z
set_option pp.maxSteps 700
set_option Elab.async false
set_option linter.all false
set_option maxRecDepth 100000
set_option maxHeartbeats 4000000
namespace Z
open Nd
open PySem PySem.Spec PyProof.Rows L2
open C8 (pss_cut tCut)
local macro_rules | `(tactic| walk_at "num") => `(tactic| first | rfl | omega | decide | exact Nat.le_of_lt (small1000 (by simp)) | exact ⟨by omega, by omega⟩ | exact ⟨by omega, by omega, by omega⟩ | exact ⟨by decide, by decide, by decide⟩ | exact Or.inl ⟨by omega, by omega⟩ | exact Or.inr ⟨by omega, by omega⟩)
local macro_rules | `(tactic| walk_at "go") => `(tactic| repeat (first | refine ⟨_, rfl, ?_⟩ | refine ⟨_, _, rfl, rfl, ?_⟩ | refine ⟨_, _, rfl, ?_⟩ | refine ⟨_, _, rfl, rfl, (by walk_at "num"), ?_⟩ | refine Or.inl ⟨_, rfl, ?_⟩ | refine ⟨_, _, _, _, rfl, rfl, (by assumption), (by rfl), ?_⟩ | refine ⟨_, _, _, _, _, rfl, (by assumption), (by assumption), (by assumption), (by rfl), ?_⟩ | refine ⟨rfl, ?_⟩ | refine And.intro (by walk_at "num") ?_))
theorem ris_nil {c : Bool} {K : PySem.W.Frag} {H : Hp} {a : Addr} (h : SqT K H a []) : Ris false c K H a [] [] := ⟨h, rfl, fun i p q h => nomatch h⟩
theorem ris_one {c : Bool} {K : PySem.W.Frag} {H : Hp} {a p : Addr} {x : Int} {y : Option Int} (h : SqT K H a [.ref p]) (h2 : SqK c K H p [.int x, oV y]) : Ris false c K H a [p] [(x, y)] := by
  refine ⟨h, rfl, fun i p2 q h3 h4 => ?_⟩
  cases i with
  | zero =>
    obtain rfl := Option.some.inj h3
    obtain rfl := Option.some.inj h4
    exact h2
  | succ i => cases h3
/-! ### mine, theirs, endless -/
abbrev Nn := Option Int × Rs × Option Int
def mineP (nv : Option Int) : Option Int → Nn
  | none => (some 0, [(0, none)], none)
  | some p => (some 0, if p > 1 then [(0, some (p - 1))] else [], nv.map fun _ => p - 1)
def theirsP : Option Int → Nn
  | none => (none, [], none)
  | some p => (some p, [(p, none)], none)
def endlessP (p : Option Int) : Nn := (p, [], p)
def pt (d : Int) (st : Option Int) (rs : Rs) : Option Int := match st with
  | none => none
  | some s => fp rs (s + d) 0
theorem fp_pos {rs : Rs} {A p : Int} (g : Good (-1) rs) (hA : 0 ≤ A) (h : fp rs A 0 = some p) : 0 ≤ p := by
  have z := fp_spec (rs := rs) (A := A) (E := 0) g hA
  rw [h] at z
  exact z.1
theorem pt_pos {d : Int} {st nv : Option Int} {rs : Rs} {p : Int} (ok : Ok st rs nv) (hd : 0 ≤ d) (h : pt d st rs = some p) : 0 ≤ p := by
  cases st with
  | none => cases h
  | some s =>
    have := ok.2.1 s rfl
    exact fp_pos ok.1 (by omega) h
theorem pt_pos1 {st nv : Option Int} {rs : Rs} {p : Int} (ok : Ok st rs nv) (h : pt 1 st rs = some p) : 1 ≤ p := by
  cases st with
  | none => cases h
  | some s =>
    have hs := ok.2.1 s rfl
    have z := grt_spec (s := s) (rs := rs) ok.1 hs
    have h : fp rs (s + 1) 0 = some p := h
    unfold grt at z
    rw [h] at z
    have z1 : 0 ≤ p - 1 := z.1
    omega
theorem pt0 (s : Int) (rs : Rs) : pt 0 (some s) rs = fp rs s 0 := congrArg (fun x => fp rs x 0) (Int.add_zero s)
theorem mine_ok {st nv : Option Int} {rs : Rs} (ok : Ok st rs nv) : Ok (mineP nv (pt 1 st rs)).1 (mineP nv (pt 1 st rs)).2.1 (mineP nv (pt 1 st rs)).2.2 := by
  cases e : pt 1 st rs with
  | none => exact ⟨⟨by omega, rfl⟩, fun s h => by cases h; omega, nofun⟩
  | some p =>
    have hp := pt_pos1 ok e
    show Ok (some 0) (if p > 1 then [(0, some (p - 1))] else []) (nv.map fun _ => p - 1)
    by_cases c : p > 1
    · rw [if_pos c]
      refine ⟨⟨by omega, by omega, trivial⟩, fun s h => by cases h; omega, fun v h => ?_⟩
      cases nv with
      | none => cases h
      | some w => cases h; exact ⟨0 + (p - 1) - 0, rfl, by show 0 + (p - 1) - 0 ≤ p - 1; omega⟩
    · rw [if_neg c]
      refine ⟨trivial, fun s h => by cases h; omega, fun v h => ?_⟩
      cases nv with
      | none => cases h
      | some w => cases h; exact ⟨0, rfl, by show 0 ≤ p - 1; omega⟩
theorem theirs_ok {st nv : Option Int} {rs : Rs} (ok : Ok st rs nv) : Ok (theirsP (pt 0 st rs)).1 (theirsP (pt 0 st rs)).2.1 (theirsP (pt 0 st rs)).2.2 := by
  cases e : pt 0 st rs with
  | none => exact ⟨rfl, nofun, nofun⟩
  | some p =>
    have hp := pt_pos ok (by omega) e
    exact ⟨⟨by omega, rfl⟩, fun s h => by cases h; omega, nofun⟩
theorem endless_ok {st nv : Option Int} {rs : Rs} (ok : Ok st rs nv) : Ok (endlessP (pt 0 st rs)).1 (endlessP (pt 0 st rs)).2.1 (endlessP (pt 0 st rs)).2.2 := by
  cases e : pt 0 st rs with
  | none => exact ⟨rfl, nofun, nofun⟩
  | some p =>
    have hp := pt_pos ok (by omega) e
    exact ⟨trivial, fun s h => by cases h; omega, fun v h => by cases h; exact ⟨p, rfl, by omega⟩⟩
section
variable {P : Program} {w : World} {K : PySem.W.Frag} {mg : Str → Option Value} {base : Heap} {f C : Addr} {fd : FuncData}
def spUn (R : Option Int → Rs → Option Int → Nn) (C : Addr) (K : PySem.W.Frag) : Sp := fun vs H Q _ => ∃ (st nv : Option Int) (n : Addr) (rs : Rs), vs = [.ref n] ∧ NeedAt C K H n st rs nv ∧ Ok st rs nv ∧
  ∀ n' H', Same H H' → NeedAt C K H' n' (R st rs nv).1 (R st rs nv).2.1 (R st rs nv).2.2 → Q (.ref n') H'
abbrev spMine := spUn fun st rs nv => mineP nv (pt 1 st rs)
abbrev spTheirs := spUn fun st rs _ => theirsP (pt 0 st rs)
abbrev spEndless := spUn fun st rs _ => endlessP (pt 0 st rs)
theorem ok_endless (F : FnM K "endless" "Need.endless" s_Need_endless f fd) (cls : Cls K C) (n_start : NoAttr K C "start") (n_rises : NoAttr K C "rises") (n_never : NoAttr K C "never") (c_flat_point : Cal P w K mg base 1 "flat_point" (spFlat K)) (k_Need : Mak P w K mg base 2 "Need" (spNeed C K)) : FnOk P w K mg base CX0 4 f fd P_Need_endless (spEndless C K) := by
  refine F.ok sc_Need_endless (fun vs H Q E h => ?_) (fun cdv A outer s H vs Q E hr h => ?_)
  · obtain ⟨st, nv, n, rs, rfl, _⟩ := h
    rfl
  · obtain ⟨st, nv, n, rs, rfl, ⟨dx, r, ps, hn, hR, _⟩, ok, q⟩ := h
    refine ⟨_, PSs.nox (pss_cut (ps_set (i := 1) sc_Need_endless.nd rfl (by first | exact .inl rfl | exact .inr rfl) (pe_ifExp (pt_cmpR op_isN (pe_fld (pv 0) rfl) pe_non (nomark _)) pe_non (pe_cl c_flat_point hr (by decide) (by rfl) (pa_cons (pe_fld (pv 0) rfl) (pa_cons (pe_fld (pv 0) rfl) pa_nil)))))
      (pss_one (ps_ret (pe_mk k_Need hr (by decide) (by rfl) (pa_cons (pv 1) (pa_cons (pe_tup pa_nil) (pa_cons (pv 1) pa_nil))))))), ?_⟩
    refine ⟨fun σ' H' => σ' = [some (.ref n), some (oV (pt 0 st rs))] ∧ H' = H, ?_, ?_⟩
    · cases st with
      | none =>
        walk_at "go"
        rfl
      | some s =>
        rw [pt0]
        walk_at "go"
        exact ⟨false, false, _, r, ps, rs, rfl, hR, rfl, rfl⟩
    · rintro σ' H' ⟨rfl, rfl⟩
      walk_at "go"
      intro p np
      walk_at "go"
      have s1 : Same H' (upd H' p (.tup [])) := same_new np
      refine ⟨false, false, pt 0 st rs, pt 0 st rs, p, [], [], rfl, ris_nil (.inl (.inl upd_same)), by decide, endless_ok ok, fun n' H2 s2 _ h2 => ?_⟩
      exact q n' H2 (s1.trans s2) h2
theorem ok_theirs (F : FnM K "theirs" "Need.theirs" s_Need_theirs f fd) (cls : Cls K C) (n_start : NoAttr K C "start") (n_rises : NoAttr K C "rises") (n_never : NoAttr K C "never") (c_flat_point : Cal P w K mg base 1 "flat_point" (spFlat K)) (k_Need : Mak P w K mg base 2 "Need" (spNeed C K)) : FnOk P w K mg base CX0 4 f fd P_Need_theirs (spTheirs C K) := by
  refine F.ok sc_Need_theirs (fun vs H Q E h => ?_) (fun cdv A outer s H vs Q E hr h => ?_)
  · obtain ⟨st, nv, n, rs, rfl, _⟩ := h
    rfl
  · obtain ⟨st, nv, n, rs, rfl, ⟨dx, r, ps, hn, hR, _⟩, ok, q⟩ := h
    refine ⟨_, PSs.nox (pss_cut (ps_set (i := 1) sc_Need_theirs.nd rfl (by first | exact .inl rfl | exact .inr rfl) (pe_ifExp (pt_cmpR op_isN (pe_fld (pv 0) rfl) pe_non (nomark _)) pe_non (pe_cl c_flat_point hr (by decide) (by rfl) (pa_cons (pe_fld (pv 0) rfl) (pa_cons (pe_fld (pv 0) rfl) pa_nil)))))
      (pss_cons (ps_if (pt_cmpR op_isN (pv 1) pe_non (nomark _)) (pss_one (ps_ret (pe_mk k_Need hr (by decide) (by rfl) (pa_cons pe_non (pa_cons (pe_tup pa_nil) (pa_cons pe_non pa_nil)))))) pss_nil)
      (pss_one (ps_ret (pe_mk k_Need hr (by decide) (by rfl) (pa_cons (pv 1) (pa_cons (pe_tup (pa_cons (pe_tup (pa_cons (pv 1) (pa_cons pe_non pa_nil))) pa_nil)) (pa_cons pe_non pa_nil)))))))), ?_⟩
    refine ⟨fun σ' H' => σ' = [some (.ref n), some (oV (pt 0 st rs))] ∧ H' = H, ?_, ?_⟩
    · cases st with
      | none =>
        walk_at "go"
        rfl
      | some s =>
        rw [pt0]
        walk_at "go"
        exact ⟨false, false, _, r, ps, rs, rfl, hR, rfl, rfl⟩
    · rintro σ' H' ⟨rfl, rfl⟩
      have ok2 := theirs_ok ok
      cases e : pt 0 st rs with
      | none =>
        dsimp only at q
        rw [e] at q ok2
        walk_at "go"
        intro p np
        walk_at "go"
        have s1 : Same H' (upd H' p (.tup [])) := same_new np
        refine ⟨false, false, none, none, p, [], [], rfl, ris_nil (.inl (.inl upd_same)), by decide, ok2, fun n' H2 s2 _ h2 => ?_⟩
        exact q n' H2 (s1.trans s2) h2
      | some z =>
        dsimp only at q
        rw [e] at q ok2
        walk_at "go"
        intro p np
        walk_at "go"
        intro p2 np2
        walk_at "go"
        have s1 : Same H' (upd H' p (.tup [.int z, .non])) := same_new np
        have s2 := same_new (o := .tup [.ref p]) np2
        refine ⟨false, false, some z, none, p2, [p], [(z, none)], rfl, ris_one (.inl (.inl upd_same)) (.inl (.inl (s2 _ _ upd_same))), (by show (1 : Nat) ≤ 100000; decide), ok2, fun n' H2 s3 _ h2 => ?_⟩
        exact q n' H2 ((s1.trans s2).trans s3) h2
theorem ok_mine (F : FnM K "mine" "Need.mine" s_Need_mine f fd) (cls : Cls K C) (n_start : NoAttr K C "start") (n_rises : NoAttr K C "rises") (n_never : NoAttr K C "never") (c_flat_point : Cal P w K mg base 1 "flat_point" (spFlat K)) (k_Need : Mak P w K mg base 2 "Need" (spNeed C K)) : FnOk P w K mg base CX0 4 f fd P_Need_mine (spMine C K) := by
  refine F.ok sc_Need_mine (fun vs H Q E h => ?_) (fun cdv A outer s H vs Q E hr h => ?_)
  · obtain ⟨st, nv, n, rs, rfl, _⟩ := h
    rfl
  · obtain ⟨st, nv, n, rs, rfl, ⟨dx, r, ps, hn, hR, _⟩, ok, q⟩ := h
    refine ⟨_, PSs.nox (pss_cut (ps_set (i := 1) sc_Need_mine.nd rfl (by first | exact .inl rfl | exact .inr rfl) (pe_ifExp (pt_cmpR op_isN (pe_fld (pv 0) rfl) pe_non (nomark _)) pe_non (pe_cl c_flat_point hr (by decide) (by rfl) (pa_cons (pe_fld (pv 0) rfl) (pa_cons (pe_op op_add (pe_fld (pv 0) rfl) pe_int) pa_nil)))))
      (pss_cons (ps_if (pt_cmpR op_isN (pv 1) pe_non (nomark _)) (pss_one (ps_ret (pe_mk k_Need hr (by decide) (by rfl) (pa_cons pe_int (pa_cons (pe_tup (pa_cons (pe_tup (pa_cons pe_int (pa_cons pe_non pa_nil))) pa_nil)) (pa_cons pe_non pa_nil)))))) pss_nil)
      (pss_cut (ps_set (i := 2) sc_Need_mine.nd rfl (by first | exact .inl rfl | exact .inr rfl) (pe_ifExp (pt_cmpR op_gt (pv 1) pe_int (nomark _)) (pe_tup (pa_cons (pe_tup (pa_cons pe_int (pa_cons (pe_op op_sub (pv 1) pe_int) pa_nil))) pa_nil)) (pe_tup pa_nil)))
      (pss_one (ps_ret (pe_mk k_Need hr (by decide) (by rfl) (pa_cons pe_int (pa_cons (pv 2) (pa_cons (pe_ifExp (pt_cmpR op_isN (pe_fld (pv 0) rfl) pe_non (nomark _)) pe_non (pe_op op_sub (pv 1) pe_int)) pa_nil))))))))), ?_⟩
    refine ⟨fun σ' H' => σ' = [some (.ref n), some (oV (pt 1 st rs)), none] ∧ H' = H, ?_, ?_⟩
    · cases st with
      | none =>
        walk_at "go"
        rfl
      | some s =>
        walk_at "go"
        exact ⟨false, false, _, r, ps, rs, rfl, hR, rfl, rfl⟩
    · rintro σ' H' ⟨rfl, rfl⟩
      have ok2 := mine_ok ok
      cases e : pt 1 st rs with
      | none =>
        dsimp only at q
        rw [e] at q ok2
        walk_at "go"
        intro p np
        walk_at "go"
        intro p2 np2
        walk_at "go"
        have s1 : Same H' (upd H' p (.tup [.int 0, .non])) := same_new np
        have s2 := same_new (o := .tup [.ref p]) np2
        refine ⟨false, false, some 0, none, p2, [p], [(0, none)], rfl, ris_one (.inl (.inl upd_same)) (.inl (.inl (s2 _ _ upd_same))), (by decide), ok2, fun n' H2 s3 _ h2 => ?_⟩
        exact q n' H2 ((s1.trans s2).trans s3) h2
      | some z =>
        dsimp only at q
        rw [e] at q ok2
        walk_at "go"
        refine ite2 (fun e => nomatch (of_decide_eq_true e)) (fun e => ?_)
        refine ⟨fun σ' H1 => ∃ (r2 : Addr) (ps2 : List Addr), σ' = [some (.ref n), some (.int z), some (.ref r2)] ∧ Same H' H1 ∧ Ris false false K H1 r2 ps2 (if z > 1 then [(0, some (z - 1))] else []), ?_, ?_⟩
        · walk_at "go"
          refine ite2 (fun e => ?_) (fun e => ?_)
          · have hz : z > 1 := of_decide_eq_true e
            rw [if_pos hz]
            walk_at "go"
            intro p np
            walk_at "go"
            intro p2 np2
            walk_at "go"
            have s1 : Same H' (upd H' p (.tup [.int 0, .int (z - 1)])) := same_new np
            have s2 := same_new (o := .tup [.ref p]) np2
            exact ⟨_, _, rfl, s1.trans s2, ris_one (.inl (.inl upd_same)) (.inl (.inl (s2 _ _ upd_same)))⟩
          · have hz : ¬ z > 1 := fun z => e (decide_eq_true z)
            rw [if_neg hz]
            walk_at "go"
            intro p np
            walk_at "go"
            exact ⟨_, _, rfl, same_new np, ris_nil (.inl (.inl upd_same))⟩
        · rintro σ' H1 ⟨r2, ps2, rfl, s1, hR2⟩
          have hn1 := s1 _ _ hn
          have hl : (if z > 1 then [((0 : Int), some (z - 1))] else []).length ≤ 100000 := by split <;> simp
          cases nv with
          | none =>
            walk_at "go"
            refine ⟨false, false, some 0, none, r2, ps2, _, rfl, hR2, hl, ok2, fun n' H2 s3 _ h2 => ?_⟩
            exact q n' H2 (s1.trans s3) h2
          | some v =>
            walk_at "go"
            refine ⟨false, false, some 0, some (z - 1), r2, ps2, _, rfl, hR2, hl, ok2, fun n' H2 s3 _ h2 => ?_⟩
            exact q n' H2 (s1.trans s3) h2
end
end Z
set_option pp.maxSteps 700
set_option Elab.async false
set_option linter.all false
set_option maxRecDepth 100000
set_option maxHeartbeats 4000000
namespace Z
open Nd
open PySem PySem.Spec PyProof.Rows L2
open C8 (pss_cut tCut)
local macro_rules | `(tactic| walk_at "num") => `(tactic| first | rfl | omega | decide | exact Nat.le_of_lt (small1000 (by simp)) | exact ⟨by omega, by omega⟩ | exact ⟨by omega, by omega, by omega⟩ | exact ⟨by decide, by decide, by decide⟩ | exact Or.inl ⟨by omega, by omega⟩ | exact Or.inr ⟨by omega, by omega⟩)
local macro_rules | `(tactic| walk_at "go") => `(tactic| repeat (first | refine ⟨_, rfl, ?_⟩ | refine ⟨_, _, rfl, rfl, ?_⟩ | refine ⟨_, _, rfl, ?_⟩ | refine ⟨_, _, rfl, rfl, (by walk_at "num"), ?_⟩ | refine Or.inl ⟨_, rfl, ?_⟩ | refine ⟨_, _, _, _, rfl, rfl, (by assumption), (by rfl), ?_⟩ | refine ⟨_, _, _, _, _, rfl, (by assumption), (by assumption), (by assumption), (by rfl), ?_⟩ | refine ⟨rfl, ?_⟩ | refine And.intro (by walk_at "num") ?_))
/-! ### == of pairs, of needs -/
def oD : Option Int → PyData
  | none => .none
  | some i => .int i
def pairD (c : Bool) (q : Int × Option Int) : PyData := match c with
  | true => .list [.int q.1, oD q.2]
  | false => .tuple [.int q.1, oD q.2]
def risD (b c : Bool) (rs : Rs) : PyData := match b with
  | true => .list (rs.map (pairD c))
  | false => .tuple (rs.map (pairD c))
theorem dp_o {K : PySem.W.Frag} {H : Hp} : ∀ o : Option Int, Dp K H (oV o) (oD o)
  | none => .non
  | some i => .int i
theorem dpa_pair {K : PySem.W.Frag} {H : Hp} (q : Int × Option Int) : DpAll K H [.int q.1, oV q.2] [.int q.1, oD q.2] := .cons (.int _) (.cons (dp_o _) .nil)
theorem dp_pair {c : Bool} {K : PySem.W.Frag} {H : Hp} {p : Addr} {q : Int × Option Int} (h : SqK c K H p [.int q.1, oV q.2]) : Dp K H (.ref p) (pairD c q) := by
  cases c
  · exact dp_sq (b := false) h (dpa_pair q)
  · exact dp_sq (b := true) h (dpa_pair q)
theorem dpa_ris {c : Bool} {K : PySem.W.Frag} {H : Hp} : ∀ (ps : List Addr) (rs : Rs), ps.length = rs.length → (∀ (i : Nat) (p : Addr) (q : Int × Option Int), ps[i]? = some p → rs[i]? = some q → SqK c K H p [.int q.1, oV q.2]) → DpAll K H (ps.map V.ref) (rs.map (pairD c))
  | [], [], _, _ => .nil
  | p :: ps, r :: rs, hl, h => .cons (dp_pair (h 0 p r rfl rfl)) (dpa_ris ps rs (by simpa using hl) fun i q s h1 h2 => h (i + 1) q s h1 h2)
theorem Ris.dp {b c : Bool} {K : PySem.W.Frag} {H : Hp} {a : Addr} {ps : List Addr} {rs : Rs} (m : Ris b c K H a ps rs) : Dp K H (.ref a) (risD b c rs) := by
  cases b
  · exact dp_sq (b := false) m.1 (dpa_ris ps rs m.2.1 m.2.2)
  · exact dp_sq (b := true) m.1 (dpa_ris ps rs m.2.1 m.2.2)
theorem shaped_pair (c : Bool) (q : Int × Option Int) : SeqAt.shaped (pairD c q) = true := by
  obtain ⟨l, h⟩ := q
  cases c <;> cases h <;> rfl
theorem dep_pair (c : Bool) (q : Int × Option Int) : (pairD c q).depth = 1 := by
  obtain ⟨l, h⟩ := q
  cases c <;> cases h <;> rfl
theorem lay_ris (c : Bool) : ∀ rs : Rs, PyData.canLayAll0 (rs.map (pairD c)) = true
  | [] => rfl
  | n :: r => by
    rw [List.map_cons, PyData.canLayAll0, lay_ris c r, SeqAt.canLay_of_shaped (shaped_pair c n)]
    rfl
theorem dep_ris (c : Bool) : ∀ rs : Rs, PyData.depthAll (rs.map (pairD c)) ≤ 1
  | [] => Nat.zero_le _
  | n :: r => by
    rw [List.map_cons, PyData.depthAll]
    have h := dep_ris c r
    have h2 := dep_pair c n
    omega
theorem shaped_ris (b c : Bool) (rs : Rs) : SeqAt.shaped (risD b c rs) = true := by
  have h := dep_ris c rs
  unfold SeqAt.shaped risD
  cases b
  · show (PyData.canLayAll0 (rs.map (pairD c)) && decide (PyData.depthAll (rs.map (pairD c)) + 1 ≤ 64)) = true
    rw [lay_ris, decide_eq_true (by omega)]
    rfl
  · show (PyData.canLayAll0 (rs.map (pairD c)) && decide (PyData.depthAll (rs.map (pairD c)) + 1 ≤ 64)) = true
    rw [lay_ris, decide_eq_true (by omega)]
    rfl
section
variable {P : Program} {w : World} {K : PySem.W.Frag} {mg : Str → Option Value} {base : Heap} {f C : Addr} {fd : FuncData}
def spEq (C : Addr) (K : PySem.W.Frag) : Sp := fun vs H Q _ => ∃ (st nv : Option Int) (n m : Addr) (rs : Rs), vs = [.ref n, .ref m] ∧ NeedAt C K H n st rs nv ∧ NeedAt C K H m st rs nv ∧ Q (.bl true) H
theorem ok_eq (F : FnM K "__eq__" "Need.__eq__" s_Need___eq__ f fd) (isC : C8.InsC K C) (m_isinstance : mg "isinstance" = none) (g_Need : mg "Need" = some (.ref C)) (cls : Cls K C) (n_start : NoAttr K C "start") (n_rises : NoAttr K C "rises") (n_never : NoAttr K C "never") : FnOk P w K mg base CX0 1 f fd P_Need___eq__ (spEq C K) := by
  refine F.ok sc_Need___eq__ (fun vs H Q E h => ?_) (fun cdv A outer s H vs Q E hr h => ?_)
  · obtain ⟨st, nv, n, m, rs, rfl, _⟩ := h
    rfl
  · obtain ⟨st, nv, n, m, rs, rfl, ⟨dx, r, ps, hn, hR, _⟩, ⟨dx', r', ps', hm, hR', _⟩, q⟩ := h
    refine ⟨_, PSs.nox (pss_one (ps_ret (pe_and (pe_callB (C8.call_isC isC) (by rfl) m_isinstance (by decide +kernel) (pa_cons (pv 1) (pa_cons (pe_glob (by rfl) g_Need relv_ref) pa_nil))) (pe_and (pe_cmpR op_eq (pe_fld (pv 0) rfl) (pe_fld (pv 1) rfl) (nomark _)) (pe_and (pe_cmpR (op_eqD hr.units) (pe_fld (pv 0) rfl) (pe_fld (pv 1) rfl) (nomark _)) (pe_one (pe_cmpR op_eq (pe_fld (pv 0) rfl) (pe_fld (pv 1) rfl) (nomark _)))))))), ?_⟩
    walk_at "go"
    refine ⟨m, dx', _, rfl, hm, ?_⟩
    walk_at "go"
    refine ⟨(by cases st <;> rfl), ?_⟩
    walk_at "go"
    refine ite2 (fun _ => ?_) (fun e => absurd (decide_eq_true rfl) e)
    walk_at "go"
    refine same2 (d := risD false false rs) hR.dp hR'.dp (shaped_ris _ _ _) ?_
    rw [eqv_same (shaped_ris _ _ _)]
    walk_at "go"
    refine ⟨(by cases nv <;> rfl), ?_⟩
    rw [decide_eq_true rfl]
    walk_at "go"
    exact q
end
end Z
set_option pp.maxSteps 700
set_option Elab.async false
set_option linter.all false
set_option maxRecDepth 100000
set_option maxHeartbeats 4000000
namespace Z
open Nd
open PySem PySem.Spec PyProof.Rows L2
open C8 (pss_cut tCut)
local macro_rules | `(tactic| walk_at "num") => `(tactic| first | rfl | omega | decide | exact Nat.le_of_lt (small1000 (by simp)) | exact ⟨by omega, by omega⟩ | exact ⟨by omega, by omega, by omega⟩ | exact ⟨by decide, by decide, by decide⟩ | exact Or.inl ⟨by omega, by omega⟩ | exact Or.inr ⟨by omega, by omega⟩)
local macro_rules | `(tactic| walk_at "go") => `(tactic| repeat (first | refine ⟨_, rfl, ?_⟩ | refine ⟨_, _, rfl, rfl, ?_⟩ | refine ⟨_, _, rfl, ?_⟩ | refine ⟨_, _, rfl, rfl, (by walk_at "num"), ?_⟩ | refine Or.inl ⟨_, rfl, ?_⟩ | refine ⟨_, _, _, _, rfl, rfl, (by assumption), (by rfl), ?_⟩ | refine ⟨_, _, _, _, _, rfl, (by assumption), (by assumption), (by assumption), (by rfl), ?_⟩ | refine ⟨rfl, ?_⟩ | refine And.intro (by walk_at "num") ?_))
abbrev s_make : Stmt := topS 25
abbrev N_make : List Str := ["_law_need_here"]
abbrev P_make : List Str := ["_law_need_here"]
theorem sc_make : FnScope N_make P_make (defScope s_make) := ⟨rfl, rfl, rfl, by decide +kernel, rfl, by decide +kernel, by decide +kernel⟩
section
variable {P : Program} {w : World} {K : PySem.W.Frag} {mg : Str → Option Value} {base : Heap} {f C : Addr} {fd : FuncData}
/-- the law's own need: a list [start, rises, never] -/
def NL (K : PySem.W.Frag) (H : Hp) (l : Addr) (st : Option Int) (rs : Rs) (nv : Option Int) : Prop := ∃ t ps, SqL K H l [oV st, .ref t, oV nv] ∧ Ris false false K H t ps rs
theorem NL.mono {K : PySem.W.Frag} {H H' : Hp} {l : Addr} {st nv : Option Int} {rs : Rs} (s : Same H H') (h : NL K H l st rs nv) : NL K H' l st rs nv := by
  obtain ⟨t, ps, e, h2⟩ := h
  exact ⟨t, ps, s.seq e, h2.mono s⟩
def am : Option Int → Option Int → Bool
  | _, none => true
  | none, some _ => false
  | some x, some y => decide (x ≤ y)
/-! ### _law_make, _law_sound -/
def spMake (C : Addr) (K : PySem.W.Frag) : Sp := fun vs H Q _ => ∃ (st nv : Option Int) (l : Addr) (rs : Rs), vs = [.ref l] ∧ NL K H l st rs nv ∧ Ok st rs nv ∧ rs.length ≤ 100000 ∧ ∀ n H', Same H H' → NeedAt C K H' n st rs nv → Q (.ref n) H'
theorem ok_make (F : FnP K "_law_make" s_make f fd) (k_Need : Mak P w K mg base 2 "Need" (spNeed C K)) : FnOk P w K mg base CX0 4 f fd P_make (spMake C K) := by
  refine F.ok sc_make (fun vs H Q E h => ?_) (fun cdv A outer s H vs Q E hr h => ?_)
  · obtain ⟨st, nv, l, rs, rfl, _⟩ := h
    rfl
  · obtain ⟨st, nv, l, rs, rfl, ⟨t, ps, hl, hR⟩, ok, hb, q⟩ := h
    refine ⟨_, PSs.nox (pss_one (ps_ret (pe_mk k_Need hr (by decide) (by rfl) (pa_cons (pe_ix ix_list (pv 0) pe_int (fun _ _ => rfl)) (pa_cons (pe_ix ix_list (pv 0) pe_int (fun _ _ => rfl)) (pa_cons (pe_ix ix_list (pv 0) pe_int (fun _ _ => rfl)) pa_nil)))))), ?_⟩
    walk_at "go"
    exact ⟨false, false, st, nv, t, ps, rs, rfl, hR, hb, ok, fun n H' s1 _ h1 => q n H' s1 h1⟩
end
end Z
set_option pp.maxSteps 700
set_option Elab.async false
set_option linter.all false
set_option maxRecDepth 100000
set_option maxHeartbeats 4000000
namespace Z
open Nd
open PySem PySem.Spec PyProof.Rows L2
open C8 (pss_cut tCut)
local macro_rules | `(tactic| walk_at "num") => `(tactic| first | rfl | omega | decide | exact Nat.le_of_lt (small1000 (by simp)) | exact ⟨by omega, by omega⟩ | exact ⟨by omega, by omega, by omega⟩ | exact ⟨by decide, by decide, by decide⟩ | exact Or.inl ⟨by omega, by omega⟩ | exact Or.inr ⟨by omega, by omega⟩)
local macro_rules | `(tactic| walk_at "go") => `(tactic| repeat (first | refine ⟨_, rfl, ?_⟩ | refine ⟨_, _, rfl, rfl, ?_⟩ | refine ⟨_, _, rfl, ?_⟩ | refine ⟨_, _, rfl, rfl, (by walk_at "num"), ?_⟩ | refine Or.inl ⟨_, rfl, ?_⟩ | refine ⟨_, _, _, _, rfl, rfl, (by assumption), (by rfl), ?_⟩ | refine ⟨_, _, _, _, _, rfl, (by assumption), (by assumption), (by assumption), (by rfl), ?_⟩ | refine ⟨rfl, ?_⟩ | refine And.intro (by walk_at "num") ?_))
def LOk (st : Option Int) (rs : Rs) (nv : Option Int) : Prop := Ok st rs nv ∧ rs.length ≤ 5 ∧ ∀ s, st = some s → bnd s rs ≤ 10 ^ 39
theorem LOk.good {st nv : Option Int} {rs : Rs} (h : LOk st rs nv) : Good (-1) rs := by
  cases st with
  | none =>
    have : rs = [] := h.1.1
    rw [this]
    trivial
  | some s => exact h.1.1
theorem LOk.nv {rs : Rs} {nv : Option Int} (h : LOk none rs nv) : nv = none := by
  cases nv with
  | none => rfl
  | some v =>
    obtain ⟨t, e, _⟩ := h.1.2.2 v rfl
    cases e
theorem good_at : ∀ {rs : Rs} {e : Int} {i : Nat} {l : Int} {h : Option Int}, Good e rs → rs[i]? = some (l, h) → e < l ∧ ∀ y, h = some y → l < y
  | [], _, i, _, _, _, z => by cases i <;> cases z
  | (l, none) :: r, e, 0, _, _, g, z => by
    cases z
    exact ⟨g.1, nofun⟩
  | (l, some x) :: r, e, 0, _, _, g, z => by
    cases z
    exact ⟨g.1, fun y hy => by cases hy; exact g.2.1⟩
  | (l, none) :: r, e, i + 1, _, _, g, z => by
    have : r = [] := g.2
    subst this
    cases i <;> cases z
  | (l, some x) :: r, e, i + 1, _, _, g, z => by
    have g1 := g.1
    have g2 := g.2.1
    have ih := good_at (i := i) g.2.2 z
    exact ⟨by omega, ih.2⟩
end Z
set_option pp.maxSteps 700
set_option Elab.async false
set_option linter.all false
set_option maxRecDepth 100000
set_option maxHeartbeats 4000000
namespace Z
open Nd
open PySem PySem.Spec PyProof.Rows L2
open C8 (pss_cut tCut)
local macro_rules | `(tactic| walk_at "num") => `(tactic| first | rfl | omega | decide | exact Nat.le_of_lt (small1000 (by simp)) | exact ⟨by omega, by omega⟩ | exact ⟨by omega, by omega, by omega⟩ | exact ⟨by decide, by decide, by decide⟩ | exact Or.inl ⟨by omega, by omega⟩ | exact Or.inr ⟨by omega, by omega⟩)
local macro_rules | `(tactic| walk_at "go") => `(tactic| repeat (first | refine ⟨_, rfl, ?_⟩ | refine ⟨_, _, rfl, rfl, ?_⟩ | refine ⟨_, _, rfl, ?_⟩ | refine ⟨_, _, rfl, rfl, (by walk_at "num"), ?_⟩ | refine Or.inl ⟨_, rfl, ?_⟩ | refine ⟨_, _, _, _, rfl, rfl, (by assumption), (by rfl), ?_⟩ | refine ⟨_, _, _, _, _, rfl, (by assumption), (by assumption), (by assumption), (by rfl), ?_⟩ | refine ⟨rfl, ?_⟩ | refine And.intro (by walk_at "num") ?_))
abbrev s_need : Stmt := topS 24
abbrev N_need : List Str := ["_law_draws_here", "_law_place", "_law_kind", "_law_start", "_law_rises", "_law_top", "_law_edge", "_law_k", "_law_width", "_law_never"]
abbrev P_need : List Str := ["_law_draws_here", "_law_place"]
theorem sc_need : FnScope N_need P_need (defScope s_need) := ⟨rfl, rfl, rfl, by decide +kernel, rfl, by decide +kernel, by decide +kernel⟩
/-! ### closed pairs, ending before z -/
def Gd : Int → Rs → Int → Prop
  | e, [], z => e < z
  | e, (l, some h) :: r, z => e < l ∧ l < h ∧ Gd h r z
  | _, (_, none) :: _, _ => False
theorem Gd.good : ∀ {rs : Rs} {e z : Int}, Gd e rs z → Good e rs
  | [], _, _, _ => trivial
  | (_, some _) :: _, _, _, g => ⟨g.1, g.2.1, g.2.2.good⟩
  | (_, none) :: _, _, _, g => by cases g
theorem Gd.snoc : ∀ {rs : Rs} {e z h z' : Int}, Gd e rs z → z < h → h < z' → Gd e (rs ++ [(z, some h)]) z'
  | [], _, _, _, _, g, a, b => ⟨g, a, b⟩
  | (_, some _) :: _, _, _, _, _, g, a, b => ⟨g.1, g.2.1, g.2.2.snoc a b⟩
  | (_, none) :: _, _, _, _, _, g, _, _ => by cases g
theorem Gd.opened : ∀ {rs : Rs} {e z l : Int} {h : Option Int}, Gd e (rs ++ [(l, h)]) z → Good e (rs ++ [(l, none)])
  | [], _, _, _, some _, g => ⟨g.1, rfl⟩
  | [], _, _, _, none, g => by cases g
  | (_, some _) :: _, _, _, _, _, g => ⟨g.1, g.2.1, g.2.2.opened⟩
  | (_, none) :: _, _, _, _, _, g => by cases g
theorem top_snoc : ∀ {rs : Rs} {e z t T h : Int}, Gd e rs z → top t rs = some T → top t (rs ++ [(z, some h)]) = some (T + h - z)
  | [], _, z, t, T, h, _, e => by
    cases e
    rfl
  | (_, some _) :: r, _, _, _, _, _, g, e => top_snoc (rs := r) g.2.2 e
  | (_, none) :: _, _, _, _, _, _, g, _ => by cases g
theorem bnd_closed : ∀ {rs : Rs} {e z t T : Int}, Gd e rs z → top t rs = some T → bnd t rs = T
  | [], _, _, _, _, _, e => Option.some.inj e
  | (_, some _) :: r, _, _, _, _, g, e => bnd_closed (rs := r) g.2.2 e
  | (_, none) :: _, _, _, _, _, g, _ => by cases g
theorem bnd_open : ∀ {rs : Rs} {e z t T l : Int} {h : Option Int}, Gd e (rs ++ [(l, h)]) z → top t (rs ++ [(l, h)]) = some T → bnd t (rs ++ [(l, none)]) ≤ max T l ∧ l < z
  | [], e, z, t, T, l, some h, g, k => by
    have k : t + h - l = T := Option.some.inj k
    have g1 := g.2.1
    have g2 : h < z := g.2.2
    show (if l > t then l else t) ≤ _ ∧ _
    split <;> omega
  | [], _, _, _, _, _, none, g, _ => by cases g
  | (_, some _) :: r, _, _, _, _, _, _, g, k => bnd_open (rs := r) g.2.2 k
  | (_, none) :: _, _, _, _, _, _, _, g, _ => by cases g
/-! ### the draws -/
structure Tk (K : PySem.W.Frag) (a p : Addr) (ds : List Int) (n : Nat) (H0 H1 : Hp) : Prop where
  hA : H1 a = some (.lst (ds.map V.int))
  hd : Dr n ds
  ne : a ≠ p
  sb : SB p H0 H1
  pl : ∃ m : Nat, H1 p = some (.lst [.int (m : Int)])
theorem Tk.more {K : PySem.W.Frag} {a p : Addr} {ds : List Int} {n : Nat} {H0 H1 H2 : Hp} (t : Tk K a p ds n H0 H1) (s : Same H1 H2) : Tk K a p ds n H0 H2 := by
  obtain ⟨m, e⟩ := t.pl
  exact ⟨s _ _ t.hA, t.hd, t.ne, t.sb.trans (Z.Same.sb s), m, s _ _ e⟩
theorem Tk.mut {K : PySem.W.Frag} {a p q : Addr} {ds : List Int} {n : Nat} {H0 H1 : Hp} {o : HO} (t : Tk K a p ds n H0 H1) (h : H0 q = none) (h2 : SB q H1 (upd H1 q o)) (nq : q ≠ p) (na : upd H1 q o a = some (.lst (ds.map V.int))) : Tk K a p ds n H0 (upd H1 q o) := by
  obtain ⟨m, e⟩ := t.pl
  refine ⟨na, t.hd, t.ne, fun b u n1 n2 => ?_, m, h2 _ _ nq.symm e⟩
  exact h2 _ _ (ne_of_none n2 h) (t.sb b u n1 n2)
theorem Tk.next {K : PySem.W.Frag} {a p : Addr} {ds : List Int} {n m : Nat} {H0 H1 : Hp} (t : Tk K a p ds n H0 H1) (e : H1 p = some (.lst [.int (m : Int)])) : Tk K a p ds n H0 (upd H1 p (.lst [.int ((m + 1 : Nat) : Int)])) ∧ SB p H1 (upd H1 p (.lst [.int ((m + 1 : Nat) : Int)])) := by
  have sb : SB p H1 (upd H1 p (.lst [.int ((m + 1 : Nat) : Int)])) := SB.upd (Z.Same.sb (Same.refl H1))
  exact ⟨⟨sb _ _ t.ne t.hA, t.hd, t.ne, t.sb.trans sb, m + 1, upd_same⟩, sb⟩
/-! ### the list of pairs while it grows -/
def RisH (H : Hp) (a : Addr) (ps : List Addr) (rs : Rs) : Prop := H a = some (.lst (ps.map V.ref)) ∧ ps.length = rs.length ∧ ∀ (i : Nat) (p : Addr) (q : Int × Option Int), ps[i]? = some p → rs[i]? = some q → H p = some (.tup [.int q.1, oV q.2])
theorem RisH.sb {H H' : Hp} {a p : Addr} {ps : List Addr} {rs : Rs} {xs : List V} (s : SB p H H') (ne : a ≠ p) (hp : H p = some (.lst xs)) (r : RisH H a ps rs) : RisH H' a ps rs := ⟨s _ _ ne r.1, r.2.1, fun i q z h1 h2 => by
  have e := r.2.2 i q z h1 h2
  refine s _ _ (fun w => ?_) e
  rw [w, hp] at e
  cases e⟩
theorem RisH.more {H H' : Hp} {a : Addr} {ps : List Addr} {rs : Rs} (s : Same H H') (r : RisH H a ps rs) : RisH H' a ps rs := ⟨s _ _ r.1, r.2.1, fun i q z h1 h2 => s _ _ (r.2.2 i q z h1 h2)⟩
theorem RisH.ris {K : PySem.W.Frag} {H : Hp} {a : Addr} {ps : List Addr} {rs : Rs} (r : RisH H a ps rs) : Ris true false K H a ps rs := ⟨SqL.of r.1, r.2.1, fun i q z h1 h2 => .inl (.inl (r.2.2 i q z h1 h2))⟩
theorem RisH.snoc {H : Hp} {a T : Addr} {ps : List Addr} {rs : Rs} {x : Int} {y : Option Int} (r : RisH H a ps rs) (hT : H T = some (.tup [.int x, oV y])) : RisH (upd H a (.lst (ps.map V.ref ++ [.ref T]))) a (ps ++ [T]) (rs ++ [(x, y)]) := by
  have ne : ∀ {q : Addr} {xs : List V}, H q = some (.tup xs) → q ≠ a := fun e w => by
    rw [w, r.1] at e
    cases e
  refine ⟨by rw [upd_same, List.map_append]; rfl, by rw [List.length_append, List.length_append, r.2.1]; rfl, fun i q z h1 h2 => ?_⟩
  by_cases hlt : i < ps.length
  · rw [List.getElem?_append_left hlt] at h1
    rw [List.getElem?_append_left (by rw [← r.2.1]; exact hlt)] at h2
    have e := r.2.2 i q z h1 h2
    rw [upd_ne (ne e)]
    exact e
  · rw [List.getElem?_append_right (by omega)] at h1
    rw [List.getElem?_append_right (by rw [← r.2.1]; omega)] at h2
    have h3 : i - ps.length = 0 := by
      have := (List.getElem?_eq_some_iff.mp h1).1
      simp at this
      omega
    rw [h3] at h1
    rw [← r.2.1, h3] at h2
    obtain rfl : T = q := Option.some.inj h1
    obtain rfl := Option.some.inj h2
    rw [upd_ne (ne hT)]
    exact hT
theorem cut_last (xs : List V) (v : V) : cutV (xs ++ [v]) none (some (-1)) = xs := by
  unfold cutV
  have h0 : HT.sIx (xs ++ [v]).length 0 none = 0 := rfl
  have h1 : HT.sIx (xs ++ [v]).length (xs ++ [v]).length (some (-1)) = xs.length := by
    rw [List.length_append]
    show HT.sIx (xs.length + 1) (xs.length + 1) (some (-1)) = xs.length
    unfold HT.sIx
    simp
    omega
  rw [h0, h1]
  simp
section
variable {P : Program} {w : World} {K : PySem.W.Frag} {mg : Str → Option Value} {base : Heap} {f C : Addr} {fd : FuncData}
def spLN (K : PySem.W.Frag) : Sp := fun vs H Q _ => ∃ (a p : Addr) (n : Nat) (ds : List Int), vs = [.ref a, .ref p] ∧ Tk K a p ds n H H ∧ ∀ l H' st rs nv, SB p H H' → NL K H' l st rs nv → LOk st rs nv → Q (.ref l) H'
theorem ok_need (F : FnP K "_law_need" s_need f fd) (m_int : mg "int" = none) (m_range : mg "range" = none) (m_len : mg "len" = none) (m_tuple : mg "tuple" = none) (c_take : Cal P w K mg base 1 "_law_take" (spTake K)) : FnOk P w K mg base CX0 2 f fd P_need (spLN K) := by
  refine F.ok sc_need (fun vs H Q E h => ?_) (fun cdv A outer s H vs Q E hr h => ?_)
  · obtain ⟨a, p, n, ds, rfl, _⟩ := h
    rfl
  · obtain ⟨a, p, n, ds, rfl, hT, q⟩ := h
    have hS := hT.hA
    refine ⟨_, PSs.nox (pss_cons (ps_set (i := 2) sc_need.nd rfl (by first | exact .inl rfl | exact .inr rfl) (pe_cl c_take hr (by decide) (by rfl) (pa_cons (pv 0) (pa_cons (pv 1) pa_nil))))
      (pss_cons (ps_if (pt_cmpR op_eq (pe_op op_mod (pe_callTy call_int1 (by rfl) m_int (by decide +kernel) (pa_cons (pv 2) pa_nil)) pe_int) pe_int (nomark _)) (pss_one (ps_ret (pe_lst (pa_cons pe_non (pa_cons (pe_tup pa_nil) (pa_cons pe_non pa_nil)))))) pss_nil)
      (pss_cons (ps_set (i := 3) sc_need.nd rfl (by first | exact .inl rfl | exact .inr rfl) (pe_op op_mod (pe_callTy call_int1 (by rfl) m_int (by decide +kernel) (pa_cons (pe_cl c_take hr (by decide) (by rfl) (pa_cons (pv 0) (pa_cons (pv 1) pa_nil))) pa_nil)) pe_int))
      (pss_cut (ps_if (pt_cmpR op_eq (pe_op op_mod (pe_callTy call_int1 (by rfl) m_int (by decide +kernel) (pa_cons (pe_op op_fdiv (pv 2) pe_int) pa_nil)) pe_int) pe_int (nomark _)) (pss_one (ps_set (i := 3) sc_need.nd rfl (by first | exact .inl rfl | exact .inr rfl) (pe_op op_add (pv 3) (pe_op op_pow pe_int pe_int)))) pss_nil)
      (pss_cons (ps_set (i := 4) sc_need.nd rfl (by first | exact .inl rfl | exact .inr rfl) (pe_lst pa_nil))
      (pss_cons (ps_set (i := 5) sc_need.nd rfl (by first | exact .inl rfl | exact .inr rfl) (pv 3))
      (pss_cons (ps_set (i := 6) sc_need.nd rfl (by first | exact .inl rfl | exact .inr rfl) (pe_op op_mod (pe_callTy call_int1 (by rfl) m_int (by decide +kernel) (pa_cons (pe_cl c_take hr (by decide) (by rfl) (pa_cons (pv 0) (pa_cons (pv 1) pa_nil))) pa_nil)) pe_int))
      (pss_cons (ps_for PassesOwn.never rfl (pi_range1 (by rfl) m_range (pa_cons (pe_op op_mod (pe_callTy call_int1 (by rfl) m_int (by decide +kernel) (pa_cons (pe_cl c_take hr (by decide) (by rfl) (pa_cons (pv 0) (pa_cons (pv 1) pa_nil))) pa_nil)) pe_int) pa_nil)) (pg_name (i := 7) sc_need.nd rfl (by first | exact .inl rfl | exact .inr rfl))
        (pss_cons (ps_set (i := 8) sc_need.nd rfl (by first | exact .inl rfl | exact .inr rfl) (pe_op op_add pe_int (pe_op op_mod (pe_callTy call_int1 (by rfl) m_int (by decide +kernel) (pa_cons (pe_cl c_take hr (by decide) (by rfl) (pa_cons (pv 0) (pa_cons (pv 1) pa_nil))) pa_nil)) pe_int)))
      (pss_cut (ps_if (pt_cmpR op_eq (pe_op op_mod (pe_callTy call_int1 (by rfl) m_int (by decide +kernel) (pa_cons (pe_op op_fdiv (pv 2) pe_int) pa_nil)) pe_int) pe_int (nomark _)) (pss_one (ps_set (i := 8) sc_need.nd rfl (by first | exact .inl rfl | exact .inr rfl) (pe_op op_mul (pv 8) (pe_op op_pow pe_int pe_int)))) pss_nil)
      (pss_cons (ps_expr (pe_bm PySem.F.plainAttrs_list PySem.F.slot_list_append PySem.F.type_list_append mt_append (pv 4) (pa_cons (pe_tup (pa_cons (pv 6) (pa_cons (pe_op op_add (pv 6) (pv 8)) pa_nil))) pa_nil)))
      (pss_cons (ps_set (i := 5) sc_need.nd rfl (by first | exact .inl rfl | exact .inr rfl) (pe_op op_add (pv 5) (pv 8)))
      (pss_one (ps_set (i := 6) sc_need.nd rfl (by first | exact .inl rfl | exact .inr rfl) (pe_op op_add (pe_op op_add (pe_op op_add (pv 6) (pv 8)) pe_int) (pe_op op_mod (pe_callTy call_int1 (by rfl) m_int (by decide +kernel) (pa_cons (pe_cl c_take hr (by decide) (by rfl) (pa_cons (pv 0) (pa_cons (pv 1) pa_nil))) pa_nil)) pe_int)))))))))
      (pss_cut (ps_if (PW.pt (pw_and (pt_cmpR op_gt (pe_callB call_len_seq (by rfl) m_len PySem.boot_len (pa_cons (pv 4) pa_nil)) pe_int (nomark _)) (pw_and1 (pt_cmpR op_eq (pe_op op_mod (pe_callTy call_int1 (by rfl) m_int (by decide +kernel) (pa_cons (pe_op op_fdiv (pv 2) pe_int) pa_nil)) pe_int) pe_int (nomark _))))) (pss_one (ps_ret (pe_lst (pa_cons (pv 3) (pa_cons (pe_callTy call_tuple_of (by rfl) m_tuple (by decide +kernel) (pa_cons (pe_op op_cat (pe_slice sl_list (pv 4) po_none (po_some (pe_un un_neg pe_int))) (pe_lst (pa_cons (pe_tup (pa_cons (pe_ix ix_tup (pe_ix ix_list (pv 4) (pe_un un_neg pe_int) (fun _ _ => rfl)) pe_int (fun _ _ => rfl)) (pa_cons pe_non pa_nil))) pa_nil))) pa_nil)) (pa_cons pe_non pa_nil)))))) pss_nil)
      (pss_cons (ps_set (i := 9) sc_need.nd rfl (by first | exact .inl rfl | exact .inr rfl) pe_non)
      (pss_cut (ps_if (pt_cmpR op_eq (pe_op op_mod (pe_callTy call_int1 (by rfl) m_int (by decide +kernel) (pa_cons (pe_op op_fdiv (pv 2) pe_int) pa_nil)) pe_int) pe_int (nomark _)) (pss_one (ps_set (i := 9) sc_need.nd rfl (by first | exact .inl rfl | exact .inr rfl) (pe_op op_add (pv 5) (pe_op op_mod (pe_callTy call_int1 (by rfl) m_int (by decide +kernel) (pa_cons (pe_cl c_take hr (by decide) (by rfl) (pa_cons (pv 0) (pa_cons (pv 1) pa_nil))) pa_nil)) pe_int)))) pss_nil)
      (pss_one (ps_ret (pe_lst (pa_cons (pv 3) (pa_cons (pe_callTy call_tuple_of (by rfl) m_tuple (by decide +kernel) (pa_cons (pv 4) pa_nil)) (pa_cons (pv 9) pa_nil))))))))))))))))), ?_⟩
    walk_at "go"
    obtain ⟨m, em⟩ := hT.pl
    refine ⟨a, p, n, m, ds, rfl, SqL.of hT.hA, hT.hd, em, hT.ne, fun kd kd1 kd2 => ?_⟩
    obtain ⟨hT', sbkd⟩ := hT.next em
    generalize eH : upd H p (.lst [.int ((m + 1 : Nat) : Int)]) = H1 at hT' sbkd ⊢
    have hT0 := hT
    clear hT
    have hT := hT'
    clear hT'
    walk_at "go"
    refine ite2 (fun e => ?_) (fun e => ?_)
    · walk_at "go"
      intro t nt
      walk_at "go"
      intro l nl
      have s1 := same_new (o := .tup []) nt
      have s2 := same_new (o := .lst [.non, .ref t, .non]) nl
      refine q l _ none [] none ((hT.more s1).more s2).sb ⟨t, [], SqL.of upd_same, ris_nil (.inl (.inl (s2 _ _ upd_same)))⟩ ⟨⟨rfl, nofun, nofun⟩, by decide, nofun⟩
    · walk_at "go"
      obtain ⟨m, em⟩ := hT.pl
      refine ⟨a, p, n, m, ds, rfl, SqL.of hT.hA, hT.hd, em, hT.ne, fun ra ra1 ra2 => ?_⟩
      obtain ⟨hT', sbra⟩ := hT.next em
      generalize eH : upd H1 p (.lst [.int ((m + 1 : Nat) : Int)]) = H2 at hT' sbra ⊢
      have hT0 := hT
      clear hT
      have hT := hT'
      clear hT'
      walk_at "go"
      refine ⟨fun σ' H' => H' = H2 ∧ ∃ st : Int, 0 ≤ st ∧ st ≤ 2 * 10 ^ 30 ∧ σ' = [some (.ref a), some (.ref p), some (.int kd), some (.int st), none, none, none, none, none, none], ?_, ?_⟩
      · walk_at "go"
        refine ite2 (fun e => ?_) (fun e => ?_)
        · walk_at "go"
          have e30 : (10 : Int) ^ Int.toNat 30 = 1000000000000000000000000000000 := by decide
          exact ⟨_, by omega, by omega, rfl⟩
        · exact ⟨rfl, _, by omega, by omega, rfl⟩
      · rintro σ' H' ⟨rfl, st, b1, b2, rfl⟩
        walk_at "go"
        intro R nR
        have Rp : R ≠ p := by
          obtain ⟨m, em⟩ := hT.pl
          exact (ne_of_none em nR).symm
        have nR0 : H R = none := by
          cases e : H R with
          | none => rfl
          | some o =>
            have := hT.sb _ _ Rp e
            rw [this] at nR
            cases nR
        have aR : a ≠ R := ne_of_none hT.hA nR
        have hT0 := hT
        clear hT
        have hT := hT0.more (same_new (o := .lst []) nR)
        have hRR : RisH (upd H' R (.lst [])) R [] [] := ⟨upd_same, rfl, fun i p q h => nomatch h⟩
        generalize eR : upd H' R (.lst []) = H3 at hT hRR ⊢
        walk_at "go"
        obtain ⟨m, em⟩ := hT.pl
        refine ⟨a, p, n, m, ds, rfl, SqL.of hT.hA, hT.hd, em, hT.ne, fun rb rb1 rb2 => ?_⟩
        obtain ⟨hT', sbrb⟩ := hT.next em
        generalize eH : upd H3 p (.lst [.int ((m + 1 : Nat) : Int)]) = H4 at hT' sbrb ⊢
        have hT0 := hT
        clear hT
        have hT := hT'
        clear hT'
        walk_at "go"
        have hR4 := hRR.sb sbrb Rp em
        obtain ⟨m, em⟩ := hT.pl
        refine ⟨a, p, n, m, ds, rfl, SqL.of hT.hA, hT.hd, em, hT.ne, fun rc rc1 rc2 => ?_⟩
        obtain ⟨hT', sbrc⟩ := hT.next em
        generalize eH : upd H4 p (.lst [.int ((m + 1 : Nat) : Int)]) = H5 at hT' sbrc ⊢
        have hT0 := hT
        clear hT
        have hT := hT'
        clear hT'
        have hR5 := hR4.sb sbrc Rp em
        walk_at "go"
        refine for_gen (n := (rc % 6).toNat) (fun i σ H6 => ∃ (ps : List Addr) (rs : Rs) (T ed : Int) (v7 v8 : Option V), Tk K a p ds n H H6 ∧ RisH H6 R ps rs ∧ rs.length = i ∧ Gd (-1) rs ed ∧ top st rs = some T ∧ 0 ≤ T ∧ T ≤ 2 * 10 ^ 30 + i * 10 ^ 21 ∧ 0 ≤ ed ∧ ed ≤ 10 + i * 10 ^ 21 ∧ σ = [some (.ref a), some (.ref p), some (.int kd), some (.int st), some (.ref R), some (.int T), some (.int ed), v7, v8, none]) ⟨[], [], st, _, none, none, hT, hR5, rfl, ?_, rfl, b1, by omega, ?_, ?_, rfl⟩ (fun i σ H6 hi _ => hi) (fun σ H6 _ => Nat.le_refl _) ?_ ?_
        · show -1 < rb % 6
          omega
        · omega
        · omega
        · rintro i σ H6 x H7 hi ⟨ps, rs, T, ed, v7, v8, hT, hRi, hlen, hgd, htop, t1, t2, d1, d2, rfl⟩ ⟨rfl, rfl⟩
          walk_at "go"
          obtain ⟨m, em⟩ := hT.pl
          refine ⟨a, p, n, m, ds, rfl, SqL.of hT.hA, hT.hd, em, hT.ne, fun wa wa1 wa2 => ?_⟩
          obtain ⟨hT', sbwa⟩ := hT.next em
          generalize eH : upd H7 p (.lst [.int ((m + 1 : Nat) : Int)]) = H8 at hT' sbwa ⊢
          have hT0 := hT
          clear hT
          have hT := hT'
          clear hT'
          have hR8 := hRi.sb sbwa Rp em
          walk_at "go"
          refine ⟨fun σ' H9 => H9 = H8 ∧ ∃ wd : Int, 1 ≤ wd ∧ wd ≤ 6 * 10 ^ 20 ∧ σ' = [some (.ref a), some (.ref p), some (.int kd), some (.int st), some (.ref R), some (.int T), some (.int ed), some (.int (0 + (i : Int))), some (.int wd), none], ?_, ?_⟩
          · walk_at "go"
            refine ite2 (fun e => ?_) (fun e => ?_)
            · walk_at "go"
              have e20 : (10 : Int) ^ Int.toNat 20 = 100000000000000000000 := by decide
              refine ⟨_, ?_, ?_, rfl⟩ <;> rw [e20] <;> omega
            · exact ⟨rfl, _, by omega, by omega, rfl⟩
          · rintro σ' H9 ⟨rfl, wd, w1, w2, rfl⟩
            walk_at "go"
            refine ⟨.inl ⟨rfl, _, .inl (.inl hR8.1)⟩, ?_⟩
            walk_at "go"
            intro T0 nT0
            walk_at "go"
            have s9 : Same H9 (upd H9 T0 (.tup [.int ed, .int (ed + wd)])) := same_new nT0
            have hR9 := hR8.more s9
            have i5 : i < 6 := by omega
            refine ⟨_, _, _, rfl, rfl, hR9.1, ?_, ?_⟩
            · rw [List.length_map, hR9.2.1, hlen]
              exact Nat.lt_of_lt_of_le i5 (by decide)
            have hR10 := hR9.snoc (y := some (ed + wd)) upd_same
            have hT10 : Tk K a p ds n H (upd (upd H9 T0 (.tup [.int ed, .int (ed + wd)])) R (.lst (ps.map V.ref ++ [.ref T0]))) := by
              have h1 := hT.more s9
              have h2 : SB R (upd H9 T0 (.tup [.int ed, .int (ed + wd)])) (upd (upd H9 T0 (.tup [.int ed, .int (ed + wd)])) R (.lst (ps.map V.ref ++ [.ref T0]))) := SB.upd (Z.Same.sb (Same.refl _))
              exact h1.mut nR0 h2 Rp (h2 _ _ aR h1.hA)
            have hT0 := hT
            clear hT
            have hT := hT10
            generalize eX : upd (upd H9 T0 (.tup [.int ed, .int (ed + wd)])) R (.lst (ps.map V.ref ++ [.ref T0])) = H10 at hT hR10 ⊢
            walk_at "go"
            obtain ⟨m, em⟩ := hT.pl
            refine ⟨a, p, n, m, ds, rfl, SqL.of hT.hA, hT.hd, em, hT.ne, fun wb wb1 wb2 => ?_⟩
            obtain ⟨hT', sbwb⟩ := hT.next em
            generalize eH : upd H10 p (.lst [.int ((m + 1 : Nat) : Int)]) = H11 at hT' sbwb ⊢
            have hT0 := hT
            clear hT
            have hT := hT'
            clear hT'
            have hR11 := hR10.sb sbwb Rp em
            walk_at "go"
            refine ⟨_, _, _, _, _, _, hT, hR11, ?_, hgd.snoc (h := ed + wd) (by omega) (z' := ed + wd + 1 + wb % 6) (by omega), (top_snoc hgd htop).trans ?_, ?_, ?_, ?_, ?_, rfl⟩
            · rw [List.length_append, hlen]
              rfl
            · rw [show T + (ed + wd) - ed = T + wd by omega]
            · omega
            · omega
            · omega
            · omega
        · rintro σ H6 ⟨ps, rs, T, ed, v7, v8, hT, hRi, hlen, hgd, htop, t1, t2, d1, d2, rfl⟩
          have i5 : (rc % 6).toNat < 6 := by omega
          have e30 : (10 : Int) ^ 30 = 1000000000000000000000000000000 := by decide
          have e21 : (10 : Int) ^ 21 = 1000000000000000000000 := by decide
          have t3 : T ≤ 10 ^ 39 := by
            rw [e30, e21] at t2
            have e39 : (10 : Int) ^ 39 = 1000000000000000000000000000000000000000 := by decide
            omega
          have d3 : ed ≤ 10 ^ 39 := by
            rw [e21] at d2
            have e39 : (10 : Int) ^ 39 = 1000000000000000000000000000000000000000 := by decide
            omega
          refine cut_stay ?_ ?_
          · walk_at "go"
            refine ⟨R, _, rfl, .inl (SqL.of hRi.1), ?_⟩
            rw [List.length_map, hRi.2.1]
            walk_at "go"
            refine ite2 (fun e => ?_) (fun e => ?_)
            · have hl : 0 < rs.length := by
                have := of_decide_eq_true e
                omega
              walk_at "go"
              refine ite2 (fun e2 => ?_) (fun e2 => ?_)
              · rcases List.eq_nil_or_concat rs with rfl | ⟨r, ⟨x, h⟩, e3⟩
                · cases hl
                rw [List.concat_eq_append] at e3
                subst e3
                obtain ⟨ps', pl, rfl⟩ : ∃ qs q, ps = qs ++ [q] := by
                  rcases List.eq_nil_or_concat ps with e | ⟨qs, q, e⟩
                  · have := hRi.2.1
                    rw [e, List.length_append] at this
                    simp at this
                  · exact ⟨qs, q, by rw [e, List.concat_eq_append]⟩
                have el : ps'.length = r.length := by
                  have := hRi.2.1
                  rw [List.length_append, List.length_append] at this
                  simpa using this
                have epl : H6 pl = some (.tup [.int x, oV h]) := hRi.2.2 r.length pl (x, h) (by rw [List.getElem?_append_right (by omega), el, Nat.sub_self]; rfl) (by rw [List.getElem?_append_right (by omega), Nat.sub_self]; rfl)
                walk_at "go"
                refine ⟨R, _, rfl, SqL.of hRi.1, fun c1 nc1 => ?_⟩
                have ec : cutV ((ps' ++ [pl]).map V.ref) none (some (-1)) = ps'.map V.ref := by
                  rw [List.map_append]
                  exact cut_last _ _
                rw [ec]
                have s1 := same_new (o := .lst (ps'.map V.ref)) nc1
                have hpl : SqT K _ pl [.int x, oV h] := .inl (.inl (s1 _ _ epl))
                walk_at "go"
                refine ⟨R, _, _, _, rfl, rfl, SqL.of (s1 _ _ hRi.1), (by rw [List.map_append]; exact atI_last _ _), ?_⟩
                walk_at "go"
                intro c2 nc2
                have s2 := same_new (o := .tup [.int x, .non]) nc2
                walk_at "go"
                intro c3 nc3
                have s3 := same_new (o := .lst [.ref c2]) nc3
                walk_at "go"
                refine ⟨c1, c3, _, _, rfl, rfl, s3 _ _ (s2 _ _ upd_same), upd_same, ?_, fun c4 nc4 => ?_⟩
                · rw [List.length_map, el]
                  rw [List.length_append] at hlen
                  exact Nat.le_trans (show r.length + 1 ≤ 1000 by omega) (by decide)
                have s4 := same_new (o := .lst (ps'.map V.ref ++ [.ref c2])) nc4
                walk_at "go"
                refine ⟨c4, _, rfl, .inl ⟨.inl (.inl upd_same), fun t nt => ?_⟩⟩
                have s5 := same_new (o := .tup (ps'.map V.ref ++ [.ref c2])) nt
                walk_at "go"
                intro l nl
                have s6 := same_new (o := .lst [.int st, .ref t, .non]) nl
                have s16 := s1.trans (s2.trans (s3.trans (s4.trans (s5.trans s6))))
                obtain ⟨g1, g2⟩ := bnd_open hgd htop
                refine q l _ (some st) (r ++ [(x, none)]) none (hT.more s16).sb ⟨t, ps' ++ [c2], SqL.of upd_same, .inl (.inl ?_), ?_, ?_⟩ ⟨⟨hgd.opened, fun s hs => by cases hs; exact b1, nofun⟩, ?_, fun s hs => ?_⟩
                · rw [List.map_append]
                  exact s6 _ _ upd_same
                · rw [List.length_append, List.length_append, el]
                  rfl
                · intro i p1 q1 h1 h2
                  by_cases hlt : i < ps'.length
                  · rw [List.getElem?_append_left hlt] at h1
                    rw [List.getElem?_append_left (by rw [← el]; exact hlt)] at h2
                    exact .inl (.inl (s16 _ _ (hRi.2.2 i p1 q1 (by rw [List.getElem?_append_left hlt]; exact h1) (by rw [List.getElem?_append_left (by rw [← el]; exact hlt)]; exact h2))))
                  · rw [List.getElem?_append_right (by omega)] at h1
                    rw [List.getElem?_append_right (by omega)] at h2
                    have h3 : i - ps'.length = 0 := by
                      have := (List.getElem?_eq_some_iff.mp h1).1
                      simp at this
                      omega
                    rw [h3] at h1
                    rw [← el, h3] at h2
                    obtain rfl : c2 = p1 := Option.some.inj h1
                    obtain rfl := Option.some.inj h2
                    exact .inl (.inl (s6 _ _ (s5 _ _ (s4 _ _ (s3 _ _ upd_same)))))
                · rw [List.length_append] at hlen ⊢
                  have : ([(x, (none : Option Int))]).length = 1 := rfl
                  have : ([(x, h)]).length = 1 := rfl
                  omega
                · cases hs
                  have e39 : (10 : Int) ^ 39 = 1000000000000000000000000000000000000000 := by decide
                  have e40 : (10 : Int) ^ 39 = 1000000000000000000000000000000000000000 := by decide
                  rw [e40]
                  rw [e39] at t3 d3
                  omega
              · exact ⟨rfl, rfl⟩
            · walk_at "go"
              rfl
          · walk_at "go"
            refine ⟨fun σ' H7 => ∃ nv : Option Int, Tk K a p ds n H H7 ∧ RisH H7 R ps rs ∧ (∀ v, nv = some v → T ≤ v) ∧ σ' = [some (.ref a), some (.ref p), some (.int kd), some (.int st), some (.ref R), some (.int T), some (.int ed), v7, v8, some (oV nv)], ?_, ?_⟩
            · walk_at "go"
              refine ite2 (fun e => ?_) (fun e => ?_)
              · walk_at "go"
                obtain ⟨m, em⟩ := hT.pl
                refine ⟨a, p, n, m, ds, rfl, SqL.of hT.hA, hT.hd, em, hT.ne, fun na na1 na2 => ?_⟩
                obtain ⟨hT', sbna⟩ := hT.next em
                generalize eH : upd H6 p (.lst [.int ((m + 1 : Nat) : Int)]) = H7 at hT' sbna ⊢
                have hT0 := hT
                clear hT
                have hT := hT'
                clear hT'
                have hR7 := hRi.sb sbna Rp em
                walk_at "go"
                exact ⟨some (T + na % 5), hT, hR7, fun v hv => by cases hv; omega, rfl⟩
              · exact ⟨none, hT, hRi, nofun, rfl⟩
            · rintro σ' H7 ⟨nv, hT, hR7, hnv, rfl⟩
              walk_at "go"
              refine ⟨R, _, rfl, .inl ⟨.inl (.inl hR7.1), fun t nt => ?_⟩⟩
              walk_at "go"
              intro l nl
              have s1 : Same H7 (upd H7 t (.tup (ps.map V.ref))) := same_new nt
              have s2 := same_new (o := .lst [.int st, .ref t, oV nv]) nl
              have r1 : Ris true false K H7 R ps rs := hR7.ris
              have r2 : Ris false false K (upd H7 t (.tup (ps.map V.ref))) t ps rs := ⟨.inl (.inl upd_same), hR7.2.1, fun i p q h1 h2 => Z.Same.sqK s1 (r1.2.2 i p q h1 h2)⟩
              refine q l _ (some st) rs nv ((hT.more s1).more s2).sb ⟨t, ps, SqL.of upd_same, r2.mono s2⟩ ⟨⟨hgd.good, fun s hs => by cases hs; exact b1, fun v hv => ⟨T, htop, hnv v hv⟩⟩, by omega, fun s hs => ?_⟩
              cases hs
              rw [bnd_closed hgd htop]
              exact Int.le_trans t3 (by decide)
end
end Z
set_option Elab.async false
set_option linter.all false
set_option maxRecDepth 100000
set_option maxHeartbeats 4000000
namespace Z
open PySem PySem.Spec PyProof.Rows L2
/-! ### sorted(xs, key=int), xs a list of ints -/
def IsI (v : Value) (i : Int) : Prop := ∃ t, v = .int i t
theorem eachI : ∀ {ns : List Int} {us : List Value}, Vals (ns.map V.int) us → PySem.W.EachIs IsI us ns
  | [], _, .nil => .nil
  | n :: ns, _, .cons h r => .cons h (eachI r)
theorem eachV : ∀ {ns : List Int} {us : List Value}, PySem.W.EachIs IsI us ns → Vals (ns.map V.int) us
  | _, _, .nil => .nil
  | _, _, .cons h r => .cons h (eachV r)
theorem le_int (a b : Int) : PySem.W.dataLe false PyData.int a b = decide (a ≤ b) := by
  show (!PyProof.Rows.lexLt PyProof.Rows.itemOrd [.inl b] [.inl a]) = _
  have e : PyProof.Rows.lexLt PyProof.Rows.itemOrd [.inl b] [.inl a] = decide (b < a) := by
    by_cases h : b < a
    · simp [PyProof.Rows.lexLt, PyProof.Rows.itemLt, h]
    · simp [PyProof.Rows.lexLt, PyProof.Rows.itemLt, h]
  rw [e]
  by_cases h : b < a
  · rw [decide_eq_true h, decide_eq_false (by omega)]
    rfl
  · rw [decide_eq_false h, decide_eq_true (by omega)]
    rfl
theorem cr_sortedInt {X : Cx} (hu : X.A.units + 64 < cLine) : CallRK X (.builtin "sorted") [Str.ofString "key"] (rSortedKw X.K false [.ty "int"]) := by
  intro pins s σ H vs zs us ws Q I r rz h
  obtain ⟨a, ns, rfl, rfl, hs, q⟩ := h
  obtain rfl := Vals.ref1 r
  obtain ⟨w1, rfl, e1⟩ := vals1 rz
  obtain rfl : w1 = Value.type "int" := e1
  obtain ⟨its, rv, hl, hz⟩ := I.list hs
  have hE := eachI rv
  rw [List.length_map] at hz
  refine PySem.W.sorted_key_data (β := Int) (b := false) (f := .type "int") PyData.int hl.isList hE ?_ ?_ hz ?_ (PyProof.Rows.ksk_s1 _ _) (fun _ => PyProof.Rows.ksk_l1 _ _) (fun _ => rfl) ?_ ?_
  · intro d hd d' hd'
    obtain ⟨x, _, rfl⟩ := List.mem_map.mp hd
    obtain ⟨y, _, rfl⟩ := List.mem_map.mp hd'
    rfl
  · refine .inr fun d hd => ?_
    obtain ⟨x, _, rfl⟩ := List.mem_map.mp hd
    exact ⟨nofun, nofun⟩
  · intro x _
    show X.A.units + 2 + 0 < cLine
    omega
  · rintro v x ⟨t, rfl⟩ _ h tk hk
    exact call_int_int ⟨h, tk, rfl, fun _ _ e => e, .int x t⟩
  · intro out c h' tk hk hn ha hlen he
    have hp : (ns.mergeSort (PySem.W.dataLe false PyData.int)).Perm ns := List.mergeSort_perm _ _
    have hs2 : (ns.mergeSort (PySem.W.dataLe false PyData.int)).Pairwise (· ≤ ·) := by
      have := PySem.W.sort_pairwise (PySem.W.sortLe_total (PyProof.Rows.listOrd PyProof.Rows.itemOrd) false fun b : Int => PySem.W.keyToks (PyData.int b)) ns
      refine List.Pairwise.imp ?_ this
      intro x y h
      have h : PySem.W.dataLe false PyData.int x y = true := h
      rw [le_int] at h
      exact of_decide_eq_true h
    refine ⟨.ref _, upd H (s.heap.objs.size + 1) (.lst ((ns.mergeSort (PySem.W.dataLe false PyData.int)).map V.int)), I.laid (t' := tk) hk (Nat.le_succ _) ⟨?_, out, c, eachV he, ha⟩, rfl, q _ _ hp hs2 (I.hok.fresh (Nat.le_succ _))⟩
    rw [List.length_map, hp.length_eq]
    exact hz
end Z
set_option Elab.async false
set_option linter.all false
namespace Nd
/-! ### does the function rise behind m -/
def upP (m : Int) (p : Int × Option Int) : Bool := decide (p.1 ≤ m) && (match p.2 with
  | none => true
  | some h => decide (m < h))
def up (rs : Rs) (m : Int) : Bool := rs.any (upP m)
theorem up_nil (m : Int) : up [] m = false := rfl
theorem up_cons (p : Int × Option Int) (rs : Rs) (m : Int) : up (p :: rs) m = (upP m p || up rs m) := rfl
def Edge (rs : Rs) (x : Int) : Prop := ∃ p ∈ rs, p.1 = x ∨ p.2 = some x
theorem Edge.tail {p : Int × Option Int} {rs : Rs} {x : Int} (h : Edge rs x) : Edge (p :: rs) x := by
  obtain ⟨q, hq, h⟩ := h
  exact ⟨q, List.mem_cons_of_mem _ hq, h⟩
theorem Edge.lo {l : Int} {h : Option Int} {rs : Rs} : Edge ((l, h) :: rs) l := ⟨_, List.mem_cons_self .., .inl rfl⟩
theorem Edge.hi {l h : Int} {rs : Rs} : Edge ((l, some h) :: rs) h := ⟨_, List.mem_cons_self .., .inr rfl⟩
/-- no end lies strictly between m and k -/
def Calm (rs : Rs) (m k : Int) : Prop := ∀ x, Edge rs x → ¬ (m < x ∧ x < k)
theorem up_low : ∀ {rs : Rs} {e m : Int}, Good e rs → m ≤ e → up rs m = false
  | [], _, _, _, _ => rfl
  | (l, none) :: r, e, m, g, h => by
    have g1 := g.1
    have g2 := g.2
    subst g2
    rw [up_cons, up_nil]
    show ((decide (l ≤ m) && true) || false) = false
    rw [decide_eq_false (by omega)]
    rfl
  | (l, some y) :: r, e, m, g, h => by
    have g1 := g.1
    have g2 := g.2.1
    rw [up_cons, up_low g.2.2 (show m ≤ y by omega)]
    show ((decide (l ≤ m) && decide (m < y)) || false) = false
    rw [decide_eq_false (by omega)]
    rfl
theorem aff : ∀ {rs : Rs} {e m k : Int}, Good e rs → m ≤ k → Calm rs m k → (up rs m = true ∧ Fs rs k = Fs rs m + (k - m)) ∨ (up rs m = false ∧ Fs rs k = Fs rs m)
  | [], _, _, _, _, _, _ => .inr ⟨rfl, rfl⟩
  | (l, none) :: r, e, m, k, g, hk, hc => by
    have g2 := g.2
    subst g2
    have c1 := hc l Edge.lo
    rw [up_cons, up_nil, Fs_cons, Fs_cons, Fs_nil, Fs_nil]
    by_cases h : l ≤ m
    · refine .inl ⟨?_, ?_⟩
      · show ((decide (l ≤ m) && true) || false) = true
        rw [decide_eq_true h]
        rfl
      · unfold rise
        dsimp only
        (repeat' split) <;> omega
    · refine .inr ⟨?_, ?_⟩
      · show ((decide (l ≤ m) && true) || false) = false
        rw [decide_eq_false h]
        rfl
      · rw [rise_zero (show k ≤ l by omega), rise_zero (show m ≤ l by omega)]
  | (l, some y) :: r, e, m, k, g, hk, hc => by
    have g1 := g.1
    have g2 := g.2.1
    have c1 := hc l Edge.lo
    have c2 := hc y Edge.hi
    have ih := aff g.2.2 hk (fun x hx => hc x hx.tail)
    rw [up_cons, Fs_cons, Fs_cons]
    have eu : upP m (l, some y) = (decide (l ≤ m) && decide (m < y)) := rfl
    by_cases h : l ≤ m
    · by_cases h2 : m < y
      · have z1 : Fs r k = 0 := Fs_zero g.2.2 (by omega)
        have z2 : Fs r m = 0 := Fs_zero g.2.2 (by omega)
        refine .inl ⟨?_, ?_⟩
        · rw [eu, decide_eq_true h, decide_eq_true h2]
          rfl
        · rw [z1, z2]
          unfold rise
          dsimp only
          (repeat' split) <;> omega
      · rw [eu, decide_eq_false h2, Bool.and_false, Bool.false_or]
        have e1 : rise k (l, some y) = y - l := by
          rw [rise_some (by omega), if_neg (by omega)]
        have e2 : rise m (l, some y) = y - l := by
          rw [rise_some (by omega), if_neg (by omega)]
        rw [e1, e2]
        rcases ih with ⟨i1, i2⟩ | ⟨i1, i2⟩
        · exact .inl ⟨i1, by omega⟩
        · exact .inr ⟨i1, by omega⟩
    · rw [eu, decide_eq_false h, Bool.false_and, Bool.false_or, rise_zero (show k ≤ l by omega), rise_zero (show m ≤ l by omega)]
      rcases ih with ⟨i1, i2⟩ | ⟨i1, i2⟩
      · exact .inl ⟨i1, by omega⟩
      · exact .inr ⟨i1, by omega⟩
theorem Fs0 {rs : Rs} (g : Good (-1) rs) : Fs rs 0 = 0 := by
  cases rs with
  | nil => rfl
  | cons p r =>
    obtain ⟨l, h⟩ := p
    have : 0 ≤ l := by
      cases h with
      | none => have := g.1; omega
      | some y => have := g.1; omega
    exact Fs_stop g (i := 0) rfl this
/-- behind pairs that have ended -/
theorem up_skip {l h m : Int} {r : Rs} (hm : h ≤ m) : up ((l, some h) :: r) m = up r m := by
  rw [up_cons]
  show ((decide (l ≤ m) && decide (m < h)) || _) = _
  rw [decide_eq_false (show ¬ m < h by omega), Bool.and_false, Bool.false_or]
theorem up_now {e l m : Int} {h : Option Int} {r : Rs} (g : Good e ((l, h) :: r)) (hm : ∀ y, h = some y → m < y) : up ((l, h) :: r) m = decide (l ≤ m) := by
  cases h with
  | none =>
    have g2 := g.2
    subst g2
    rw [up_cons, up_nil]
    show ((decide (l ≤ m) && true) || false) = _
    simp
  | some y =>
    have h1 := hm y rfl
    rw [up_cons, up_low g.2.2 (show m ≤ y by omega)]
    show ((decide (l ≤ m) && decide (m < y)) || false) = _
    rw [decide_eq_true h1]
    simp
/-- flat behind all ends: not above the bound -/
theorem flat_bnd : ∀ {rs : Rs} {e t x : Int}, Good e rs → up rs x = false → (∀ z, Edge rs z → z ≤ x) → t + Fs rs x ≤ bnd t rs
  | [], _, t, x, _, _, _ => by
    rw [Fs_nil]
    show t + 0 ≤ t
    omega
  | (l, none) :: r, e, t, x, g, hu, he => by
    rw [up_now g (fun y hy => by cases hy), decide_eq_true (he l Edge.lo)] at hu
    cases hu
  | (l, some h) :: r, e, t, x, g, hu, he => by
    have g2 := g.2.1
    have h1 := he h Edge.hi
    rw [up_skip h1] at hu
    have ih := flat_bnd (t := t + h - l) g.2.2 hu (fun z hz => he z hz.tail)
    rw [Fs_cons, rise_some (by omega), if_neg (by omega)]
    show _ ≤ bnd (t + h - l) r
    omega
theorem bnd_add : ∀ (rs : Rs) {t c : Int}, 0 ≤ c → bnd (t + c) rs ≤ bnd t rs + c
  | [], t, c, _ => Int.le_refl _
  | (l, none) :: r, t, c, h => by
    show (if l > t + c then l else t + c) ≤ (if l > t then l else t) + c
    (repeat' split) <;> omega
  | (l, some x) :: r, t, c, h => by
    have := bnd_add r (t := t + x - l) h
    show bnd (t + c + x - l) r ≤ bnd (t + x - l) r + c
    rw [show t + c + x - l = t + x - l + c by omega]
    exact this
/-! ### the least k with d k above 0 -/
def Below (d : Int → Int) (b : Int) : Prop := ∀ k, 0 ≤ k → k < b → d k ≤ 0
def FA (d : Int → Int) : Option Int → Prop
  | some x => 0 ≤ x ∧ 0 < d x ∧ Below d x
  | none => ∀ k, 0 ≤ k → d k ≤ 0
theorem FA.uniq {d : Int → Int} {a b : Option Int} (ha : FA d a) (hb : FA d b) : a = b := by
  cases a with
  | none =>
    cases b with
    | none => rfl
    | some y =>
      have h1 := ha y hb.1
      have h2 := hb.2.1
      omega
  | some x =>
    cases b with
    | none =>
      have h1 := hb x ha.1
      have h2 := ha.2.1
      omega
    | some y =>
      obtain ⟨x1, x2, x3⟩ := ha
      obtain ⟨y1, y2, y3⟩ := hb
      by_cases h : x < y
      · have := y3 x x1 h
        omega
      by_cases h2 : y < x
      · have := x3 y y1 h2
        omega
      · congr 1
        omega
def dif (s : Int) (rs : Rs) (s' : Int) (rs' : Rs) (k : Int) : Int := (s + Fs rs k) - (s' + Fs rs' k)
section
variable {s s' m M : Int} {rs rs' : Rs}
/-- one stretch: the difference keeps its slope -/
theorem stretch (g : Good (-1) rs) (g' : Good (-1) rs') (hc : Calm rs m M) (hc' : Calm rs' m M) {k : Int} (h1 : m ≤ k) (h2 : k ≤ M) :
    (up rs m = true ∧ up rs' m = false ∧ dif s rs s' rs' k = dif s rs s' rs' m + (k - m)) ∨ ((up rs m && !up rs' m) = false ∧ dif s rs s' rs' k ≤ dif s rs s' rs' m) := by
  have a := aff (k := k) g h1 (fun x hx z => hc x hx ⟨z.1, by omega⟩)
  have b := aff (k := k) g' h1 (fun x hx z => hc' x hx ⟨z.1, by omega⟩)
  unfold dif
  rcases a with ⟨a1, a2⟩ | ⟨a1, a2⟩ <;> rcases b with ⟨b1, b2⟩ | ⟨b1, b2⟩
  · exact .inr ⟨by rw [a1, b1]; rfl, by omega⟩
  · exact .inl ⟨a1, b1, by omega⟩
  · exact .inr ⟨by rw [a1, b1]; rfl, by omega⟩
  · exact .inr ⟨by rw [a1, b1]; rfl, by omega⟩
theorem below_next (g : Good (-1) rs) (g' : Good (-1) rs') (hc : Calm rs m M) (hc' : Calm rs' m M) (hb : Below (dif s rs s' rs') m) (hd : dif s rs s' rs' m ≤ 0) (h : (up rs m && !up rs' m) = false ∨ M ≤ m + 1 - dif s rs s' rs' m) : Below (dif s rs s' rs') M := by
  intro k k0 k1
  by_cases hk : k < m
  · exact hb k k0 hk
  · rcases stretch (s := s) (s' := s') g g' hc hc' (k := k) (by omega) (by omega) with ⟨u1, u2, e⟩ | ⟨_, e⟩
    · rcases h with h | h
      · rw [u1, u2] at h
        cases h
      · omega
    · omega
theorem found_next (g : Good (-1) rs) (g' : Good (-1) rs') (hc : Calm rs m M) (hc' : Calm rs' m M) (h0 : 0 ≤ m) (hb : Below (dif s rs s' rs') m) (hd : dif s rs s' rs' m ≤ 0) (hu : (up rs m && !up rs' m) = true) (hM : m + 1 - dif s rs s' rs' m ≤ M) : FA (dif s rs s' rs') (some (m + 1 - dif s rs s' rs' m)) := by
  have st : ∀ k, m ≤ k → k ≤ M → dif s rs s' rs' k = dif s rs s' rs' m + (k - m) := fun k k1 k2 => by
    rcases stretch (s := s) (s' := s') g g' hc hc' k1 k2 with ⟨u1, u2, e⟩ | ⟨u, e⟩
    · exact e
    · rw [hu] at u
      cases u
  refine ⟨by omega, ?_, fun k k0 k1 => ?_⟩
  · rw [st _ (by omega) hM]
    omega
  · by_cases hk : k < m
    · exact hb k k0 hk
    · rw [st k (by omega) (by omega)]
      omega
/-- the law's way: look at the place by the gap -/
theorem found_gap (g : Good (-1) rs) (g' : Good (-1) rs') (hc : Calm rs m M) (hc' : Calm rs' m M) (h0 : 0 ≤ m) (hb : Below (dif s rs s' rs') m) (hd : dif s rs s' rs' m ≤ 0) (hM : m + 1 - dif s rs s' rs' m ≤ M) (hp : 0 < dif s rs s' rs' (m + 1 - dif s rs s' rs' m)) : FA (dif s rs s' rs') (some (m + 1 - dif s rs s' rs' m)) := by
  refine found_next g g' hc hc' h0 hb hd ?_ hM
  rcases stretch (s := s) (s' := s') g g' hc hc' (k := m + 1 - dif s rs s' rs' m) (by omega) hM with ⟨u1, u2, e⟩ | ⟨u, e⟩
  · rw [u1, u2]
    rfl
  · omega
theorem below_gap (g : Good (-1) rs) (g' : Good (-1) rs') (hc : Calm rs m M) (hc' : Calm rs' m M) (hb : Below (dif s rs s' rs') m) (hd : dif s rs s' rs' m ≤ 0) (h : m + 1 - dif s rs s' rs' m < M → dif s rs s' rs' (m + 1 - dif s rs s' rs' m) ≤ 0) : Below (dif s rs s' rs') M := by
  refine below_next g g' hc hc' hb hd ?_
  by_cases hM : m + 1 - dif s rs s' rs' m < M
  · have hh := h hM
    rcases stretch (s := s) (s' := s') g g' hc hc' (k := m + 1 - dif s rs s' rs' m) (by omega) (by omega) with ⟨u1, u2, e⟩ | ⟨u, e⟩
    · omega
    · exact .inl u
  · exact .inr (by omega)
/-- behind the last end -/
theorem below_all (g : Good (-1) rs) (g' : Good (-1) rs') (he : ∀ x, Edge rs x → x ≤ m) (he' : ∀ x, Edge rs' x → x ≤ m) (hb : Below (dif s rs s' rs') m) (hd : dif s rs s' rs' m ≤ 0) (h : (up rs m && !up rs' m) = false) : FA (dif s rs s' rs') none := by
  intro k k0
  have c : ∀ {q : Rs}, (∀ x, Edge q x → x ≤ m) → Calm q m (k + 1) := fun hq x hx z => by
    have := hq x hx
    omega
  by_cases hk : k < m
  · exact hb k k0 hk
  · exact below_next g g' (c he) (c he') hb hd (.inl h) k k0 (by omega)
theorem below_far (g : Good (-1) rs) (g' : Good (-1) rs') (hs : 0 ≤ s) (he : ∀ x, Edge rs x → x ≤ m) (he' : ∀ x, Edge rs' x → x ≤ m) (h0 : 0 ≤ m) {B : Int} (hB : bnd s' rs' + 1 < B) (hb : Below (dif s rs s' rs') (m + B)) (hB0 : 0 < B) : FA (dif s rs s' rs') none := by
  have hd : dif s rs s' rs' m ≤ 0 := hb m h0 (by omega)
  cases hu : (up rs m && !up rs' m) with
  | false => exact below_all g g' he he' (fun k k0 k1 => hb k k0 (by omega)) hd hu
  | true =>
    have hu2 : up rs' m = false := by
      cases e : up rs' m with
      | false => rfl
      | true =>
        rw [e] at hu
        simp at hu
    have b1 := flat_bnd (t := s') g' hu2 he'
    have f0 := (Fs_slope (x := m) (y := m) (Int.le_refl _) g).1
    have hgap : - dif s rs s' rs' m ≤ bnd s' rs' := by
      unfold dif
      omega
    have c : ∀ {q : Rs}, (∀ x, Edge q x → x ≤ m) → Calm q m (m + B) := fun hq x hx z => by
      have := hq x hx
      omega
    have fd := found_next g g' (c he) (c he') h0 (fun k k0 k1 => hb k k0 (by omega)) hd hu (by omega)
    have h1 := hb _ fd.1 (by omega)
    have h2 := fd.2.1
    omega
end
/-! ### where the rises come to an amount -/
def rp : Rs → Int → Option Int
  | [], _ => none
  | (l, none) :: _, A => some (l + A)
  | (l, some h) :: r, A => if h - l ≥ A then some (l + A) else rp r (A - (h - l))
theorem rp_spec : ∀ {rs : Rs} {e A : Int}, Good e rs → 1 ≤ A → match rp rs A with
    | some x => e + 1 < x ∧ ∀ y, A ≤ Fs rs y ↔ x ≤ y
    | none => ∀ y, Fs rs y < A
  | [], e, A, _, hA => fun y => by rw [Fs_nil]; omega
  | (l, none) :: r, e, A, g, hA => by
    have g1 := g.1
    have g2 := g.2
    subst g2
    refine ⟨by omega, fun y => ?_⟩
    rw [Fs_cons, Fs_nil]
    by_cases h : y ≤ l
    · rw [rise_zero h]
      constructor <;> intro <;> omega
    · rw [rise_none (by omega)]
      constructor <;> intro <;> omega
  | (l, some h) :: r, e, A, g, hA => by
    have g1 := g.1
    have g2 := g.2.1
    unfold rp
    by_cases c : h - l ≥ A
    · rw [if_pos c]
      refine ⟨by omega, fun y => ?_⟩
      rw [Fs_cons]
      by_cases h1 : y ≤ l
      · rw [rise_zero h1, Fs_zero g.2.2 (by omega)]
        constructor <;> intro <;> omega
      · rw [rise_some (by omega)]
        by_cases h2 : y < h
        · rw [if_pos h2, Fs_zero g.2.2 (by omega)]
          constructor <;> intro <;> omega
        · rw [if_neg h2]
          have := (Fs_slope (x := y) (y := y) (Int.le_refl _) g.2.2).1
          constructor <;> intro <;> omega
    · rw [if_neg c]
      have ih := rp_spec (rs := r) (e := h) (A := A - (h - l)) g.2.2 (by omega)
      have low : ∀ y, y < h → Fs ((l, some h) :: r) y < A := fun y hy => by
        rw [Fs_cons, Fs_zero g.2.2 (by omega)]
        by_cases h1 : y ≤ l
        · rw [rise_zero h1]; omega
        · rw [rise_some (by omega), if_pos hy]; omega
      have high : ∀ y, h ≤ y → Fs ((l, some h) :: r) y = (h - l) + Fs r y := fun y hy => by
        rw [Fs_cons, rise_some (by omega), if_neg (by omega)]
      cases er : rp r (A - (h - l)) with
      | some x =>
        rw [er] at ih
        obtain ⟨i1, i2⟩ := ih
        refine ⟨by omega, fun y => ?_⟩
        by_cases hy : y < h
        · have := low y hy
          constructor <;> intro <;> omega
        · have a := high y (by omega)
          have b := i2 y
          rw [a]
          constructor
          · intro z
            exact b.mp (by omega)
          · intro z
            have := b.mpr z
            omega
      | none =>
        rw [er] at ih
        intro y
        by_cases hy : y < h
        · exact low y hy
        · have a := high y (by omega)
          have b := ih y
          omega
def sur (st : Option Int) (rs : Rs) (p : Int) : Option Int := match st with
  | none => some (-1)
  | some s => if s > p then some (-1) else (rp rs (p - s + 1)).map (· - 1)
/-- a value is within the purse exactly for the sums up to what is surely left -/
theorem sur_spec {s p : Int} {rs : Rs} (g : Good (-1) rs) (hs : s ≤ p) : match sur (some s) rs p with
    | some x => 0 ≤ x ∧ ∀ k, s + Fs rs k ≤ p ↔ k ≤ x
    | none => ∀ k, s + Fs rs k ≤ p := by
  have sp := rp_spec g (A := p - s + 1) (by omega)
  have es : sur (some s) rs p = (rp rs (p - s + 1)).map (· - 1) := if_neg (by omega)
  rw [es]
  cases e : rp rs (p - s + 1) with
  | none =>
    rw [e] at sp
    intro k
    have := sp k
    omega
  | some x =>
    rw [e] at sp
    obtain ⟨s1, s2⟩ := sp
    refine ⟨?_, fun k => ?_⟩
    · show 0 ≤ x - 1
      omega
    · show _ ↔ k ≤ x - 1
      have := s2 k
      constructor
      · intro h
        refine Int.not_lt.mp fun h2 => ?_
        have := this.mpr (by omega)
        omega
      · intro h
        refine Int.not_lt.mp fun h2 => ?_
        have := this.mp (by omega)
        omega
theorem sur_none {s p : Int} {rs : Rs} (g : Good (-1) rs) (hs : s ≤ p) : sur (some s) rs p = none ↔ ∃ T, top s rs = some T ∧ T ≤ p := by
  have sp := sur_spec g hs
  have en := ends_spec (t := s) g
  constructor
  · intro h
    rw [h] at sp
    cases eo : opn rs with
    | some l =>
      rw [eo] at en
      obtain ⟨_, _, e3, _⟩ := en
      have h1 := sp (l + (p + 1 - (s + Fs rs l)).toNat)
      rw [e3 _ (by omega)] at h1
      omega
    | none =>
      rw [eo] at en
      refine ⟨_, en.2, ?_⟩
      have tp : ∀ {rs : Rs} {e t T : Int}, Good e rs → top t rs = some T → ∃ k, t + Fs rs k = T := by
        intro rs
        induction rs with
        | nil =>
          intro e t T _ h
          exact ⟨0, by rw [Fs_nil]; have := Option.some.inj h; omega⟩
        | cons q r ih =>
          intro e t T g h
          obtain ⟨l, y⟩ := q
          cases y with
          | none => cases h
          | some y =>
            have g2 := g.2.1
            obtain ⟨k, hk⟩ := ih (t := t + y - l) g.2.2 h
            by_cases c : k ≤ y
            · refine ⟨y, ?_⟩
              rw [Fs_zero g.2.2 c] at hk
              rw [Fs_cons, rise_some (by omega), if_neg (by omega), Fs_zero g.2.2 (Int.le_refl _)]
              omega
            · refine ⟨k, ?_⟩
              rw [Fs_cons, rise_some (by omega), if_neg (by omega)]
              omega
      obtain ⟨k, hk⟩ := tp g en.2
      have := sp k
      omega
  · rintro ⟨T, hT, hp⟩
    cases eo : opn rs with
    | some l =>
      rw [eo] at en
      rw [en.2.2.2] at hT
      cases hT
    | none =>
      rw [eo] at en
      obtain ⟨e1, e2⟩ := en
      rw [e2] at hT
      cases hT
      cases e : sur (some s) rs p with
      | none => rfl
      | some x =>
        rw [e] at sp
        have h1 := (sp.2 (x + 1)).mp (by have := e1 (x + 1); omega)
        omega
end Nd
set_option pp.maxSteps 700
set_option Elab.async false
set_option linter.all false
set_option maxRecDepth 100000
set_option maxHeartbeats 4000000
namespace Z
open Nd
open PySem PySem.Spec PyProof.Rows L2
open C8 (pss_cut tCut)
local macro_rules | `(tactic| walk_at "num") => `(tactic| first | rfl | omega | decide | exact Nat.le_of_lt (small1000 (by simp)) | exact ⟨by omega, by omega⟩ | exact ⟨by omega, by omega, by omega⟩ | exact ⟨by decide, by decide, by decide⟩ | exact Or.inl ⟨by omega, by omega⟩ | exact Or.inr ⟨by omega, by omega⟩)
local macro_rules | `(tactic| walk_at "go") => `(tactic| repeat (first | refine ⟨_, rfl, ?_⟩ | refine ⟨_, _, rfl, rfl, ?_⟩ | refine ⟨_, _, rfl, ?_⟩ | refine ⟨_, _, rfl, rfl, (by walk_at "num"), ?_⟩ | refine Or.inl ⟨_, rfl, ?_⟩ | refine ⟨_, _, _, _, rfl, rfl, (by assumption), (by rfl), ?_⟩ | refine ⟨_, _, _, _, _, rfl, (by assumption), (by assumption), (by assumption), (by rfl), ?_⟩ | refine ⟨rfl, ?_⟩ | refine And.intro (by walk_at "num") ?_))
abbrev s_marks_of : Stmt := topS 9
abbrev N_marks_of : List Str := ["first", "second", "found", "low", "high"]
abbrev P_marks_of : List Str := ["first", "second"]
theorem sc_marks_of : FnScope N_marks_of P_marks_of (defScope s_marks_of) := ⟨rfl, rfl, rfl, by decide +kernel, rfl, by decide +kernel, by decide +kernel⟩
theorem rm1 {k : Nat} {A : Around} (r : Room k A) : A.units + 1 < cLine := by have := r.units; omega
/-- for low, high in (a list of pairs standing still) -/
theorem for_pairsL {c : Bool} {K : PySem.W.Frag} {a : Addr} {ps : List Addr} {rs : Rs} {i1 i2 : Nat} {tb : TS} {D : Ends} {σ : L2.St} {H : Hp} (Pv : Nat → L2.St → Hp → Prop) (h0 : Pv 0 σ H) (hq : ∀ i σ H1, Pv i σ H1 → Ris true c K H1 a ps rs)
    (hs : ∀ (i : Nat) (l : Int) (h : Option Int) (σ : L2.St) (H1 : Hp), rs[i]? = some (l, h) → Pv i σ H1 → tb { D with nx := Pv (i + 1), ct := Pv (i + 1), bk := D.nx } ((σ.set i1 (some (.int l))).set i2 (some (oV h))) H1)
    (hd : ∀ σ H1, Pv rs.length σ H1 → D.nx σ H1) : forW (Itl K a) (gPair K i1 i2) tb D σ H := by
  refine for_gen (n := rs.length) Pv h0 ?_ ?_ ?_ hd
  · intro i σ1 H1 hi p
    have hR := hq i σ1 H1 p
    have hi2 : i < ps.length := by rw [hR.2.1]; exact hi
    exact its_go (b := true) (x := .ref ps[i]) hR.1 (by rw [List.getElem?_map, List.getElem?_eq_getElem hi2]; rfl)
  · intro σ1 H1 p
    have hR := hq _ σ1 H1 p
    exact its_stop (b := true) hR.1 (by rw [List.length_map, hR.2.1]; exact Nat.le_refl _)
  · intro i σ1 H1 x H' hi p y
    have hR := hq i σ1 H1 p
    obtain ⟨rfl, ex⟩ := its_yld (b := true) hR.1 y
    obtain ⟨q, eq, rfl⟩ := of_map ex
    have er : rs[i]? = some (rs[i].1, rs[i].2) := List.getElem?_eq_getElem hi
    exact gpair_of (hR.2.2 i q _ eq er) (hs i _ _ σ1 H' er p)
theorem sq_dk {b : Bool} {K : PySem.W.Frag} {H H' : Hp} {n a : Addr} {kvs : List (Key × V)} {xs : List V} (s : SB n H H') (hn : H n = some (.dK kvs)) (h : SqK b K H a xs) : SqK b K H' a xs := by
  have ne : ∀ {o : HO}, H a = some o → (∀ kvs, o ≠ .dK kvs) → a ≠ n := fun e z w => by
    rw [w, hn] at e
    exact z _ (Option.some.inj e).symm
  cases b
  · rcases h with (h | ⟨o, h⟩) | h
    · exact .inl (.inl (s _ _ (ne h fun _ => nofun) h))
    · exact .inl (.inr ⟨o, s _ _ (ne h fun _ => nofun) h⟩)
    · exact .inr h
  · rcases h with (h | ⟨o, h⟩) | h
    · exact .inl (.inl (s _ _ (ne h fun _ => nofun) h))
    · exact .inl (.inr ⟨o, s _ _ (ne h fun _ => nofun) h⟩)
    · exact .inr h
theorem Ris.dk {b c : Bool} {K : PySem.W.Frag} {H H' : Hp} {n a : Addr} {kvs : List (Key × V)} {ps : List Addr} {rs : Rs} (s : SB n H H') (hn : H n = some (.dK kvs)) (r : Ris b c K H a ps rs) : Ris b c K H' a ps rs := ⟨sq_dk s hn r.1, r.2.1, fun i p q h1 h2 => sq_dk s hn (r.2.2 i p q h1 h2)⟩
theorem Ris.append {c : Bool} {K : PySem.W.Frag} {H : Hp} {a1 a2 a : Addr} {b1 b2 : Bool} {ps ps' : List Addr} {rs rs' : Rs} (r1 : Ris b1 c K H a1 ps rs) (r2 : Ris b2 c K H a2 ps' rs') (h : H a = some (.lst (ps.map V.ref ++ ps'.map V.ref))) : Ris true c K H a (ps ++ ps') (rs ++ rs') := by
  refine ⟨SqL.of (by rw [List.map_append]; exact h), by rw [List.length_append, List.length_append, r1.2.1, r2.2.1], fun i p q h1 h2 => ?_⟩
  by_cases hlt : i < ps.length
  · rw [List.getElem?_append_left hlt] at h1
    rw [List.getElem?_append_left (by rw [← r1.2.1]; exact hlt)] at h2
    exact r1.2.2 i p q h1 h2
  · rw [List.getElem?_append_right (by omega)] at h1
    rw [List.getElem?_append_right (by rw [← r1.2.1]; omega), ← r1.2.1] at h2
    exact r2.2.2 _ p q h1 h2
/-! ### a dict whose keys are ints -/
structure DInt (H : Hp) (p : Addr) (ks : List Int) : Prop where
  ex : ∃ kvs : List (Key × V), H p = some (.dK kvs) ∧ kvs.map (·.1) = ks.map Sum.inl
def addI (ks : List Int) (x : Int) : List Int := if x ∈ ks then ks else ks ++ [x]
theorem addI_mem {ks : List Int} {x y : Int} : y ∈ addI ks x ↔ y ∈ ks ∨ y = x := by
  unfold addI
  split
  · constructor
    · exact .inl
    · rintro (h | rfl) <;> assumption
  · simp
theorem addI_nodup {ks : List Int} {x : Int} (h : ks.Nodup) : (addI ks x).Nodup := by
  unfold addI
  split
  · exact h
  · next hx =>
    rw [List.nodup_append]
    refine ⟨h, by simp, fun a ha b hb => ?_⟩
    have : b = x := by simpa using hb
    subst this
    rintro rfl
    exact hx ha
theorem addI_len {ks : List Int} {x : Int} : (addI ks x).length ≤ ks.length + 1 := by
  unfold addI
  split
  · omega
  · simp
theorem putI {kvs : List (Key × V)} {ks : List Int} {x : Int} {v : V} (h : kvs.map (·.1) = ks.map Sum.inl) : (putK kvs (Sum.inl x : Key) v).map (·.1) = (addI ks x).map Sum.inl := by
  have hm : (kvs.any fun kv => decide (kv.1 = (Sum.inl x : Key))) = decide (x ∈ ks) := by
    rw [Bool.eq_iff_iff, List.any_eq_true, decide_eq_true_eq]
    constructor
    · rintro ⟨kv, h1, h2⟩
      have h2 := of_decide_eq_true h2
      have : (Sum.inl x : Key) ∈ ks.map Sum.inl := by rw [← h, ← h2]; exact List.mem_map.mpr ⟨kv, h1, rfl⟩
      obtain ⟨y, hy, e⟩ := List.mem_map.mp this
      cases e
      exact hy
    · intro hx
      have : (Sum.inl x : Key) ∈ kvs.map (·.1) := by rw [h]; exact List.mem_map.mpr ⟨x, hx, rfl⟩
      obtain ⟨kv, h1, h2⟩ := List.mem_map.mp this
      exact ⟨kv, h1, decide_eq_true h2⟩
  unfold putK addI
  rw [hm]
  by_cases hx : x ∈ ks
  · rw [if_pos (decide_eq_true hx), if_pos hx, List.map_map, ← h]
    refine List.map_congr_left fun kv _ => ?_
    show (if kv.1 = Sum.inl x then (kv.1, v) else kv).1 = kv.1
    split <;> rfl
  · rw [if_neg (by rw [decide_eq_false hx]; simp), if_neg hx, List.map_append, List.map_append, h]
    rfl
theorem DInt.put {H : Hp} {p : Addr} {ks : List Int} {x : Int} {v : V} (d : DInt H p ks) (hl : ks.length < 100000) : ∃ H', DPut H p (.int x) v H' ∧ SB p H H' ∧ DInt H' p (addI ks x) := by
  obtain ⟨kvs, e, h⟩ := d.ex
  have hlen : kvs.length = ks.length := by
    have := congrArg List.length h
    simpa using this
  exact ⟨_, DPut.k (k := Sum.inl x) e (by rw [hlen]; exact Nat.lt_of_lt_of_le hl (by decide)), SB.upd (Z.Same.sb (Same.refl H)), _, upd_same, putI h⟩
section
variable {P : Program} {w : World} {K : PySem.W.Frag} {mg : Str → Option Value} {base : Heap} {f C : Addr} {fd : FuncData}
/-- 0 and all ends, ascending, each once -/
structure Marks (rs rs' : Rs) (ms : List Int) : Prop where
  asc : ms.Pairwise (· < ·)
  zero : ms[0]? = some 0
  has : ∀ x, Edge rs x ∨ Edge rs' x → x ∈ ms
  len : ms.length ≤ 2 * (rs.length + rs'.length) + 1
theorem edge_at {rs : Rs} {x : Int} (h : Edge rs x) : ∃ (i : Nat) (l : Int) (y : Option Int), rs[i]? = some (l, y) ∧ (l = x ∨ y = some x) := by
  obtain ⟨⟨l, y⟩, hm, h⟩ := h
  obtain ⟨i, hi⟩ := List.mem_iff_getElem?.mp hm
  exact ⟨i, l, y, hi, h⟩
theorem edge_of {rs : Rs} {x : Int} {i : Nat} {l : Int} {y : Option Int} (h : rs[i]? = some (l, y)) (h2 : l = x ∨ y = some x) : Edge rs x := ⟨_, List.mem_of_getElem? h, h2⟩
theorem edge_app {a b : Rs} {x : Int} : Edge (a ++ b) x ↔ Edge a x ∨ Edge b x := by
  constructor
  · rintro ⟨p, hp, h⟩
    rcases List.mem_append.mp hp with z | z
    · exact .inl ⟨p, z, h⟩
    · exact .inr ⟨p, z, h⟩
  · rintro (⟨p, hp, h⟩ | ⟨p, hp, h⟩)
    · exact ⟨p, List.mem_append_left _ hp, h⟩
    · exact ⟨p, List.mem_append_right _ hp, h⟩
theorem edge_pos {rs : Rs} {x : Int} (g : Good (-1) rs) (h : Edge rs x) : 0 ≤ x := by
  obtain ⟨i, l, y, hi, h⟩ := edge_at h
  obtain ⟨g1, g2⟩ := good_at g hi
  rcases h with h | h
  · omega
  · have := g2 x h
    omega
def spMarks (K : PySem.W.Frag) : Sp := fun vs H Q _ => ∃ (b b' : Bool) (r r' : Addr) (ps ps' : List Addr) (rs rs' : Rs), vs = [.ref r, .ref r'] ∧ Ris b false K H r ps rs ∧ Ris b' false K H r' ps' rs' ∧ Good (-1) rs ∧ Good (-1) rs' ∧ rs.length ≤ 20000 ∧ rs'.length ≤ 20000 ∧ ∀ p H' ms, Same H H' → H' p = some (.lst (ms.map V.int)) → Marks rs rs' ms → Q (.ref p) H'
theorem ok_marks_of (F : FnP K "marks_of" s_marks_of f fd) (m_list : mg "list" = none) (m_sorted : mg "sorted" = none) (m_int : mg "int" = none) : FnOk P w K mg base CX0 1 f fd P_marks_of (spMarks K) := by
  refine F.ok sc_marks_of (fun vs H Q E h => ?_) (fun cdv A outer s H vs Q E hr h => ?_)
  · obtain ⟨b, b', r, r', ps, ps', rs, rs', rfl, _⟩ := h
    rfl
  · obtain ⟨b, b', r, r', ps, ps', rs, rs', rfl, hR, hR', g, g', l1, l2, q⟩ := h
    refine ⟨_, PSs.nox (pss_cons (ps_set (i := 2) sc_marks_of.nd rfl (by first | exact .inl rfl | exact .inr rfl) (pe_disp (pps_cons pe_int pe_bl pps_nil) rfl rfl (by simp) (by decide)))
      (pss_cons (ps_for PassesOwn.never rfl (pi_list (pe_op op_cat (pe_callTy call_list_of (by rfl) m_list (by decide +kernel) (pa_cons (pv 0) pa_nil)) (pe_callTy call_list_of (by rfl) m_list (by decide +kernel) (pa_cons (pv 1) pa_nil)))) (pg_or (pg_unl rfl (pgs_cons (pg_name (i := 3) sc_marks_of.nd rfl (by first | exact .inl rfl | exact .inr rfl)) (pgs_cons (pg_name (i := 4) sc_marks_of.nd rfl (by first | exact .inl rfl | exact .inr rfl)) pgs_nil))) (pg_tup rfl (pgs_cons (pg_name (i := 3) sc_marks_of.nd rfl (by first | exact .inl rfl | exact .inr rfl)) (pgs_cons (pg_name (i := 4) sc_marks_of.nd rfl (by first | exact .inl rfl | exact .inr rfl)) pgs_nil))))
        (pss_cons (ps_asg pe_bl (pg_sub (pv 2) (pv 3) (set_dict (rm1 hr))))
      (pss_one (ps_if (pt_cmpR op_notN (pv 4) pe_non (nomark _)) (pss_one (ps_asg pe_bl (pg_sub (pv 2) (pv 4) (set_dict (rm1 hr))))) pss_nil))))
      (pss_one (ps_ret (pe_callBK (cr_sortedInt hr.units) (by rfl) m_sorted (by decide +kernel) (pa_cons (pe_callTy (call_list_dK rfl) (by rfl) m_list (by decide +kernel) (pa_cons (pv 2) pa_nil)) pa_nil) (pk_cons (pe_bltn (v := .ty "int") (by rfl) m_int (by decide +kernel) rfl) pk_nil)))))), ?_⟩
    intro p np
    walk_at "go"
    refine ⟨upd_same, [(Sum.inl 0, .bl true)], rfl, by decide, ?_⟩
    have e0 : upd (upd H p (.dK [])) p (.dK (mergeK [] [((Sum.inl 0 : Key), V.bl true)])) = upd H p (.dK [((Sum.inl 0 : Key), V.bl true)]) := by
      funext b
      by_cases hb : b = p
      · rw [hb, upd_same, upd_same]
        rfl
      · rw [upd_ne hb, upd_ne hb, upd_ne hb]
    rw [e0]
    have s1 := same_new (o := .dK [((Sum.inl 0 : Key), V.bl true)]) np
    have d1 : DInt (upd H p (.dK [((Sum.inl 0 : Key), V.bl true)])) p [0] := ⟨_, upd_same, rfl⟩
    generalize upd H p (.dK [((Sum.inl 0 : Key), V.bl true)]) = H1 at s1 d1 ⊢
    have hR1 := hR.mono s1
    have hR1' := hR'.mono s1
    walk_at "go"
    refine ⟨r, _, rfl, hR1.1.or, fun x1 n1 => ?_⟩
    have s2 := same_new (o := .lst (ps.map V.ref)) n1
    walk_at "go"
    refine ⟨r', _, rfl, (hR1'.mono s2).1.or, fun x2 n2 => ?_⟩
    have s3 := same_new (o := .lst (ps'.map V.ref)) n2
    walk_at "go"
    refine ⟨x1, x2, _, _, rfl, rfl, s3 _ _ upd_same, upd_same, ?_, fun L nL => ?_⟩
    · rw [List.length_map, List.length_map, hR.2.1, hR'.2.1]
      exact Nat.le_trans (show rs.length + rs'.length ≤ 40000 by omega) (by decide)
    have s4 := same_new (o := .lst (ps.map V.ref ++ ps'.map V.ref)) nL
    have s14 := s2.trans (s3.trans s4)
    have hL : Ris true false K _ L (ps ++ ps') (rs ++ rs') := Ris.append (hR1.mono s14) (hR1'.mono s14) upd_same
    have d4 : DInt (upd (upd (upd H1 x1 (.lst (ps.map V.ref))) x2 (.lst (ps'.map V.ref))) L (.lst (ps.map V.ref ++ ps'.map V.ref))) p [0] := by
      obtain ⟨kvs, e, h⟩ := d1.ex
      exact ⟨kvs, s14 _ _ e, h⟩
    have s04 := s1.trans s14
    generalize upd (upd (upd H1 x1 (.lst (ps.map V.ref))) x2 (.lst (ps'.map V.ref))) L (.lst (ps.map V.ref ++ ps'.map V.ref)) = H4 at hL d4 s04 ⊢
    have nHp : H p = none := np
    refine ⟨L, rfl, ⟨_, hL.1⟩, ?_⟩
    refine for_pairsL (c := false) (ps := ps ++ ps') (rs := rs ++ rs') (fun i σ H5 => SB p H4 H5 ∧ Same H H5 ∧ Ris true false K H5 L (ps ++ ps') (rs ++ rs') ∧ ∃ (ks : List Int) (v3 v4 : Option V), DInt H5 p ks ∧ ks.Nodup ∧ 0 ∈ ks ∧ (∀ x ∈ ks, 0 ≤ x) ∧ ks.length ≤ 2 * i + 1 ∧ (∀ (j : Nat) (l : Int) (h : Option Int), j < i → (rs ++ rs')[j]? = some (l, h) → l ∈ ks ∧ ∀ y, h = some y → y ∈ ks) ∧ σ = [some (.ref r), some (.ref r'), some (.ref p), v3, v4]) ⟨Z.Same.sb (Same.refl _), s04, hL, [0], none, none, d4, by simp, by simp, by simp, by simp, (fun j l h hj => by omega), rfl⟩ ?_ ?_ ?_
    · rintro i σ H5 ⟨_, _, h, _⟩
      exact h
    · rintro i l h σ H5 hi ⟨sb5, sH5, hL5, ks, v3, v4, d5, nd, z0, hpos, hlen, hin, rfl⟩
      have hilt : i < (rs ++ rs').length := (List.getElem?_eq_some_iff.mp hi).1
      rw [List.length_append] at hilt
      obtain ⟨H6, p6, sb6, d6⟩ := d5.put (x := l) (v := .bl true) (by omega)
      have gi : 0 ≤ l ∧ ∀ y, h = some y → 0 ≤ y := by
        rcases edge_app.mp (edge_of hi (.inl rfl)) with z | z
        · refine ⟨edge_pos g z, fun y hy => ?_⟩
          rcases edge_app.mp (edge_of hi (.inr hy)) with z | z
          · exact edge_pos g z
          · exact edge_pos g' z
        · refine ⟨edge_pos g' z, fun y hy => ?_⟩
          rcases edge_app.mp (edge_of hi (.inr hy)) with z | z
          · exact edge_pos g z
          · exact edge_pos g' z
      obtain ⟨kvs, ek, _⟩ := d5.ex
      have hL6 := hL5.dk sb6 ek
      have sH6 : Same H H6 := fun b o e => sb6 b o (ne_of_none e nHp) (sH5 b o e)
      walk_at "go"
      refine ⟨p, H6, rfl, p6, ?_⟩
      have hin6 : ∀ ks' : List Int, (∀ x, x ∈ addI ks l → x ∈ ks') → (∀ y, h = some y → y ∈ ks') → ∀ (j : Nat) (l : Int) (h : Option Int), j < i + 1 → (rs ++ rs')[j]? = some (l, h) → l ∈ ks' ∧ ∀ y, h = some y → y ∈ ks' := by
        intro ks' k1 k2 j l2 h2 hj hj2
        by_cases e : j = i
        · subst e
          rw [hi] at hj2
          cases hj2
          exact ⟨k1 _ (addI_mem.mpr (.inr rfl)), k2⟩
        · obtain ⟨a1, a2⟩ := hin j l2 h2 (by omega) hj2
          exact ⟨k1 _ (addI_mem.mpr (.inl a1)), fun y hy => k1 _ (addI_mem.mpr (.inl (a2 y hy)))⟩
      have len6 := addI_len (ks := ks) (x := l)
      have pos6 : ∀ x ∈ addI ks l, 0 ≤ x := fun x hx => by
        rcases addI_mem.mp hx with z | z
        · exact hpos x z
        · rw [z]; exact gi.1
      cases h with
      | none =>
        walk_at "go"
        exact ⟨sb5.trans sb6, sH6, hL6, addI ks l, _, _, d6, addI_nodup nd, addI_mem.mpr (.inl z0), pos6, by omega, hin6 _ (fun x hx => hx) nofun, rfl⟩
      | some y =>
        obtain ⟨H7, p7, sb7, d7⟩ := d6.put (x := y) (v := .bl true) (by omega)
        obtain ⟨kvs6, ek6, _⟩ := d6.ex
        have len7 := addI_len (ks := addI ks l) (x := y)
        walk_at "go"
        refine ⟨p, H7, rfl, p7, ?_⟩
        refine ⟨sb5.trans (sb6.trans sb7), fun b o e => sb7 b o (ne_of_none e nHp) (sH6 b o e), hL6.dk sb7 ek6, addI (addI ks l) y, _, _, d7, addI_nodup (addI_nodup nd), addI_mem.mpr (.inl (addI_mem.mpr (.inl z0))), fun x hx => ?_, by omega, hin6 _ (fun x hx => addI_mem.mpr (.inl hx)) (fun z hz => by cases hz; exact addI_mem.mpr (.inr rfl)), rfl⟩
        rcases addI_mem.mp hx with z | z
        · exact pos6 x z
        · rw [z]; exact gi.2 y rfl
    · rintro σ H5 ⟨sb5, sH5, hL5, ks, v3, v4, d5, nd, z0, hpos, hlen, hin, rfl⟩
      obtain ⟨kvs, ek, hk⟩ := d5.ex
      walk_at "go"
      refine ⟨p, kvs, rfl, ek, fun L2 nL2 => ?_⟩
      have ek2 : (kvs.map fun kv => kV kv.1) = ks.map V.int := by
        have := congrArg (List.map kV) hk
        rw [List.map_map, List.map_map] at this
        exact this
      rw [ek2]
      have s6 := same_new (o := .lst (ks.map V.int)) nL2
      walk_at "go"
      refine ⟨L2, ks, rfl, rfl, SqL.of upd_same, fun ns p2 hp ho np2 => ?_⟩
      have ho : ns.Pairwise (· ≤ ·) := ho
      have s7 := same_new (o := .lst (ns.map V.int)) np2
      have nd2 : ns.Nodup := hp.nodup_iff.mpr nd
      have asc : ns.Pairwise (· < ·) := by
        refine (List.Pairwise.and ho nd2).imp ?_
        rintro a b ⟨h1, h2⟩
        omega
      refine q p2 _ ns (sH5.trans (s6.trans s7)) upd_same ⟨asc, ?_, fun x hx => ?_, ?_⟩
      · have h0 : 0 ∈ ns := hp.mem_iff.mpr z0
        cases ns with
        | nil => cases h0
        | cons a r =>
          rcases List.mem_cons.mp h0 with e | e
          · rw [← e]; rfl
          · have h1 := (List.pairwise_cons.mp asc).1 0 e
            have h2 := hpos a (hp.mem_iff.mp (List.mem_cons_self ..))
            omega
      · obtain ⟨j, l, y, hj, h⟩ := edge_at (edge_app.mpr hx)
        have hjl := (List.getElem?_eq_some_iff.mp hj).1
        obtain ⟨a1, a2⟩ := hin j l y hjl hj
        refine hp.mem_iff.mpr ?_
        rcases h with h | h
        · rw [← h]; exact a1
        · exact a2 x h
      · rw [hp.length_eq]
        rw [List.length_append] at hlen
        exact hlen
end
end Z
set_option pp.maxSteps 700
set_option Elab.async false
set_option linter.all false
set_option maxRecDepth 100000
set_option maxHeartbeats 4000000
namespace Z
open Nd
open PySem PySem.Spec PyProof.Rows L2
open C8 (pss_cut tCut)
local macro_rules | `(tactic| walk_at "num") => `(tactic| first | rfl | omega | decide | exact Nat.le_of_lt (small1000 (by simp)) | exact ⟨by omega, by omega⟩ | exact ⟨by omega, by omega, by omega⟩ | exact ⟨by decide, by decide, by decide⟩ | exact Or.inl ⟨by omega, by omega⟩ | exact Or.inr ⟨by omega, by omega⟩)
local macro_rules | `(tactic| walk_at "go") => `(tactic| repeat (first | refine ⟨_, rfl, ?_⟩ | refine ⟨_, _, rfl, rfl, ?_⟩ | refine ⟨_, _, rfl, ?_⟩ | refine ⟨_, _, rfl, rfl, (by walk_at "num"), ?_⟩ | refine Or.inl ⟨_, rfl, ?_⟩ | refine ⟨_, _, _, _, rfl, rfl, (by assumption), (by rfl), ?_⟩ | refine ⟨_, _, _, _, _, rfl, (by assumption), (by assumption), (by assumption), (by rfl), ?_⟩ | refine ⟨rfl, ?_⟩ | refine And.intro (by walk_at "num") ?_))
abbrev s_track : Stmt := topS 10
abbrev N_track : List Str := ["start", "rises", "marks", "found", "value", "last", "step", "at", "mark"]
abbrev P_track : List Str := ["start", "rises", "marks"]
theorem sc_track : FnScope N_track P_track (defScope s_track) := ⟨rfl, rfl, rfl, by decide +kernel, rfl, by decide +kernel, by decide +kernel⟩
/-- ascending, from 0 on, all ends of rs among them -/
structure Mrk (rs : Rs) (ms : List Int) : Prop where
  asc : ms.Pairwise (· < ·)
  zero : ms[0]? = some 0
  has : ∀ x, Edge rs x → x ∈ ms
theorem Marks.one {rs rs' : Rs} {ms : List Int} (h : Marks rs rs' ms) : Mrk rs ms := ⟨h.asc, h.zero, fun x hx => h.has x (.inl hx)⟩
theorem Marks.two {rs rs' : Rs} {ms : List Int} (h : Marks rs rs' ms) : Mrk rs' ms := ⟨h.asc, h.zero, fun x hx => h.has x (.inr hx)⟩
theorem asc_at {ms : List Int} (h : ms.Pairwise (· < ·)) {i j : Nat} {a b : Int} (hi : ms[i]? = some a) (hj : ms[j]? = some b) (hij : i < j) : a < b := by
  obtain ⟨hi1, rfl⟩ := List.getElem?_eq_some_iff.mp hi
  obtain ⟨hj1, rfl⟩ := List.getElem?_eq_some_iff.mp hj
  exact List.pairwise_iff_getElem.mp h i j hi1 hj1 hij
theorem Mrk.pos {rs : Rs} {ms : List Int} (h : Mrk rs ms) {i : Nat} {m : Int} (hi : ms[i]? = some m) : 0 ≤ m := by
  cases i with
  | zero =>
    rw [h.zero] at hi
    cases hi
    exact Int.le_refl _
  | succ i => exact Int.le_of_lt (asc_at h.asc h.zero hi (Nat.succ_pos _))
theorem Mrk.calm {rs : Rs} {ms : List Int} (h : Mrk rs ms) {i : Nat} {m M : Int} (hi : ms[i]? = some m) (hj : ms[i + 1]? = some M) : Calm rs m M := by
  intro x hx ⟨h1, h2⟩
  obtain ⟨j, hj2⟩ := List.mem_iff_getElem?.mp (h.has x hx)
  by_cases c : j ≤ i
  · by_cases c2 : j = i
    · subst c2
      rw [hi] at hj2
      cases hj2
      omega
    · have := asc_at h.asc hj2 hi (by omega)
      omega
  · by_cases c2 : j = i + 1
    · subst c2
      rw [hj] at hj2
      cases hj2
      omega
    · have := asc_at h.asc hj hj2 (by omega)
      omega
theorem Mrk.last {rs : Rs} {ms : List Int} (h : Mrk rs ms) {i : Nat} {m : Int} (hi : ms[i]? = some m) (hl : ms.length = i + 1) : ∀ x, Edge rs x → x ≤ m := by
  intro x hx
  obtain ⟨j, hj⟩ := List.mem_iff_getElem?.mp (h.has x hx)
  have hjl := (List.getElem?_eq_some_iff.mp hj).1
  by_cases c : j = i
  · subst c
    rw [hi] at hj
    cases hj
    exact Int.le_refl _
  · exact Int.le_of_lt (asc_at h.asc hj hi (by omega))
def uI (rs : Rs) (m : Int) : Int := if up rs m = true then 1 else 0
section
variable {P : Program} {w : World} {K : PySem.W.Frag} {mg : Str → Option Value} {base : Heap} {f C : Addr} {fd : FuncData}
/-- what track leaves: a pair for each mark -/
def Trk (H : Hp) (p : Addr) (s : Int) (rs : Rs) (ms : List Int) : Prop := ∃ ts : List Addr, H p = some (.lst (ts.map V.ref)) ∧ ts.length = ms.length ∧ ∀ (i : Nat) (t : Addr) (m : Int), ts[i]? = some t → ms[i]? = some m → H t = some (.tup [.int (s + Fs rs m), .int (uI rs m)])
theorem Trk.mono {H H' : Hp} {p : Addr} {s : Int} {rs : Rs} {ms : List Int} (sm : Same H H') (h : Trk H p s rs ms) : Trk H' p s rs ms := by
  obtain ⟨ts, h1, h2, h3⟩ := h
  exact ⟨ts, sm _ _ h1, h2, fun i t m a b => sm _ _ (h3 i t m a b)⟩
def spTrack (K : PySem.W.Frag) : Sp := fun vs H Q _ => ∃ (b : Bool) (s : Int) (r M : Addr) (ps : List Addr) (rs : Rs) (ms : List Int), vs = [.int s, .ref r, .ref M] ∧ SqT K H r (ps.map V.ref) ∧ Ris false false K H r ps rs ∧ H M = some (.lst (ms.map V.int)) ∧ Good (-1) rs ∧ Mrk rs ms ∧ ms.length ≤ 90000 ∧ ∀ p H', Same H H' → Trk H' p s rs ms → Q (.ref p) H'
theorem ok_track (F : FnP K "track" s_track f fd) (m_len : mg "len" = none) : FnOk P w K mg base CX0 1 f fd P_track (spTrack K) := by
  refine F.ok sc_track (fun vs H Q E h => ?_) (fun cdv A outer s H vs Q E hr h => ?_)
  · obtain ⟨b, s, r, M, ps, rs, ms, rfl, _⟩ := h
    rfl
  · obtain ⟨b, s, r, M, ps, rs, ms, rfl, _, hR, hM, g, mk, hl, q⟩ := h
    refine ⟨_, PSs.nox (pss_cons (ps_set (i := 3) sc_track.nd rfl (by first | exact .inl rfl | exact .inr rfl) (pe_lst pa_nil))
      (pss_cons (ps_asg (pe_tup (pa_cons (pv 0) (pa_cons pe_int (pa_cons pe_int (pa_cons pe_int pa_nil))))) (pg_tup rfl (pgs_cons (pg_name (i := 4) sc_track.nd rfl (by first | exact .inl rfl | exact .inr rfl)) (pgs_cons (pg_name (i := 5) sc_track.nd rfl (by first | exact .inl rfl | exact .inr rfl)) (pgs_cons (pg_name (i := 6) sc_track.nd rfl (by first | exact .inl rfl | exact .inr rfl)) (pgs_cons (pg_name (i := 7) sc_track.nd rfl (by first | exact .inl rfl | exact .inr rfl)) pgs_nil))))))
      (pss_cut (ps_for PassesOwn.never rfl (pi_list (pv 2)) (pg_name (i := 8) sc_track.nd rfl (by first | exact .inl rfl | exact .inr rfl))
        (pss_cons (ps_set (i := 4) sc_track.nd rfl (by first | exact .inl rfl | exact .inr rfl) (pe_op op_add (pv 4) (pe_op op_mul (pv 6) (pe_op op_sub (pv 8) (pv 5)))))
      (pss_cons (ps_set (i := 5) sc_track.nd rfl (by first | exact .inl rfl | exact .inr rfl) (pv 8))
      (pss_cut (ps_while PassesOwn.never (PW.pt (pw_and (pt_cmpR op_lt (pv 7) (pe_callB call_len_seq (by rfl) m_len PySem.boot_len (pa_cons (pv 1) pa_nil)) (nomark _)) (pw_and (pt_cmpR op_notN (pe_ix ix_tup (pe_ix ix_tup (pv 1) (pv 7) (fun _ _ => rfl)) pe_int (fun _ _ => rfl)) pe_non (nomark _)) (pw_and1 (pt_cmpR op_le (pe_ix ix_tup (pe_ix ix_tup (pv 1) (pv 7) (fun _ _ => rfl)) pe_int (fun _ _ => rfl)) (pv 8) (nomark _))))))
        (pss_one (ps_set (i := 7) sc_track.nd rfl (by first | exact .inl rfl | exact .inr rfl) (pe_op op_add (pv 7) pe_int))))
      (pss_cut (ps_set (i := 6) sc_track.nd rfl (by first | exact .inl rfl | exact .inr rfl) (pe_ifExp (PW.pt (pw_and (pt_cmpR op_lt (pv 7) (pe_callB call_len_seq (by rfl) m_len PySem.boot_len (pa_cons (pv 1) pa_nil)) (nomark _)) (pw_and1 (pt_cmpR op_le (pe_ix ix_tup (pe_ix ix_tup (pv 1) (pv 7) (fun _ _ => rfl)) pe_int (fun _ _ => rfl)) (pv 8) (nomark _))))) pe_int pe_int))
      (pss_one (ps_expr (pe_bm PySem.F.plainAttrs_list PySem.F.slot_list_append PySem.F.type_list_append mt_append (pv 3) (pa_cons (pe_tup (pa_cons (pv 4) (pa_cons (pv 6) pa_nil))) pa_nil)))))))))
      (pss_one (ps_ret (pv 3)))))), ?_⟩
    walk_at "go"
    intro p np
    walk_at "go"
    intro T nT
    refine ⟨T, _, rfl, .inl (.inl upd_same), rfl, _, _, rfl, _, _, rfl, _, _, rfl, _, _, rfl, rfl, ?_⟩
    have s1 := (same_new (o := .lst []) np).trans (same_new (o := .tup [.int s, .int 0, .int 0, .int 0]) nT)
    have e1 : upd (upd H p (.lst [])) T (.tup [.int s, .int 0, .int 0, .int 0]) p = some (.lst []) := same_new (o := .tup [.int s, .int 0, .int 0, .int 0]) nT _ _ upd_same
    generalize upd (upd H p (.lst [])) T (.tup [.int s, .int 0, .int 0, .int 0]) = H1 at s1 e1 ⊢
    refine ⟨fun σ' H' => ∃ v4 v5 v6 v7 v8 : Option V, Same H H' ∧ Trk H' p s rs ms ∧ σ' = [some (.int s), some (.ref r), some (.ref M), some (.ref p), v4, v5, v6, v7, v8], ?_, ?_⟩
    rotate_left
    · rintro σ' H' ⟨v4, v5, v6, v7, v8, sH, tr, rfl⟩
      walk_at "go"
      exact q p H' sH tr
    walk_at "go"
    refine ⟨⟨_, SqL.of (s1 _ _ hM)⟩, ?_⟩
    refine for_gen (n := ms.length) (fun i σ H2 => Same H H2 ∧ ∃ (ts : List Addr) (va la st : Int) (at_ : Nat) (v8 : Option V), H2 p = some (.lst (ts.map V.ref)) ∧ ts.length = i ∧ (∀ (j : Nat) (t : Addr) (m : Int), ts[j]? = some t → ms[j]? = some m → H2 t = some (.tup [.int (s + Fs rs m), .int (uI rs m)])) ∧ at_ ≤ rs.length ∧ (∀ m', la ≤ m' → up rs m' = up (rs.drop at_) m') ∧ (st = 0 ∨ st = 1) ∧
      (match i with
        | 0 => va = s ∧ la = 0 ∧ st = 0
        | j + 1 => ms[j]? = some la ∧ va = s + Fs rs la ∧ st = uI rs la) ∧ σ = [some (.int s), some (.ref r), some (.ref M), some (.ref p), some (.int va), some (.int la), some (.int st), some (.int (at_ : Int)), v8]) ⟨s1, [], s, 0, 0, 0, none, e1, rfl, (fun j t m h => nomatch h), Nat.zero_le _, (fun m' _ => rfl), .inl rfl, ⟨rfl, rfl, rfl⟩, rfl⟩ ?_ ?_ ?_ ?_
    · rintro i σ H2 hi ⟨s2, _⟩
      exact ⟨_, .int ms[i], SqL.of (s2 _ _ hM), by rw [List.getElem?_map, List.getElem?_eq_getElem hi]; rfl⟩
    · rintro σ H2 ⟨s2, _⟩
      exact ⟨_, SqL.of (s2 _ _ hM), by rw [List.length_map]; exact Nat.le_refl _⟩
    rotate_left
    · rintro σ H2 ⟨s2, ts, va, la, st, at_, v8, ep, el, et, _, _, _, _, rfl⟩
      exact ⟨_, _, _, _, _, s2, ⟨ts, ep, el, et⟩, rfl⟩
    · rintro i σ H2 x H' hi ⟨s2, ts, va, la, st, at_, v8, ep, el, et, hat, hsk, hst, hv, rfl⟩ ⟨rfl, fx⟩
      obtain ⟨m, em, rfl⟩ := of_map (fx _ (SqL.of (s2 _ _ hM)))
      have hR2 := hR.mono s2
      have hla : la ≤ m := by
        cases i with
        | zero =>
          rw [mk.zero] at em
          cases em
          rw [hv.2.1]
          exact Int.le_refl _
        | succ j => exact Int.le_of_lt (asc_at mk.asc hv.1 em (Nat.lt_succ_self _))
      have hva : va + st * (m - la) = s + Fs rs m := by
        cases i with
        | zero =>
          rw [mk.zero] at em
          cases em
          obtain ⟨rfl, rfl, rfl⟩ := hv
          rw [Fs0 g]
          omega
        | succ j =>
          obtain ⟨a1, a2, a3⟩ := hv
          rcases aff g hla (mk.calm a1 em) with ⟨u, e⟩ | ⟨u, e⟩
          · have : st = 1 := by rw [a3]; exact if_pos u
            subst this
            omega
          · have : st = 0 := by rw [a3]; exact if_neg (by rw [u]; simp)
            subst this
            omega
      walk_at "go"
      refine ⟨fun σ' H3 => H3 = H' ∧ ∃ at2 : Nat, at2 ≤ rs.length ∧ (∀ m', m ≤ m' → up rs m' = up (rs.drop at2) m') ∧ (∀ l h, rs[at2]? = some (l, h) → ∀ y, h = some y → m < y) ∧ σ' = [some (.int s), some (.ref r), some (.ref M), some (.ref p), some (.int (va + st * (m - la))), some (.int m), some (.int st), some (.int (at2 : Int)), some (.int m)], ?_, ?_⟩
      · refine ⟨fun n σ' H3 => H3 = H' ∧ ∃ at2 : Nat, n = rs.length - at2 ∧ at2 ≤ rs.length ∧ (∀ m', m ≤ m' → up rs m' = up (rs.drop at2) m') ∧ σ' = [some (.int s), some (.ref r), some (.ref M), some (.ref p), some (.int (va + st * (m - la))), some (.int m), some (.int st), some (.int (at2 : Int)), some (.int m)], ⟨_, rfl, at_, rfl, hat, fun m' hm => hsk m' (by omega), rfl⟩, ?_⟩
        rintro n σ' H3 ⟨rfl, at2, rfl, ha2, hs2, rfl⟩
        walk_at "go"
        refine ⟨r, _, rfl, .inr hR2.1, ?_⟩
        rw [List.length_map, hR2.2.1]
        walk_at "go"
        refine ite2 (fun e => ?_) (fun e => ?_)
        rotate_left
        · have : ¬ (at2 : Int) < (rs.length : Int) := fun z => e (decide_eq_true z)
          refine ⟨rfl, at2, ha2, hs2, fun l h z => ?_, rfl⟩
          have := (List.getElem?_eq_some_iff.mp z).1
          omega
        have hlt : at2 < rs.length := by
          have : (at2 : Int) < (rs.length : Int) := of_decide_eq_true e
          omega
        have hlt2 : at2 < ps.length := by rw [hR2.2.1]; exact hlt
        have er : rs[at2]? = some (rs[at2].1, rs[at2].2) := List.getElem?_eq_getElem hlt
        have hq : SqT K H3 ps[at2] [.int rs[at2].1, oV rs[at2].2] := hR2.2.2 at2 _ _ (List.getElem?_eq_getElem hlt2) er
        have ea : atI (ps.map V.ref) (at2 : Int) = some (.ref ps[at2]) := at_map (List.getElem?_eq_getElem hlt2)
        have hdr : rs.drop at2 = (rs[at2].1, rs[at2].2) :: rs.drop (at2 + 1) := List.drop_eq_getElem_cons hlt
        generalize rs[at2].1 = lo at er hq hdr
        generalize rs[at2].2 = hi2 at er hq hdr
        have hstep : ∀ y, hi2 = some y → y ≤ m → ∀ m', m ≤ m' → up rs m' = up (rs.drop (at2 + 1)) m' := fun y hy hym m' hm => by
          rw [hs2 m' hm, hdr, hy, up_skip (by omega)]
        walk_at "go"
        refine ⟨r, _, _, _, rfl, rfl, hR2.1, ea, ?_⟩
        cases hi2 with
        | none =>
          walk_at "go"
          exact ⟨at2, ha2, hs2, (fun l h z => by rw [er] at z; cases z; exact nofun), rfl⟩
        | some y =>
          walk_at "go"
          refine ⟨r, _, _, _, rfl, rfl, hR2.1, ea, ?_⟩
          walk_at "go"
          refine ite2 (fun e2 => ?_) (fun e2 => ?_)
          · have hy : y ≤ m := of_decide_eq_true e2
            refine ⟨fun σ' H4 => H4 = H3 ∧ σ' = [some (.int s), some (.ref r), some (.ref M), some (.ref p), some (.int (va + st * (m - la))), some (.int m), some (.int st), some (.int ((at2 : Int) + 1)), some (.int m)], ?_, ?_⟩
            · rintro σ' H4 ⟨rfl, rfl⟩
              exact ⟨rs.length - (at2 + 1), by omega, rfl, at2 + 1, rfl, by omega, hstep y rfl hy, rfl⟩
            · walk_at "go"
              rfl
          · have hy : ¬ y ≤ m := fun z => e2 (decide_eq_true z)
            exact ⟨rfl, at2, ha2, hs2, (fun l h z => by rw [er] at z; cases z; intro y' hy'; cases hy'; omega), rfl⟩
      · rintro σ' H3 ⟨rfl, at2, ha2, hs2, hx2, rfl⟩
        have hup : up rs m = (decide (at2 < rs.length) && match rs[at2]? with
            | some q => decide (q.1 ≤ m)
            | none => false) := by
          rw [hs2 m (Int.le_refl _)]
          by_cases c : at2 < rs.length
          · have er : rs[at2]? = some (rs[at2].1, rs[at2].2) := List.getElem?_eq_getElem c
            obtain ⟨e', g2⟩ := g.drop at2
            have hdr : rs.drop at2 = (rs[at2].1, rs[at2].2) :: rs.drop (at2 + 1) := List.drop_eq_getElem_cons c
            rw [hdr] at g2 ⊢
            rw [up_now g2 (hx2 _ _ er), er, decide_eq_true c]
            rfl
          · rw [List.drop_of_length_le (by omega), decide_eq_false c]
            rfl
        refine ⟨fun σ' H4 => H4 = H3 ∧ σ' = [some (.int s), some (.ref r), some (.ref M), some (.ref p), some (.int (va + st * (m - la))), some (.int m), some (.int (uI rs m)), some (.int (at2 : Int)), some (.int m)], ?_, ?_⟩
        · walk_at "go"
          refine ⟨r, _, rfl, .inr hR2.1, ?_⟩
          rw [List.length_map, hR2.2.1]
          walk_at "go"
          refine ite2 (fun e => ?_) (fun e => ?_)
          rotate_left
          · have hn : ¬ at2 < rs.length := fun z => e (decide_eq_true (by omega))
            have hu : up rs m = false := by rw [hup, decide_eq_false hn]; rfl
            refine ⟨rfl, ?_⟩
            unfold uI
            rw [if_neg (by rw [hu]; simp)]
            rfl
          have hlt : at2 < rs.length := by
            have : (at2 : Int) < (rs.length : Int) := of_decide_eq_true e
            omega
          have hlt2 : at2 < ps.length := by rw [hR2.2.1]; exact hlt
          have er : rs[at2]? = some (rs[at2].1, rs[at2].2) := List.getElem?_eq_getElem hlt
          have hq : SqT K H3 ps[at2] [.int rs[at2].1, oV rs[at2].2] := hR2.2.2 at2 _ _ (List.getElem?_eq_getElem hlt2) er
          have ea : atI (ps.map V.ref) (at2 : Int) = some (.ref ps[at2]) := at_map (List.getElem?_eq_getElem hlt2)
          have hup2 : up rs m = decide (rs[at2].1 ≤ m) := by rw [hup, er, decide_eq_true hlt]; rfl
          walk_at "go"
          refine ⟨r, _, _, _, rfl, rfl, hR2.1, ea, ?_⟩
          walk_at "go"
          refine ite2 (fun e2 => ?_) (fun e2 => ?_)
          · have hu : up rs m = true := by rw [hup2]; exact e2
            refine ⟨rfl, ?_⟩
            unfold uI
            rw [if_pos hu]
            rfl
          · have hu : up rs m = false := by rw [hup2]; simpa using e2
            refine ⟨rfl, ?_⟩
            unfold uI
            rw [if_neg (by rw [hu]; simp)]
            rfl
        · rintro σ' H4 ⟨rfl, rfl⟩
          walk_at "go"
          refine ⟨.inl ⟨rfl, _, .inl (.inl ep)⟩, ?_⟩
          walk_at "go"
          intro t nt
          have s3 := same_new (o := .tup [.int (va + st * (m - la)), .int (uI rs m)]) nt
          walk_at "go"
          refine ⟨_, _, _, rfl, rfl, s3 _ _ ep, ?_, ?_⟩
          · rw [List.length_map, el]
            exact Nat.lt_of_lt_of_le hi (Nat.le_trans hl (by decide))
          have tp : t ≠ p := (ne_of_none ep nt).symm
          refine ⟨Z.Same.mut (s2.trans s3) np, ts ++ [t], _, m, _, at2, _, ?_, ?_, ?_, ha2, hs2, ?_, ⟨em, hva, rfl⟩, rfl⟩
          · rw [upd_same, List.map_append]
            rfl
          · rw [List.length_append, el]
            rfl
          · intro j t2 m2 h1 h2
            by_cases hlt : j < ts.length
            · rw [List.getElem?_append_left hlt] at h1
              have z := et j t2 m2 h1 h2
              have t2p : t2 ≠ p := fun e => by
                rw [e, ep] at z
                cases z
              rw [upd_ne t2p]
              exact s3 _ _ z
            · rw [List.getElem?_append_right (by omega)] at h1
              have h3 : j - ts.length = 0 := by
                have := (List.getElem?_eq_some_iff.mp h1).1
                simp at this
                omega
              rw [h3] at h1
              obtain rfl : t = t2 := Option.some.inj h1
              have h4 : j = i := by omega
              subst h4
              rw [em] at h2
              cases h2
              rw [upd_ne tp, upd_same, hva]
          · unfold uI
            split
            · exact .inr rfl
            · exact .inl rfl
end
end Z
set_option pp.maxSteps 700
set_option Elab.async false
set_option linter.all false
set_option maxRecDepth 100000
set_option maxHeartbeats 4000000
namespace Z
open Nd
open PySem PySem.Spec PyProof.Rows L2
open C8 (pss_cut tCut)
local macro_rules | `(tactic| walk_at "num") => `(tactic| first | rfl | omega | decide | exact Nat.le_of_lt (small1000 (by simp)) | exact ⟨by omega, by omega⟩ | exact ⟨by omega, by omega, by omega⟩ | exact ⟨by decide, by decide, by decide⟩ | exact Or.inl ⟨by omega, by omega⟩ | exact Or.inr ⟨by omega, by omega⟩)
local macro_rules | `(tactic| walk_at "go") => `(tactic| repeat (first | refine ⟨_, rfl, ?_⟩ | refine ⟨_, _, rfl, rfl, ?_⟩ | refine ⟨_, _, rfl, ?_⟩ | refine ⟨_, _, rfl, rfl, (by walk_at "num"), ?_⟩ | refine Or.inl ⟨_, rfl, ?_⟩ | refine ⟨_, _, _, _, rfl, rfl, (by assumption), (by rfl), ?_⟩ | refine ⟨_, _, _, _, _, rfl, (by assumption), (by assumption), (by assumption), (by rfl), ?_⟩ | refine ⟨rfl, ?_⟩ | refine And.intro (by walk_at "num") ?_))
abbrev s_first_above : Stmt := topS 15
abbrev N_first_above : List Str := ["first", "second", "marks", "ones", "others", "at", "mark", "lead"]
abbrev P_first_above : List Str := ["first", "second"]
theorem sc_first_above : FnScope N_first_above P_first_above (defScope s_first_above) := ⟨rfl, rfl, rfl, by decide +kernel, rfl, by decide +kernel, by decide +kernel⟩
section
variable {P : Program} {w : World} {K : PySem.W.Frag} {mg : Str → Option Value} {base : Heap} {f C : Addr} {fd : FuncData}
/-- a pair (start, rises) -/
def Pr (K : PySem.W.Frag) (H : Hp) (a : Addr) (s : Int) (rs : Rs) : Prop := ∃ r ps, SqT K H a [.int s, .ref r] ∧ Ris false false K H r ps rs
def spFA (K : PySem.W.Frag) : Sp := fun vs H Q _ => ∃ (a b : Addr) (s s' : Int) (rs rs' : Rs), vs = [.ref a, .ref b] ∧ Pr K H a s rs ∧ Pr K H b s' rs' ∧ Good (-1) rs ∧ Good (-1) rs' ∧ rs.length ≤ 20000 ∧ rs'.length ≤ 20000 ∧ ∀ H' o, Same H H' → FA (dif s rs s' rs') o → Q (oV o) H'
theorem ok_first_above (F : FnP K "first_above" s_first_above f fd) (m_len : mg "len" = none) (m_enumerate : mg "enumerate" = none) (c_marks_of : Cal P w K mg base 1 "marks_of" (spMarks K)) (c_track : Cal P w K mg base 1 "track" (spTrack K)) : FnOk P w K mg base CX0 2 f fd P_first_above (spFA K) := by
  refine F.ok sc_first_above (fun vs H Q E h => ?_) (fun cdv A outer s H vs Q E hr h => ?_)
  · obtain ⟨a, b, s, s', rs, rs', rfl, _⟩ := h
    rfl
  · obtain ⟨a, b, s, s', rs, rs', rfl, ⟨r, ps, ha, hR⟩, ⟨r', ps', hb, hR'⟩, g, g', l1, l2, q⟩ := h
    refine ⟨_, PSs.nox (pss_cons (ps_set (i := 2) sc_first_above.nd rfl (by first | exact .inl rfl | exact .inr rfl) (pe_cl c_marks_of hr (by decide) (by rfl) (pa_cons (pe_ix ix_tup (pv 0) pe_int (fun _ _ => rfl)) (pa_cons (pe_ix ix_tup (pv 1) pe_int (fun _ _ => rfl)) pa_nil))))
      (pss_cons (ps_par (i := 3) (j := 4) (by rfl) sc_first_above.nd rfl rfl (by decide) rfl rfl (pa_cons (pe_cl c_track hr (by decide) (by rfl) (pa_cons (pe_ix ix_tup (pv 0) pe_int (fun _ _ => rfl)) (pa_cons (pe_ix ix_tup (pv 0) pe_int (fun _ _ => rfl)) (pa_cons (pv 2) pa_nil)))) (pa_cons (pe_cl c_track hr (by decide) (by rfl) (pa_cons (pe_ix ix_tup (pv 1) pe_int (fun _ _ => rfl)) (pa_cons (pe_ix ix_tup (pv 1) pe_int (fun _ _ => rfl)) (pa_cons (pv 2) pa_nil)))) pa_nil)) (by rfl))
      (pss_cons (ps_for PassesOwn.never rfl (pi_enum (by rfl) m_enumerate (pa_cons (pv 2) pa_nil)) (pg_tup rfl (pgs_cons (pg_name (i := 5) sc_first_above.nd rfl (by first | exact .inl rfl | exact .inr rfl)) (pgs_cons (pg_name (i := 6) sc_first_above.nd rfl (by first | exact .inl rfl | exact .inr rfl)) pgs_nil)))
        (pss_cons (ps_set (i := 7) sc_first_above.nd rfl (by first | exact .inl rfl | exact .inr rfl) (pe_op op_sub (pe_ix ix_tup (pe_ix ix_list (pv 3) (pv 5) (fun _ _ => rfl)) pe_int (fun _ _ => rfl)) (pe_ix ix_tup (pe_ix ix_list (pv 4) (pv 5) (fun _ _ => rfl)) pe_int (fun _ _ => rfl))))
      (pss_cons (ps_if (pt_cmpR op_gt (pv 7) pe_int (nomark _)) (pss_one (ps_ret (pv 6))) pss_nil)
      (pss_one (ps_if (PW.pt (pw_and (pt_cmpR op_gt (pe_ix ix_tup (pe_ix ix_list (pv 3) (pv 5) (fun _ _ => rfl)) pe_int (fun _ _ => rfl)) (pe_ix ix_tup (pe_ix ix_list (pv 4) (pv 5) (fun _ _ => rfl)) pe_int (fun _ _ => rfl)) (nomark _)) (pw_and1 (PW.pt (pw_or (pt_cmpR op_eq (pe_op op_add (pv 5) pe_int) (pe_callB call_len_seq (by rfl) m_len PySem.boot_len (pa_cons (pv 2) pa_nil)) (nomark _)) (pw_or1 (pt_cmpR op_lt (pe_op op_sub (pe_op op_add (pv 6) pe_int) (pv 7)) (pe_ix ix_list (pv 2) (pe_op op_add (pv 5) pe_int) (fun _ _ => rfl)) (nomark _)))))))) (pss_one (ps_ret (pe_op op_sub (pe_op op_add (pv 6) pe_int) (pv 7)))) pss_nil)))))
      (pss_one (ps_ret pe_non))))), ?_⟩
    walk_at "go"
    refine ⟨false, false, r, r', ps, ps', rs, rs', rfl, hR, hR', g, g', l1, l2, fun M H1 ms s1 eM mk => ?_⟩
    have hm := mk.len
    have ha1 := Z.Same.sqT s1 ha
    have hb1 := Z.Same.sqT s1 hb
    have hR1 := hR.mono s1
    have hR1' := hR'.mono s1
    walk_at "go"
    refine ⟨false, s, r, M, ps, rs, ms, rfl, hR1.1, hR1, eM, g, mk.one, by omega, fun p1 H2 s2 t1 => ?_⟩
    have hb2 := Z.Same.sqT s2 hb1
    have hR2' := hR1'.mono s2
    walk_at "go"
    refine ⟨false, s', r', M, ps', rs', ms, rfl, hR2'.1, hR2', s2 _ _ eM, g', mk.two, by omega, fun p2 H3 s3 t2 => ?_⟩
    have t1 := t1.mono s3
    have eM3 := s3 _ _ (s2 _ _ eM)
    have s03 := s1.trans (s2.trans s3)
    walk_at "go"
    refine ⟨M, _, rfl, SqL.of eM3, ?_⟩
    obtain ⟨ts1, f1, f2, f3⟩ := t1
    obtain ⟨ts2, k1, k2, k3⟩ := t2
    refine for_gen (n := ms.length) (fun i σ H4 => Same H3 H4 ∧ (match ms[i]? with
      | some m => Below (dif s rs s' rs') m
      | none => FA (dif s rs s' rs') none) ∧ ∃ v5 v6 v7 : Option V, σ = [some (.ref a), some (.ref b), some (.ref M), some (.ref p1), some (.ref p2), v5, v6, v7]) ⟨Same.refl _, ?_, none, none, none, rfl⟩ ?_ ?_ ?_ ?_
    · rw [mk.zero]
      intro k k0 k1
      omega
    · rintro i σ H4 hi ⟨s4, _⟩
      exact ⟨_, .int ms[i], SqL.of (s4 _ _ eM3), by rw [List.getElem?_map, List.getElem?_eq_getElem hi]; rfl⟩
    · rintro σ H4 ⟨s4, _⟩
      exact ⟨_, SqL.of (s4 _ _ eM3), by rw [List.length_map]; exact Nat.le_refl _⟩
    · rintro i σ H4 x H5 hi ⟨s4, hbl, v5, v6, v7, rfl⟩ ⟨T, x, rfl, nT, rfl, fx⟩
      obtain ⟨m, em, rfl⟩ := of_map (fx _ (SqL.of (s4 _ _ eM3)))
      rw [em] at hbl
      have hbl : Below (dif s rs s' rs') m := hbl
      have s5 := same_new (o := .tup [.int (i : Nat), .int m]) nT
      have s35 := s4.trans s5
      refine ⟨T, _, rfl, .inl (.inl upd_same), rfl, _, _, rfl, _, _, rfl, rfl, ?_⟩
      have hi1 : i < ts1.length := by omega
      have hi2 : i < ts2.length := by omega
      have o1 := s35 _ _ (f3 i _ m (List.getElem?_eq_getElem hi1) em)
      have o2 := s35 _ _ (k3 i _ m (List.getElem?_eq_getElem hi2) em)
      have q1 := SqL.of (K := K) (s35 _ _ f1)
      have q2 := SqL.of (K := K) (s35 _ _ k1)
      have ea1 : atI (ts1.map V.ref) (i : Int) = some (.ref ts1[i]) := at_map (List.getElem?_eq_getElem hi1)
      have ea2 : atI (ts2.map V.ref) (i : Int) = some (.ref ts2[i]) := at_map (List.getElem?_eq_getElem hi2)
      have qM := SqL.of (K := K) (s35 _ _ eM3)
      generalize ts1[i] = u1 at o1 ea1
      generalize ts2[i] = u2 at o2 ea2
      have w1 : SqT K (upd H4 T (.tup [.int (i : Nat), .int m])) u1 _ := .inl (.inl o1)
      have w2 : SqT K (upd H4 T (.tup [.int (i : Nat), .int m])) u2 _ := .inl (.inl o2)
      have hm0 := mk.one.pos em
      generalize upd H4 T (.tup [.int (i : Nat), .int m]) = H6 at s5 s35 o1 o2 q1 q2 qM w1 w2 ⊢
      walk_at "go"
      refine ⟨p1, _, _, _, rfl, rfl, q1, ea1, ?_⟩
      walk_at "go"
      refine ⟨p2, _, _, _, rfl, rfl, q2, ea2, ?_⟩
      walk_at "go"
      have ed : s + Fs rs m - (s' + Fs rs' m) = dif s rs s' rs' m := rfl
      refine ite2 (fun e => ?_) (fun e => ?_)
      · have hp : 0 < dif s rs s' rs' m := of_decide_eq_true e
        walk_at "go"
        exact q _ (some m) (s03.trans s35) ⟨hm0, hp, hbl⟩
      · have hp : dif s rs s' rs' m ≤ 0 := Int.not_lt.mp fun z => e (decide_eq_true z)
        walk_at "go"
        refine ⟨p1, _, _, _, rfl, rfl, q1, ea1, ?_⟩
        walk_at "go"
        refine ⟨p2, _, _, _, rfl, rfl, q2, ea2, ?_⟩
        walk_at "go"
        have eu : (uI rs m > uI rs' m) ↔ (up rs m && !up rs' m) = true := by
          unfold uI
          cases up rs m <;> cases up rs' m <;> simp
        have calmL : ∀ {q : Rs} {N : Int}, (∀ x, Edge q x → x ≤ m) → Calm q m N := fun hq x hx z => by
          have := hq x hx
          omega
        refine ite2 (fun e2 => ?_) (fun e2 => ?_)
        · have hu : (up rs m && !up rs' m) = true := eu.mp (of_decide_eq_true e2)
          walk_at "go"
          refine ⟨M, _, rfl, .inl qM, ?_⟩
          rw [List.length_map]
          walk_at "go"
          by_cases hlast : i + 1 = ms.length
          · refine ite2 (fun _ => ?_) (fun e3 => absurd (decide_eq_true (by rw [← hlast]; rfl)) e3)
            walk_at "go"
            exact q _ (some (m + 1 - dif s rs s' rs' m)) (s03.trans s35) (found_next g g' (calmL (mk.one.last em hlast.symm)) (calmL (mk.two.last em hlast.symm)) hm0 hbl hp hu (Int.le_refl _))
          · have hi3 : i + 1 < ms.length := by omega
            have eN : ms[i + 1]? = some ms[i + 1] := List.getElem?_eq_getElem hi3
            have ea3 : atI (ms.map V.int) ((i : Int) + 1) = some (.int ms[i + 1]) := at_of (j := i + 1) (by omega) (by rw [List.getElem?_map, eN]; rfl)
            refine ite2 (fun e3 => ?_) (fun _ => ?_)
            · have := V.int.inj (of_decide_eq_true e3)
              omega
            walk_at "go"
            refine ⟨M, _, _, _, rfl, rfl, qM, ea3, ?_⟩
            generalize ms[i + 1] = N at eN ea3
            walk_at "go"
            refine ite2 (fun e3 => ?_) (fun e3 => ?_)
            · have hN : m + 1 - dif s rs s' rs' m < N := of_decide_eq_true e3
              walk_at "go"
              exact q _ (some (m + 1 - dif s rs s' rs' m)) (s03.trans s35) (found_next g g' (mk.one.calm em eN) (mk.two.calm em eN) hm0 hbl hp hu (Int.le_of_lt hN))
            · have hN : N ≤ m + 1 - dif s rs s' rs' m := Int.not_lt.mp fun z => e3 (decide_eq_true z)
              refine ⟨s35, ?_, _, _, _, rfl⟩
              rw [eN]
              exact below_next g g' (mk.one.calm em eN) (mk.two.calm em eN) hbl hp (.inr hN)
        · have hu : (up rs m && !up rs' m) = false := by
            cases c : (up rs m && !up rs' m) with
            | false => rfl
            | true => exact absurd (decide_eq_true (eu.mpr c)) e2
          refine ⟨s35, ?_, _, _, _, rfl⟩
          by_cases hlast : i + 1 = ms.length
          · rw [List.getElem?_eq_none (by omega)]
            exact below_all g g' (mk.one.last em hlast.symm) (mk.two.last em hlast.symm) hbl hp hu
          · have eN : ms[i + 1]? = some ms[i + 1] := List.getElem?_eq_getElem (by omega)
            rw [eN]
            exact below_next g g' (mk.one.calm em eN) (mk.two.calm em eN) hbl hp (.inl hu)
    · rintro σ H4 ⟨s4, hbl, v5, v6, v7, rfl⟩
      rw [List.getElem?_eq_none (Nat.le_refl _)] at hbl
      walk_at "go"
      exact q _ none (s03.trans s4) hbl
end
end Z
set_option pp.maxSteps 700
set_option Elab.async false
set_option linter.all false
set_option maxRecDepth 100000
set_option maxHeartbeats 4000000
namespace Z
open Nd
open PySem PySem.Spec PyProof.Rows L2
open C8 (pss_cut tCut)
local macro_rules | `(tactic| walk_at "num") => `(tactic| first | rfl | omega | decide | exact Nat.le_of_lt (small1000 (by simp)) | exact ⟨by omega, by omega⟩ | exact ⟨by omega, by omega, by omega⟩ | exact ⟨by decide, by decide, by decide⟩ | exact Or.inl ⟨by omega, by omega⟩ | exact Or.inr ⟨by omega, by omega⟩)
local macro_rules | `(tactic| walk_at "go") => `(tactic| repeat (first | refine ⟨_, rfl, ?_⟩ | refine ⟨_, _, rfl, rfl, ?_⟩ | refine ⟨_, _, rfl, ?_⟩ | refine ⟨_, _, rfl, rfl, (by walk_at "num"), ?_⟩ | refine Or.inl ⟨_, rfl, ?_⟩ | refine ⟨_, _, _, _, rfl, rfl, (by assumption), (by rfl), ?_⟩ | refine ⟨_, _, _, _, _, rfl, (by assumption), (by assumption), (by assumption), (by rfl), ?_⟩ | refine ⟨rfl, ?_⟩ | refine And.intro (by walk_at "num") ?_))
abbrev s_Need_excess : Stmt := inClass (topS 19) 4
abbrev N_Need_excess : List Str := ["self", "other", "point"]
abbrev P_Need_excess : List Str := ["self", "other"]
theorem sc_Need_excess : FnScope N_Need_excess P_Need_excess (defScope s_Need_excess) := ⟨rfl, rfl, rfl, by decide +kernel, rfl, by decide +kernel, by decide +kernel⟩
section
variable {P : Program} {w : World} {K : PySem.W.Frag} {mg : Str → Option Value} {base : Heap} {f C : Addr} {fd : FuncData}
/-! ### excess -/
def Exc : Option Int → Rs → Option Int → Option Int → Rs → Option Int → Option (Option Int) → Prop
  | none, _, _, none, _, _, o => o = none
  | none, _, _, some _, _, _, o => o = some (some 0)
  | some _, _, _, none, _, _, o => o = none
  | some s, rs, nv, some s', rs', nv', o => ∃ p, FA (dif s rs s' rs') p ∧ o = match p with
    | some x => some (some x)
    | none => if am nv nv' = true then none else some none
theorem Exc.uniq {st st' nv nv' : Option Int} {rs rs' : Rs} {a b : Option (Option Int)} (ha : Exc st rs nv st' rs' nv' a) (hb : Exc st rs nv st' rs' nv' b) : a = b := by
  cases st with
  | none =>
    cases st' with
    | none => exact (show a = none from ha).trans (show b = none from hb).symm
    | some _ => exact (show a = some (some 0) from ha).trans (show b = some (some 0) from hb).symm
  | some s =>
    cases st' with
    | none => exact (show a = none from ha).trans (show b = none from hb).symm
    | some s' =>
      obtain ⟨p, h1, rfl⟩ := ha
      obtain ⟨p', h2, rfl⟩ := hb
      rw [h1.uniq h2]
def exV : Option (Option Int) → List V
  | none => []
  | some o => [oV o]
def spExcess (C : Addr) (K : PySem.W.Frag) : Sp := fun vs H Q _ => ∃ (st st' nv nv' : Option Int) (n m : Addr) (rs rs' : Rs), vs = [.ref n, .ref m] ∧ NeedAt C K H n st rs nv ∧ NeedAt C K H m st' rs' nv' ∧ Ok st rs nv ∧ Ok st' rs' nv' ∧ rs.length ≤ 20000 ∧ rs'.length ≤ 20000 ∧ ∀ t H' o, Same H H' → H' t = some (.tup (exV o)) → Exc st rs nv st' rs' nv' o → Q (.ref t) H'
theorem ok_excess (F : FnM K "excess" "Need.excess" s_Need_excess f fd) (cls : Cls K C) (n_start : NoAttr K C "start") (n_rises : NoAttr K C "rises") (n_never : NoAttr K C "never") (c_first_above : Cal P w K mg base 2 "first_above" (spFA K)) : FnOk P w K mg base CX0 3 f fd P_Need_excess (spExcess C K) := by
  refine F.ok sc_Need_excess (fun vs H Q E h => ?_) (fun cdv A outer s H vs Q E hr h => ?_)
  · obtain ⟨st, st', nv, nv', n, m, rs, rs', rfl, _⟩ := h
    rfl
  · obtain ⟨st, st', nv, nv', n, m, rs, rs', rfl, hN, hN', ok, ok', l1, l2, q⟩ := h
    obtain ⟨dx, r, ps, hn, hR, _⟩ := id hN
    obtain ⟨dx', r', ps', hn', hR', _⟩ := id hN'
    refine ⟨_, PSs.nox (pss_cons (ps_if (pt_cmpR op_isN (pe_fld (pv 0) rfl) pe_non (nomark _)) (pss_one (ps_ret (pe_ifExp (pt_cmpR op_isN (pe_fld (pv 1) rfl) pe_non (nomark _)) (pe_tup pa_nil) (pe_tup (pa_cons pe_int pa_nil))))) pss_nil)
      (pss_cons (ps_if (pt_cmpR op_isN (pe_fld (pv 1) rfl) pe_non (nomark _)) (pss_one (ps_ret (pe_tup pa_nil))) pss_nil)
      (pss_cons (ps_set (i := 2) sc_Need_excess.nd rfl (by first | exact .inl rfl | exact .inr rfl) (pe_cl c_first_above hr (by decide) (by rfl) (pa_cons (pe_tup (pa_cons (pe_fld (pv 0) rfl) (pa_cons (pe_fld (pv 0) rfl) pa_nil))) (pa_cons (pe_tup (pa_cons (pe_fld (pv 1) rfl) (pa_cons (pe_fld (pv 1) rfl) pa_nil))) pa_nil))))
      (pss_cons (ps_if (pt_cmpR op_notN (pv 2) pe_non (nomark _)) (pss_one (ps_ret (pe_tup (pa_cons (pv 2) pa_nil)))) pss_nil)
      (pss_cons (ps_if (PW.pt (pw_and (pt_cmpR op_notN (pe_fld (pv 1) rfl) pe_non (nomark _)) (pw_and1 (PW.pt (pw_or (pt_cmpR op_isN (pe_fld (pv 0) rfl) pe_non (nomark _)) (pw_or1 (pt_cmpR op_gt (pe_fld (pv 0) rfl) (pe_fld (pv 1) rfl) (nomark _)))))))) (pss_one (ps_ret (pe_tup (pa_cons pe_non pa_nil)))) pss_nil)
      (pss_one (ps_ret (pe_tup pa_nil)))))))), ?_⟩
    cases st with
    | none =>
      cases st' with
      | none =>
        walk_at "go"
        intro t nt
        exact q t _ none (same_new nt) upd_same rfl
      | some s' =>
        walk_at "go"
        intro t nt
        exact q t _ (some (some 0)) (same_new nt) upd_same rfl
    | some s =>
      cases st' with
      | none =>
        walk_at "go"
        intro t nt
        exact q t _ none (same_new nt) upd_same rfl
      | some s' =>
        walk_at "go"
        intro t1 n1
        have s1 := same_new (o := .tup [.int s, .ref r]) n1
        have hn1 := s1 _ _ hn
        have hn1' := s1 _ _ hn'
        walk_at "go"
        intro t2 n2
        have s2 := same_new (o := .tup [.int s', .ref r']) n2
        have s12 := s1.trans s2
        walk_at "go"
        refine ⟨t1, t2, s, s', rs, rs', rfl, ⟨r, ps, .inl (.inl (s2 _ _ upd_same)), hR.mono s12⟩, ⟨r', ps', .inl (.inl upd_same), hR'.mono s12⟩, ok.1, ok'.1, l1, l2, fun H3 o s3 fa => ?_⟩
        have s03 := s12.trans s3
        have hn3 := s03 _ _ hn
        have hn3' := s03 _ _ hn'
        cases o with
        | some x =>
          walk_at "go"
          intro t nt
          exact q t _ (some (some x)) (s03.trans (same_new nt)) upd_same ⟨_, fa, rfl⟩
        | none =>
          walk_at "go"
          cases nv' with
          | none =>
            walk_at "go"
            intro t nt
            exact q t _ none (s03.trans (same_new nt)) upd_same ⟨_, fa, by cases nv <;> rfl⟩
          | some b =>
            cases nv with
            | none =>
              walk_at "go"
              intro t nt
              exact q t _ (some none) (s03.trans (same_new nt)) upd_same ⟨_, fa, rfl⟩
            | some a =>
              walk_at "go"
              refine ite2 (fun e => ?_) (fun e => ?_)
              · have hab : a > b := of_decide_eq_true e
                walk_at "go"
                intro t nt
                refine q t _ (some none) (s03.trans (same_new nt)) upd_same ⟨_, fa, ?_⟩
                show _ = if decide (a ≤ b) = true then none else some none
                rw [if_neg (by simp; omega)]
              · have hab : ¬ a > b := fun z => e (decide_eq_true z)
                walk_at "go"
                intro t nt
                refine q t _ none (s03.trans (same_new nt)) upd_same ⟨_, fa, ?_⟩
                show _ = if decide (a ≤ b) = true then none else some none
                rw [if_pos (by simp; omega)]
end
end Z
set_option Elab.async false
set_option linter.all false
namespace Nd
/-! ### the last end -/
def lastE : Int → Rs → Option Int
  | e, [] => some e
  | _, (_, none) :: _ => none
  | _, (_, some h) :: r => lastE h r
theorem Good.app : ∀ {gs r : Rs} {e x : Int}, Good e gs → lastE e gs = some x → Good x r → Good e (gs ++ r)
  | [], r, e, x, _, h, g => by
    cases h
    exact g
  | (_, none) :: _, _, _, _, _, h, _ => by cases h
  | (l, some y) :: gs, r, e, x, h1, h2, g => ⟨h1.1, h1.2.1, Good.app (gs := gs) h1.2.2 h2 g⟩
theorem Good.unapp : ∀ {gs r : Rs} {e : Int} {p : Int × Option Int}, Good e (gs ++ p :: r) → Good e gs ∧ ∃ x, lastE e gs = some x ∧ Good x (p :: r)
  | [], r, e, p, h => ⟨trivial, e, rfl, h⟩
  | (l, none) :: gs, r, e, p, h => by
    have h2 : gs ++ p :: r = [] := h.2
    simp at h2
  | (l, some y) :: gs, r, e, p, h => by
    obtain ⟨a, x, b, c⟩ := Good.unapp (gs := gs) h.2.2
    exact ⟨⟨h.1, h.2.1, a⟩, x, b, c⟩
theorem lastE_app : ∀ {gs r : Rs} {e x : Int}, lastE e gs = some x → lastE e (gs ++ r) = lastE x r
  | [], r, e, x, h => by
    cases h
    rfl
  | (_, none) :: _, _, _, _, h => by cases h
  | (l, some y) :: gs, r, e, x, h => lastE_app (gs := gs) h
/-! ### parts, some of them empty -/
def emp (p : Int × Option Int) : Bool := match p.2 with
  | none => false
  | some h => decide (h ≤ p.1)
def clean (ps : Rs) : Rs := ps.filter fun p => !emp p
theorem clean_cons (p : Int × Option Int) (ps : Rs) : clean (p :: ps) = if emp p = true then clean ps else p :: clean ps := by
  unfold clean
  rw [List.filter_cons]
  cases emp p <;> rfl
theorem clean_app (a b : Rs) : clean (a ++ b) = clean a ++ clean b := List.filter_append ..
theorem clean_clean (a : Rs) : clean (clean a) = clean a := by
  unfold clean
  rw [List.filter_filter]
  congr 1
  funext p
  cases emp p <;> rfl
def Pa : Int → Rs → Prop
  | _, [] => True
  | e, (l, none) :: r => e ≤ l ∧ r = []
  | e, (l, some h) :: r => (h ≤ l ∧ Pa e r) ∨ (l < h ∧ e ≤ l ∧ Pa h r)
theorem Pa.weak : ∀ {r : Rs} {e e' : Int}, e' ≤ e → Pa e r → Pa e' r
  | [], _, _, _, _ => trivial
  | (l, none) :: r, e, e', h, p => ⟨by have := p.1; omega, p.2⟩
  | (l, some x) :: r, e, e', h, p => by
    rcases p with ⟨a, b⟩ | ⟨a, b, c⟩
    · exact .inl ⟨a, Pa.weak h b⟩
    · exact .inr ⟨a, by omega, c⟩
/-- joined, one part further -/
def jS (fs : Rs) (p : Int × Option Int) : Rs := if emp p = true then fs else match fs.getLast? with
  | some (a, some b) => if b = p.1 then fs.dropLast ++ [(a, p.2)] else fs ++ [p]
  | _ => fs ++ [p]
theorem jS_len (fs : Rs) (p : Int × Option Int) : (jS fs p).length ≤ fs.length + 1 := by
  unfold jS
  split
  · omega
  · split
    · split
      · simp
      · simp
    · simp
theorem join_len : ∀ (parts fs : Rs), (parts.foldl jS fs).length ≤ fs.length + parts.length
  | [], fs => Nat.le_refl _
  | p :: r, fs => by
    have h1 := jS_len fs p
    have h2 := join_len r (jS fs p)
    rw [List.foldl_cons, List.length_cons]
    omega
theorem rise_join {k a l : Int} {h : Option Int} (hal : a < l) (hh : ∀ y, h = some y → l < y) : rise k (a, some l) + rise k (l, h) = rise k (a, h) := by
  unfold rise
  dsimp only
  cases h with
  | none => dsimp only; (repeat' split) <;> omega
  | some y =>
    have := hh y rfl
    dsimp only
    (repeat' split) <;> omega
theorem jS_spec {fs : Rs} {l x : Int} {h : Option Int} (g : Good (-1) fs) (hx : lastE (-1) fs = some x) (hl : x ≤ l) (h0 : 0 ≤ l) (hh : ∀ y, h = some y → l < y) :
    Good (-1) (jS fs (l, h)) ∧ (∀ y, h = some y → lastE (-1) (jS fs (l, h)) = some y) ∧ ∀ k, Fs (jS fs (l, h)) k = Fs fs k + rise k (l, h) := by
  have he : emp (l, h) = false := by
    unfold emp
    cases h with
    | none => rfl
    | some y =>
      have := hh y rfl
      show decide (y ≤ l) = false
      exact decide_eq_false (by omega)
  have snoc : x < l → Good (-1) (fs ++ [(l, h)]) ∧ (∀ y, h = some y → lastE (-1) (fs ++ [(l, h)]) = some y) ∧ ∀ k, Fs (fs ++ [(l, h)]) k = Fs fs k + rise k (l, h) := by
    intro hlt
    refine ⟨Good.app g hx ?_, fun y hy => ?_, fun k => ?_⟩
    · cases h with
      | none => exact ⟨hlt, rfl⟩
      | some y => exact ⟨hlt, hh y rfl, trivial⟩
    · subst hy
      rw [lastE_app hx]
      rfl
    · rw [Fs_append, Fs_cons, Fs_nil]
      omega
  rcases List.eq_nil_or_concat fs with rfl | ⟨gs, ⟨a, b⟩, efs⟩
  · have : x = -1 := (Option.some.inj hx).symm
    have e : jS [] (l, h) = [] ++ [(l, h)] := by
      unfold jS
      rw [he]
      rfl
    rw [e]
    exact snoc (by omega)
  · have efs : fs = gs ++ [(a, b)] := by rw [efs]; simp
    subst efs
    obtain ⟨g1, y, hy, g2⟩ := g.unapp
    rw [lastE_app hy] at hx
    cases b with
    | none => cases hx
    | some b =>
      have hx : b = x := Option.some.inj hx
      subst hx
      by_cases c : b = l
      · subst c
        have e : jS (gs ++ [(a, some b)]) (b, h) = gs ++ [(a, h)] := by
          unfold jS
          rw [he]
          simp
        rw [e]
        have hab : a < b := g2.2.1
        refine ⟨Good.app g1 hy ?_, fun z hz => ?_, fun k => ?_⟩
        · cases h with
          | none => exact ⟨g2.1, rfl⟩
          | some z => exact ⟨g2.1, by have := hh z rfl; omega, trivial⟩
        · subst hz
          rw [lastE_app hy]
          rfl
        · have := rise_join (k := k) hab hh
          rw [Fs_append, Fs_append, Fs_cons, Fs_cons, Fs_nil]
          omega
      · have e : jS (gs ++ [(a, some b)]) (l, h) = (gs ++ [(a, some b)]) ++ [(l, h)] := by
          unfold jS
          rw [he]
          simp [c]
        rw [e]
        exact snoc (by omega)
theorem join_spec : ∀ {parts fs : Rs} {e x : Int}, Good (-1) fs → lastE (-1) fs = some x → x ≤ e → 0 ≤ e → Pa e parts → Good (-1) (parts.foldl jS fs) ∧ ∀ k, Fs (parts.foldl jS fs) k = Fs fs k + Fs (clean parts) k
  | [], fs, e, x, g, _, _, _, _ => ⟨g, fun k => by
      show Fs fs k = Fs fs k + 0
      omega⟩
  | (l, none) :: r, fs, e, x, g, hx, hxe, h0, p => by
    have p2 := p.2
    subst p2
    have p1 := p.1
    obtain ⟨a, _, c⟩ := jS_spec (h := none) (l := l) g hx (by omega) (by omega) nofun
    refine ⟨a, fun k => ?_⟩
    show Fs (jS fs (l, none)) k = _
    rw [c k]
    show _ = Fs fs k + Fs [(l, none)] k
    rw [Fs_cons, Fs_nil]
    omega
  | (l, some h) :: r, fs, e, x, g, hx, hxe, h0, p => by
    rw [List.foldl_cons, clean_cons]
    rcases p with ⟨a, b⟩ | ⟨a, b, c⟩
    · have he : emp (l, some h) = true := decide_eq_true a
      rw [if_pos he, show jS fs (l, some h) = fs by unfold jS; rw [he]; rfl]
      exact join_spec g hx hxe h0 b
    · have he : emp (l, some h) = false := decide_eq_false (by omega)
      rw [if_neg (by rw [he]; simp)]
      obtain ⟨u, v, w⟩ := jS_spec (h := some h) (l := l) g hx (by omega) (by omega) (fun y hy => by cases hy; exact a)
      obtain ⟨i1, i2⟩ := join_spec (parts := r) (e := h) u (v h rfl) (Int.le_refl _) (by omega) c
      refine ⟨i1, fun k => ?_⟩
      rw [i2 k, w k, Fs_cons]
      omega
def join (parts : Rs) : Rs := parts.foldl jS []
theorem join_ok {parts : Rs} (h : Pa 0 parts) : Good (-1) (join parts) ∧ (∀ k, Fs (join parts) k = Fs (clean parts) k) ∧ (join parts).length ≤ parts.length := by
  obtain ⟨a, b⟩ := join_spec (fs := []) (x := -1) trivial rfl (by omega) (by omega) h
  refine ⟨a, fun k => ?_, ?_⟩
  · show Fs (parts.foldl jS []) k = _
    rw [b k, Fs_nil]
    omega
  · have := join_len parts []
    simpa [join] using this
/-! ### one behind the other -/
def cq (v low : Int) (high : Option Int) (p : Int × Option Int) : Int × Option Int := (low + max 0 (p.1 - v), match p.2 with
  | none => high
  | some e => match high with
    | none => some (low + max 0 (e - v))
    | some hi => if low + max 0 (e - v) > hi then some hi else some (low + max 0 (e - v)))
def riseC (k : Int) (p : Int × Option Int) : Int := if emp p = true then 0 else rise k p
theorem Fs_clean (ps : Rs) (k : Int) : Fs (clean ps) k = (ps.map (riseC k)).sum := by
  induction ps with
  | nil => rfl
  | cons p r ih =>
    rw [clean_cons, List.map_cons, List.sum_cons]
    unfold riseC
    by_cases h : emp p = true
    · rw [if_pos h, if_pos h, ih]
      unfold riseC
      omega
    · rw [if_neg h, if_neg h, Fs_cons, ih]
      unfold riseC
      rfl
theorem cq_rise {k v low b : Int} {high e : Option Int} (h1 : ∀ y, high = some y → low < y) (h2 : ∀ y, e = some y → b < y) : riseC k (cq v low high (b, e)) = rise (v + rise k (low, high)) (b, e) - rise v (b, e) := by
  have rN : ∀ l : Int, riseC k (l, none) = rise k (l, none) := fun l => rfl
  have rS : ∀ l h : Int, riseC k (l, some h) = if h ≤ l then 0 else rise k (l, some h) := fun l h => by
    unfold riseC emp
    simp only [decide_eq_true_eq]
  cases high with
  | none =>
    cases e with
    | none =>
      show riseC k (low + max 0 (b - v), none) = _
      rw [rN]
      unfold rise
      dsimp only
      (repeat' split) <;> omega
    | some y =>
      have := h2 y rfl
      show riseC k (low + max 0 (b - v), some (low + max 0 (y - v))) = _
      rw [rS]
      unfold rise
      dsimp only
      (repeat' split) <;> omega
  | some x =>
    have := h1 x rfl
    cases e with
    | none =>
      show riseC k (low + max 0 (b - v), some x) = _
      rw [rS]
      unfold rise
      dsimp only
      (repeat' split) <;> omega
    | some y =>
      have := h2 y rfl
      by_cases c : low + max 0 (y - v) > x
      · rw [show cq v low (some x) (b, some y) = (low + max 0 (b - v), some x) by unfold cq; dsimp only; rw [if_pos c], rS]
        unfold rise
        dsimp only
        (repeat' split) <;> omega
      · rw [show cq v low (some x) (b, some y) = (low + max 0 (b - v), some (low + max 0 (y - v))) by unfold cq; dsimp only; rw [if_neg c], rS]
        unfold rise
        dsimp only
        (repeat' split) <;> omega
def cpI (outer : Rs) (v low : Int) (high : Option Int) : Rs := clean (outer.map (cq v low high))
theorem cpI_sum {k v low : Int} {high : Option Int} (h1 : ∀ y, high = some y → low < y) : ∀ {outer : Rs} {e : Int}, Good e outer → Fs (cpI outer v low high) k = Fs outer (v + rise k (low, high)) - Fs outer v
  | [], _, _ => rfl
  | (b, none) :: r, e, g => by
    have g2 := g.2
    subst g2
    unfold cpI
    rw [Fs_clean]
    show riseC k (cq v low high (b, none)) + 0 = _
    rw [cq_rise h1 (fun y hy => by cases hy), Fs_cons, Fs_cons, Fs_nil, Fs_nil]
    omega
  | (b, some y) :: r, e, g => by
    have ih := cpI_sum (k := k) (v := v) h1 g.2.2
    unfold cpI at ih ⊢
    rw [Fs_clean] at ih ⊢
    rw [List.map_cons, List.map_cons, List.sum_cons, ih, cq_rise h1 (fun z hz => by cases hz; exact g.2.1), Fs_cons, Fs_cons]
    omega
theorem cpI_pa {v low : Int} : ∀ {outer : Rs} {e h x : Int} {rest : Rs}, Good e outer → x ≤ h → x ≤ low + max 0 (e - v) → Pa h rest → Pa x (cpI outer v low (some h) ++ rest)
  | [], e, h, x, rest, _, h1, _, p => p.weak h1
  | (b, none) :: r, e, h, x, rest, g, h1, h2, p => by
    have g2 := g.2
    subst g2
    have g1 := g.1
    unfold cpI
    rw [List.map_cons, clean_cons]
    show Pa x ((if emp (low + max 0 (b - v), some h) = true then [] else [(low + max 0 (b - v), some h)]) ++ rest)
    by_cases c : h ≤ low + max 0 (b - v)
    · rw [if_pos (show emp (_, some h) = true from decide_eq_true c)]
      exact p.weak h1
    · rw [if_neg (show ¬ emp (_, some h) = true from fun z => c (of_decide_eq_true z))]
      exact .inr ⟨by omega, by omega, p⟩
  | (b, some y) :: r, e, h, x, rest, g, h1, h2, p => by
    have g1 := g.1
    have g3 := g.2.1
    unfold cpI
    rw [List.map_cons, clean_cons]
    have key : ∀ R : Int, R ≤ h → R ≤ low + max 0 (y - v) → cq v low (some h) (b, some y) = (low + max 0 (b - v), some R) → Pa x ((if emp (cq v low (some h) (b, some y)) = true then clean (r.map (cq v low (some h))) else cq v low (some h) (b, some y) :: clean (r.map (cq v low (some h)))) ++ rest) := by
      intro R r1 r2 ec
      rw [ec]
      by_cases c : R ≤ low + max 0 (b - v)
      · rw [if_pos (show emp (_, some R) = true from decide_eq_true c)]
        exact cpI_pa (x := x) g.2.2 h1 (by omega) p
      · rw [if_neg (show ¬ emp (_, some R) = true from fun z => c (of_decide_eq_true z))]
        exact .inr ⟨by omega, by omega, cpI_pa (x := R) g.2.2 r1 r2 p⟩
    by_cases c : low + max 0 (y - v) > h
    · exact key h (Int.le_refl _) (by omega) (by unfold cq; dsimp only; rw [if_pos c])
    · exact key _ (by omega) (Int.le_refl _) (by unfold cq; dsimp only; rw [if_neg c])
theorem cpI_paN {v low : Int} : ∀ {outer : Rs} {e x : Int}, Good e outer → x ≤ low + max 0 (e - v) → Pa x (cpI outer v low none)
  | [], e, x, _, _ => trivial
  | (b, none) :: r, e, x, g, h2 => by
    have g2 := g.2
    subst g2
    have g1 := g.1
    show x ≤ low + max 0 (b - v) ∧ _
    exact ⟨by omega, rfl⟩
  | (b, some y) :: r, e, x, g, h2 => by
    have g1 := g.1
    have g3 := g.2.1
    unfold cpI
    rw [List.map_cons, clean_cons]
    show Pa x (if emp (low + max 0 (b - v), some (low + max 0 (y - v))) = true then clean (r.map (cq v low none)) else (low + max 0 (b - v), some (low + max 0 (y - v))) :: clean (r.map (cq v low none)))
    by_cases c : low + max 0 (y - v) ≤ low + max 0 (b - v)
    · rw [if_pos (show emp (_, some _) = true from decide_eq_true c)]
      exact cpI_paN (x := x) g.2.2 (by omega)
    · rw [if_neg (show ¬ emp (_, some _) = true from fun z => c (of_decide_eq_true z))]
      exact .inr ⟨by omega, by omega, cpI_paN g.2.2 (Int.le_refl _)⟩
def cpO (outer : Rs) : Int → Rs → Rs
  | _, [] => []
  | v, (low, none) :: r => cpI outer v low none ++ cpO outer v r
  | v, (low, some h) :: r => cpI outer v low (some h) ++ cpO outer (v + h - low) r
theorem cpO_clean (outer : Rs) : ∀ (v : Int) (inner : Rs), clean (cpO outer v inner) = cpO outer v inner
  | _, [] => rfl
  | v, (low, none) :: r => by
    show clean (cpI outer v low none ++ cpO outer v r) = cpI outer v low none ++ cpO outer v r
    rw [clean_app, cpO_clean outer v r]
    unfold cpI
    rw [clean_clean]
  | v, (low, some h) :: r => by
    show clean (cpI outer v low (some h) ++ cpO outer (v + h - low) r) = cpI outer v low (some h) ++ cpO outer (v + h - low) r
    rw [clean_app, cpO_clean outer _ r]
    unfold cpI
    rw [clean_clean]
theorem cpO_pa {outer : Rs} {E : Int} (g : Good E outer) : ∀ {inner : Rs} {e v x : Int}, Good e inner → E ≤ v → x ≤ e → Pa x (cpO outer v inner)
  | [], _, _, _, _, _, _ => trivial
  | (low, none) :: r, e, v, x, gi, h1, h2 => by
    have g2 := gi.2
    subst g2
    have g1 := gi.1
    show Pa x (cpI outer v low none ++ [])
    rw [List.append_nil]
    exact cpI_paN g (by omega)
  | (low, some h) :: r, e, v, x, gi, h1, h2 => by
    have g1 := gi.1
    have g2 := gi.2.1
    exact cpI_pa g (by omega) (by omega) (cpO_pa g gi.2.2 (by omega) (Int.le_refl _))
theorem cpO_sum {outer : Rs} {E k : Int} (g : Good E outer) : ∀ {inner : Rs} {e v : Int}, Good e inner → Fs (cpO outer v inner) k = Fs outer (v + Fs inner k) - Fs outer v
  | [], _, v, _ => by
    show Fs [] k = Fs outer (v + Fs [] k) - Fs outer v
    rw [Fs_nil, Int.add_zero]
    omega
  | (low, none) :: r, e, v, gi => by
    have g2 := gi.2
    subst g2
    show Fs (cpI outer v low none ++ []) k = _
    rw [List.append_nil, cpI_sum (fun y hy => by cases hy) g, Fs_cons, Fs_nil, Int.add_zero]
  | (low, some h) :: r, e, v, gi => by
    have g2 := gi.2.1
    have ih := cpO_sum (k := k) g (inner := r) (v := v + h - low) gi.2.2
    show Fs (cpI outer v low (some h) ++ cpO outer (v + h - low) r) k = _
    rw [Fs_append, ih, cpI_sum (fun y hy => by cases hy; exact g2) g, Fs_cons]
    by_cases c : k ≤ h
    · rw [Fs_zero gi.2.2 c, Int.add_zero, Int.add_zero]
      omega
    · have e1 : rise k (low, some h) = h - low := by rw [rise_some (by omega), if_neg (by omega)]
      rw [e1, show v + (h - low + Fs r k) = v + h - low + Fs r k by omega, show v + (h - low) = v + h - low by omega]
      omega
theorem cpI_len (outer : Rs) (v low : Int) (high : Option Int) : (cpI outer v low high).length ≤ outer.length := by
  unfold cpI clean
  have := List.length_filter_le (fun p => !emp p) (outer.map (cq v low high))
  simpa using this
theorem cpO_len (outer : Rs) : ∀ (v : Int) (inner : Rs), (cpO outer v inner).length ≤ outer.length * inner.length
  | _, [] => Nat.zero_le _
  | v, (low, none) :: r => by
    show (cpI outer v low none ++ cpO outer v r).length ≤ outer.length * (r.length + 1)
    have h1 := cpI_len outer v low none
    have h2 := cpO_len outer v r
    rw [List.length_append, Nat.mul_add, Nat.mul_one]
    omega
  | v, (low, some h) :: r => by
    show (cpI outer v low (some h) ++ cpO outer (v + h - low) r).length ≤ outer.length * (r.length + 1)
    have h1 := cpI_len outer v low (some h)
    have h2 := cpO_len outer (v + h - low) r
    rw [List.length_append, Nat.mul_add, Nat.mul_one]
    omega
/-- the rises of the one behind the other -/
theorem comp_ok {outer inner : Rs} {s : Int} (g : Good (-1) outer) (gi : Good (-1) inner) (hs : 0 ≤ s) : Good (-1) (join (cpO outer s inner)) ∧ (∀ k, Fs (join (cpO outer s inner)) k = Fs outer (s + Fs inner k) - Fs outer s) ∧ (join (cpO outer s inner)).length ≤ outer.length * inner.length := by
  have pa : Pa (-1) (cpO outer s inner) := cpO_pa g gi (by omega) (Int.le_refl _)
  have pa0 : Pa 0 (cpO outer s inner) := by
    cases inner with
    | nil => trivial
    | cons p r =>
      obtain ⟨low, h⟩ := p
      cases h with
      | none =>
        have g2 := gi.2
        subst g2
        have g1 := gi.1
        show Pa 0 (cpI outer s low none ++ [])
        rw [List.append_nil]
        exact cpI_paN g (by omega)
      | some h =>
        have g1 := gi.1
        have g2 := gi.2.1
        exact cpI_pa g (by omega) (by omega) (cpO_pa g gi.2.2 (by omega) (Int.le_refl _))
  obtain ⟨a, b, c⟩ := join_ok pa0
  refine ⟨a, fun k => ?_, Nat.le_trans c (cpO_len outer s inner)⟩
  rw [b k, cpO_clean, cpO_sum g gi]
end Nd
set_option Elab.async false
set_option linter.all false
namespace Nd
/-! ### the smaller or the greater of two -/
def mm (sm : Bool) (x y : Int) : Int := if sm = true then min x y else max x y
def gp (a u b : Int) : Int := if u = 1 then max 0 (b - a) else max 0 (a - b)
def rpt (a u b w : Int) (wd : Option Int) (sm : Bool) : Int × Option Int :=
  if u = w then (if u = 1 then (0, wd) else (0, some 0))
  else if sm = true then (0, some (match wd with
    | none => gp a u b
    | some x => if gp a u b < x then gp a u b else x))
  else (gp a u b, wd)
def prt (m : Int) (r : Int × Option Int) : Int × Option Int := (m + r.1, r.2.map fun x => m + x)
theorem rC_none (k l : Int) : riseC k (l, none) = rise k (l, none) := rfl
theorem rC_some (k l h : Int) : riseC k (l, some h) = if h ≤ l then 0 else rise k (l, some h) := by
  unfold riseC emp
  simp only [decide_eq_true_eq]
theorem mul01 {u t : Int} (h : u = 0 ∨ u = 1) : u * t = if u = 1 then t else 0 := by
  rcases h with rfl | rfl
  · simp
  · simp
theorem strch {a u b w m k : Int} {sm : Bool} {wd : Option Int} (hu : u = 0 ∨ u = 1) (hw : w = 0 ∨ w = 1) (hx : ∀ x, wd = some x → 0 < x) {t : Int} (ht : t = rise k (m, wd.map fun x => m + x)) :
    riseC k (prt m (rpt a u b w wd sm)) = mm sm (a + u * t) (b + w * t) - mm sm a b := by
  rw [mul01 hu, mul01 hw]
  unfold mm
  cases wd with
  | none =>
    rw [show (Option.map (fun x => m + x) (none : Option Int)) = none from rfl] at ht
    unfold rise at ht
    dsimp only at ht
    rcases hu with rfl | rfl <;> rcases hw with rfl | rfl
    · show riseC k (m + 0, some (m + 0)) = _
      rw [rC_some, if_pos (Int.le_refl _)]
      simp
    · cases sm with
      | true =>
        show riseC k (m + 0, some (m + max 0 (a - b))) = _
        rw [rC_some]
        unfold rise
        dsimp only
        simp only [if_true, show ¬ (0 : Int) = 1 by decide, if_false]
        (repeat' split at ht) <;> (repeat' split) <;> omega
      | false =>
        show riseC k (m + max 0 (a - b), none) = _
        rw [rC_none]
        unfold rise
        dsimp only
        simp only [if_true, show ¬ (0 : Int) = 1 by decide, if_false, Bool.false_eq_true]
        (repeat' split at ht) <;> (repeat' split) <;> omega
    · cases sm with
      | true =>
        show riseC k (m + 0, some (m + max 0 (b - a))) = _
        rw [rC_some]
        unfold rise
        dsimp only
        simp only [if_true, show ¬ (0 : Int) = 1 by decide, if_false]
        (repeat' split at ht) <;> (repeat' split) <;> omega
      | false =>
        show riseC k (m + max 0 (b - a), none) = _
        rw [rC_none]
        unfold rise
        dsimp only
        simp only [if_true, show ¬ (0 : Int) = 1 by decide, if_false, Bool.false_eq_true]
        (repeat' split at ht) <;> (repeat' split) <;> omega
    · show riseC k (m + 0, none) = _
      rw [rC_none]
      unfold rise
      dsimp only
      cases sm <;> simp only [if_true, if_false, Bool.false_eq_true] <;> (repeat' split at ht) <;> (repeat' split) <;> omega
  | some x =>
    have h0 := hx x rfl
    rw [show (Option.map (fun x => m + x) (some x)) = some (m + x) from rfl] at ht
    unfold rise at ht
    dsimp only at ht
    rcases hu with rfl | rfl <;> rcases hw with rfl | rfl
    · show riseC k (m + 0, some (m + 0)) = _
      rw [rC_some, if_pos (Int.le_refl _)]
      simp
    · cases sm with
      | true =>
        show riseC k (m + 0, some (m + (if max 0 (a - b) < x then max 0 (a - b) else x))) = _
        rw [rC_some]
        unfold rise
        dsimp only
        simp only [if_true, show ¬ (0 : Int) = 1 by decide, if_false]
        (repeat' split at ht) <;> (repeat' split) <;> omega
      | false =>
        show riseC k (m + max 0 (a - b), some (m + x)) = _
        rw [rC_some]
        unfold rise
        dsimp only
        simp only [if_true, show ¬ (0 : Int) = 1 by decide, if_false, Bool.false_eq_true]
        (repeat' split at ht) <;> (repeat' split) <;> omega
    · cases sm with
      | true =>
        show riseC k (m + 0, some (m + (if max 0 (b - a) < x then max 0 (b - a) else x))) = _
        rw [rC_some]
        unfold rise
        dsimp only
        simp only [if_true, show ¬ (0 : Int) = 1 by decide, if_false]
        (repeat' split at ht) <;> (repeat' split) <;> omega
      | false =>
        show riseC k (m + max 0 (b - a), some (m + x)) = _
        rw [rC_some]
        unfold rise
        dsimp only
        simp only [if_true, show ¬ (0 : Int) = 1 by decide, if_false, Bool.false_eq_true]
        (repeat' split at ht) <;> (repeat' split) <;> omega
    · show riseC k (m + 0, some (m + x)) = _
      rw [rC_some]
      unfold rise
      dsimp only
      cases sm <;> simp only [if_true, if_false, Bool.false_eq_true] <;> (repeat' split at ht) <;> (repeat' split) <;> omega
/-- where the part lies -/
theorem part_in {a u b w m : Int} {sm : Bool} {wd : Option Int} (hu : u = 0 ∨ u = 1) (hw : w = 0 ∨ w = 1) (hx : ∀ x, wd = some x → 0 < x) : m ≤ (prt m (rpt a u b w wd sm)).1 ∧ ∀ x, wd = some x → ∃ h, (prt m (rpt a u b w wd sm)).2 = some h ∧ h ≤ m + x := by
  have hg : 0 ≤ gp a u b := by
    unfold gp
    split <;> omega
  unfold prt rpt
  split
  · split
    · refine ⟨by show m ≤ m + 0; omega, fun x e => ?_⟩
      subst e
      exact ⟨m + x, rfl, Int.le_refl _⟩
    · refine ⟨by show m ≤ m + 0; omega, fun x e => ?_⟩
      have := hx x e
      exact ⟨m + 0, rfl, by omega⟩
  · split
    · refine ⟨by show m ≤ m + 0; omega, fun x e => ?_⟩
      subst e
      refine ⟨_, rfl, ?_⟩
      dsimp only
      split <;> omega
    · refine ⟨by show m ≤ m + gp a u b; omega, fun x e => ?_⟩
      subst e
      exact ⟨m + x, rfl, Int.le_refl _⟩
def cbP (F : Int → Option Int → Int × Option Int) : List Int → Rs
  | [] => []
  | [m] => [F m none]
  | m :: m' :: r => F m (some (m' - m)) :: cbP F (m' :: r)
def Cm (rs rs' : Rs) : List Int → Prop
  | [] => True
  | [m] => (∀ x, Edge rs x → x ≤ m) ∧ (∀ x, Edge rs' x → x ≤ m)
  | m :: m' :: r => m < m' ∧ Calm rs m m' ∧ Calm rs' m m' ∧ Cm rs rs' (m' :: r)
theorem cm_of {rs rs' : Rs} : ∀ {ms : List Int}, (∀ (i : Nat) (m : Int), ms[i]? = some m → ms.length = i + 1 → (∀ x, Edge rs x → x ≤ m) ∧ (∀ x, Edge rs' x → x ≤ m)) → (∀ (i : Nat) (m M : Int), ms[i]? = some m → ms[i + 1]? = some M → m < M ∧ Calm rs m M ∧ Calm rs' m M) → Cm rs rs' ms
  | [], _, _ => trivial
  | [m], h, _ => h 0 m rfl rfl
  | m :: m' :: r, h1, h2 => by
    obtain ⟨a, b, c⟩ := h2 0 m m' rfl rfl
    refine ⟨a, b, c, cm_of (fun i x hi hl => h1 (i + 1) x hi ?_) (fun i x y hx hy => h2 (i + 1) x y hx hy)⟩
    rw [List.length_cons, hl]
def uu (rs : Rs) (m : Int) : Int := if up rs m = true then 1 else 0
theorem uu01 (rs : Rs) (m : Int) : uu rs m = 0 ∨ uu rs m = 1 := by
  unfold uu
  split
  · exact .inr rfl
  · exact .inl rfl
theorem aff2 {rs : Rs} {e m k : Int} (g : Good e rs) (h : m ≤ k) (c : Calm rs m k) : Fs rs k = Fs rs m + uu rs m * (k - m) := by
  unfold uu
  rcases aff g h c with ⟨a, b⟩ | ⟨a, b⟩
  · rw [if_pos a, b]
    omega
  · rw [if_neg (by rw [a]; simp), b]
    omega
def cbF (s : Int) (rs : Rs) (s' : Int) (rs' : Rs) (sm : Bool) (m : Int) (wd : Option Int) : Int × Option Int := prt m (rpt (s + Fs rs m) (uu rs m) (s' + Fs rs' m) (uu rs' m) wd sm)
theorem Calm.less {rs : Rs} {m k M : Int} (h : Calm rs m M) (hk : k ≤ M) : Calm rs m k := fun x hx z => h x hx ⟨z.1, by omega⟩
theorem calm_last {rs : Rs} {m k : Int} (h : ∀ x, Edge rs x → x ≤ m) : Calm rs m k := fun x hx z => by
  have := h x hx
  omega
theorem cb_sum {s s' : Int} {rs rs' : Rs} {sm : Bool} {e e' : Int} (g : Good e rs) (g' : Good e' rs') : ∀ {r : List Int} {m : Int}, Cm rs rs' (m :: r) → ∀ k, (k ≤ m → Fs (clean (cbP (cbF s rs s' rs' sm) (m :: r))) k = 0) ∧ (m ≤ k → Fs (clean (cbP (cbF s rs s' rs' sm) (m :: r))) k = mm sm (s + Fs rs k) (s' + Fs rs' k) - mm sm (s + Fs rs m) (s' + Fs rs' m))
  | [], m, c, k => by
    have st := strch (a := s + Fs rs m) (b := s' + Fs rs' m) (m := m) (k := k) (sm := sm) (wd := none) (uu01 rs m) (uu01 rs' m) (fun x hx => by cases hx) rfl
    have e : Fs (clean (cbP (cbF s rs s' rs' sm) [m])) k = riseC k (cbF s rs s' rs' sm m none) := by
      rw [Fs_clean]
      show riseC k (cbF s rs s' rs' sm m none) + 0 = _
      omega
    rw [e]
    unfold cbF
    rw [st, show (Option.map (fun x => m + x) (none : Option Int)) = none from rfl]
    constructor
    · intro h
      rw [rise_zero h, Int.mul_zero, Int.mul_zero, Int.add_zero, Int.add_zero]
      omega
    · intro h
      have e2 : rise k (m, none) = k - m := by
        by_cases z : k ≤ m
        · rw [rise_zero z]; omega
        · rw [rise_none (by omega)]
      rw [e2, aff2 g h (calm_last c.1), aff2 g' h (calm_last c.2)]
      rw [Int.add_assoc, Int.add_assoc]
  | m' :: r, m, c, k => by
    obtain ⟨c1, c2, c3, c4⟩ := c
    have ih := cb_sum (s := s) (s' := s') (sm := sm) g g' c4 k
    have st := strch (a := s + Fs rs m) (b := s' + Fs rs' m) (m := m) (k := k) (sm := sm) (wd := some (m' - m)) (uu01 rs m) (uu01 rs' m) (fun x hx => by cases hx; omega) rfl
    have e : Fs (clean (cbP (cbF s rs s' rs' sm) (m :: m' :: r))) k = riseC k (cbF s rs s' rs' sm m (some (m' - m))) + Fs (clean (cbP (cbF s rs s' rs' sm) (m' :: r))) k := by
      rw [Fs_clean, Fs_clean]
      rfl
    rw [e, show riseC k (cbF s rs s' rs' sm m (some (m' - m))) = _ from st, show (Option.map (fun x => m + x) (some (m' - m))) = some m' by show some (m + (m' - m)) = _; congr 1; omega]
    constructor
    · intro h
      rw [ih.1 (by omega), rise_zero h, Int.mul_zero, Int.mul_zero, Int.add_zero, Int.add_zero, Int.add_zero]
      omega
    · intro h
      by_cases z : k ≤ m'
      · have e2 : rise k (m, some m') = k - m := by
          by_cases z2 : k ≤ m
          · rw [rise_zero z2]; omega
          · rw [rise_some (by omega)]
            split <;> omega
        rw [ih.1 z, e2, aff2 g h (c2.less z), aff2 g' h (c3.less z), Int.add_zero, Int.add_assoc, Int.add_assoc]
      · have e2 : rise k (m, some m') = m' - m := by rw [rise_some (by omega), if_neg (by omega)]
        rw [ih.2 (by omega), e2, aff2 (k := m') g (by omega) c2, aff2 (k := m') g' (by omega) c3, Int.add_assoc, Int.add_assoc]
        omega
theorem cb_pa {s s' : Int} {rs rs' : Rs} {sm : Bool} : ∀ {r : List Int} {m : Int}, Cm rs rs' (m :: r) → Pa m (cbP (cbF s rs s' rs' sm) (m :: r))
  | [], m, c => by
    have h := part_in (a := s + Fs rs m) (b := s' + Fs rs' m) (m := m) (sm := sm) (wd := none) (uu01 rs m) (uu01 rs' m) (fun x hx => by cases hx)
    show Pa m [cbF s rs s' rs' sm m none]
    have e : cbF s rs s' rs' sm m none = ((cbF s rs s' rs' sm m none).1, (cbF s rs s' rs' sm m none).2) := rfl
    rw [e]
    have h1 : m ≤ (cbF s rs s' rs' sm m none).1 := h.1
    cases c2 : (cbF s rs s' rs' sm m none).2 with
    | none => exact ⟨h1, rfl⟩
    | some y =>
      by_cases z : y ≤ (cbF s rs s' rs' sm m none).1
      · exact .inl ⟨z, trivial⟩
      · exact .inr ⟨by omega, h1, trivial⟩
  | m' :: r, m, c => by
    obtain ⟨c1, c2, c3, c4⟩ := c
    have ih := cb_pa (s := s) (s' := s') (sm := sm) c4
    have h := part_in (a := s + Fs rs m) (b := s' + Fs rs' m) (m := m) (sm := sm) (wd := some (m' - m)) (uu01 rs m) (uu01 rs' m) (fun x hx => by cases hx; omega)
    obtain ⟨h1, h2⟩ := h
    obtain ⟨y, h3, h4⟩ := h2 _ rfl
    show Pa m (cbF s rs s' rs' sm m (some (m' - m)) :: cbP (cbF s rs s' rs' sm) (m' :: r))
    have e : cbF s rs s' rs' sm m (some (m' - m)) = ((cbF s rs s' rs' sm m (some (m' - m))).1, some y) := by
      show ((cbF s rs s' rs' sm m (some (m' - m))).1, (cbF s rs s' rs' sm m (some (m' - m))).2) = _
      rw [show (cbF s rs s' rs' sm m (some (m' - m))).2 = some y from h3]
    have h1 : m ≤ (cbF s rs s' rs' sm m (some (m' - m))).1 := h1
    generalize (cbF s rs s' rs' sm m (some (m' - m))).1 = l at e h1
    rw [e]
    by_cases z : y ≤ l
    · exact .inl ⟨z, ih.weak (by omega)⟩
    · exact .inr ⟨by omega, h1, ih.weak (by omega)⟩
theorem cbP_len (F : Int → Option Int → Int × Option Int) : ∀ ms : List Int, (cbP F ms).length = ms.length
  | [] => rfl
  | [m] => rfl
  | m :: m' :: r => by
    show (cbP F (m' :: r)).length + 1 = _
    rw [cbP_len F (m' :: r)]
    rfl
theorem comb_ok {s s' : Int} {rs rs' : Rs} {sm : Bool} {r : List Int} (g : Good (-1) rs) (g' : Good (-1) rs') (c : Cm rs rs' (0 :: r)) : Good (-1) (join (cbP (cbF s rs s' rs' sm) (0 :: r))) ∧ (∀ k, 0 ≤ k → mm sm s s' + Fs (join (cbP (cbF s rs s' rs' sm) (0 :: r))) k = mm sm (s + Fs rs k) (s' + Fs rs' k)) ∧ (join (cbP (cbF s rs s' rs' sm) (0 :: r))).length ≤ r.length + 1 := by
  obtain ⟨a, b, d⟩ := join_ok (cb_pa (s := s) (s' := s') (sm := sm) c)
  refine ⟨a, fun k hk => ?_, ?_⟩
  · rw [b k, (cb_sum g g' c k).2 hk, Fs0 g, Fs0 g', Int.add_zero, Int.add_zero]
    omega
  · rw [cbP_len] at d
    exact d
/-! ### the greatest value -/
theorem top_le : ∀ {rs : Rs} {e t v : Int}, Good e rs → (∀ k, e ≤ k → t + Fs rs k ≤ v) → ∃ x, top t rs = some x ∧ x ≤ v
  | [], e, t, v, _, h => ⟨t, rfl, by
      have := h e (Int.le_refl _)
      rw [Fs_nil] at this
      omega⟩
  | (l, none) :: r, e, t, v, g, h => by
    have g2 := g.2
    subst g2
    have g1 := g.1
    exfalso
    have := h (l + max 0 (v - t) + 1) (by omega)
    rw [Fs_cons, Fs_nil, rise_none (by omega)] at this
    omega
  | (l, some y) :: r, e, t, v, g, h => by
    have g1 := g.1
    have g2 := g.2.1
    refine top_le (rs := r) (e := y) (t := t + y - l) g.2.2 (fun k hk => ?_)
    have := h k (by omega)
    rw [Fs_cons, rise_some (by omega), if_neg (by omega)] at this
    omega
theorem le_top : ∀ {rs : Rs} {e t v : Int}, Good e rs → top t rs = some v → ∀ k, t + Fs rs k ≤ v
  | [], e, t, v, _, h, k => by
    have : t = v := Option.some.inj h
    rw [Fs_nil]
    omega
  | (l, none) :: r, e, t, v, g, h, k => by cases h
  | (l, some y) :: r, e, t, v, g, h, k => by
    have g2 := g.2.1
    have ih := le_top (t := t + y - l) g.2.2 h k
    rw [Fs_cons]
    have : rise k (l, some y) ≤ y - l := by
      unfold rise
      dsimp only
      (repeat' split) <;> omega
    omega
end Nd
set_option Elab.async false
set_option linter.all false
namespace Nd
/-! ### how many rises the one behind the other has -/
def alv (v : Int) (p : Int × Option Int) : Bool := match p.2 with
  | none => true
  | some e => decide (v < e)
def alive (outer : Rs) (v : Int) : Rs := outer.filter (alv v)
theorem alive_cons (p : Int × Option Int) (r : Rs) (v : Int) : (alive (p :: r) v).length = (if alv v p = true then 1 else 0) + (alive r v).length := by
  unfold alive
  rw [List.filter_cons]
  split
  · rw [List.length_cons]
    omega
  · omega
theorem cpI_cons (p : Int × Option Int) (r : Rs) (v low : Int) (high : Option Int) : (cpI (p :: r) v low high).length = (if emp (cq v low high p) = true then 0 else 1) + (cpI r v low high).length := by
  unfold cpI
  rw [List.map_cons, clean_cons]
  split
  · omega
  · rw [List.length_cons]
    omega
theorem cpI_far {v low h : Int} : ∀ {r : Rs} {e : Int}, Good e r → v + h - low ≤ e → low < h → (cpI r v low (some h)).length = 0 ∧ (alive r (v + h - low)).length = r.length ∧ (alive r v).length = r.length
  | [], _, _, _, _ => ⟨rfl, rfl, rfl⟩
  | (b, none) :: r, e, g, h1, h2 => by
    have g2 := g.2
    subst g2
    have g1 := g.1
    rw [cpI_cons, alive_cons, alive_cons]
    have : emp (cq v low (some h) (b, none)) = true := decide_eq_true (show h ≤ low + max 0 (b - v) by omega)
    rw [if_pos this]
    exact ⟨rfl, rfl, rfl⟩
  | (b, some y) :: r, e, g, h1, h2 => by
    have g1 := g.1
    have g3 := g.2.1
    obtain ⟨i1, i2, i3⟩ := cpI_far (v := v) g.2.2 (show v + h - low ≤ y by omega) h2
    rw [cpI_cons, alive_cons, alive_cons, i1, i2, i3]
    have e1 : cq v low (some h) (b, some y) = (low + max 0 (b - v), some h) := by
      unfold cq
      dsimp only
      rw [if_pos (by omega)]
    have : emp (cq v low (some h) (b, some y)) = true := by
      rw [e1]
      exact decide_eq_true (show h ≤ low + max 0 (b - v) by omega)
    rw [if_pos this]
    have a1 : alv (v + h - low) (b, some y) = true := decide_eq_true (by omega)
    have a2 : alv v (b, some y) = true := decide_eq_true (by omega)
    rw [if_pos a1, if_pos a2, List.length_cons]
    omega
theorem cpI_alive {v low h : Int} (hlt : low < h) : ∀ {outer : Rs} {e : Int}, Good e outer → (cpI outer v low (some h)).length + (alive outer (v + h - low)).length ≤ (alive outer v).length + 1
  | [], _, _ => by
    show 0 + 0 ≤ 0 + 1
    omega
  | (b, none) :: r, e, g => by
    have g2 := g.2
    subst g2
    rw [cpI_cons, alive_cons, alive_cons]
    have a1 : alv (v + h - low) (b, none) = true := rfl
    have a2 : alv v (b, none) = true := rfl
    rw [if_pos a1, if_pos a2]
    show _ + 0 + (1 + 0) ≤ 1 + 0 + 1
    split <;> omega
  | (b, some y) :: r, e, g => by
    have g3 := g.2.1
    rw [cpI_cons, alive_cons, alive_cons]
    by_cases c1 : y ≤ v
    · have ih := cpI_alive (v := v) hlt g.2.2
      have a1 : ¬ alv (v + h - low) (b, some y) = true := fun z => by
        have := of_decide_eq_true z
        omega
      have a2 : ¬ alv v (b, some y) = true := fun z => by
        have := of_decide_eq_true z
        omega
      have e1 : cq v low (some h) (b, some y) = (low + max 0 (b - v), some (low + max 0 (y - v))) := by
        unfold cq
        dsimp only
        rw [if_neg (by omega)]
      have : emp (cq v low (some h) (b, some y)) = true := by
        rw [e1]
        exact decide_eq_true (show low + max 0 (y - v) ≤ low + max 0 (b - v) by omega)
      rw [if_pos this, if_neg a1, if_neg a2]
      omega
    · by_cases c2 : y ≤ v + h - low
      · have ih := cpI_alive (v := v) hlt g.2.2
        have a1 : ¬ alv (v + h - low) (b, some y) = true := fun z => by
          have := of_decide_eq_true z
          omega
        have a2 : alv v (b, some y) = true := decide_eq_true (by omega)
        rw [if_neg a1, if_pos a2]
        split <;> omega
      · obtain ⟨i1, i2, i3⟩ := cpI_far (v := v) g.2.2 (show v + h - low ≤ y by omega) hlt
        rw [i1, i2, i3]
        have a1 : alv (v + h - low) (b, some y) = true := decide_eq_true (by omega)
        have a2 : alv v (b, some y) = true := decide_eq_true (by omega)
        rw [if_pos a1, if_pos a2]
        split <;> omega
theorem cpI_aliveN {v low : Int} : ∀ {outer : Rs} {e : Int}, Good e outer → (cpI outer v low none).length ≤ (alive outer v).length
  | [], _, _ => Nat.le_refl _
  | (b, none) :: r, e, g => by
    have g2 := g.2
    subst g2
    rw [cpI_cons, alive_cons]
    have a2 : alv v (b, none) = true := rfl
    rw [if_pos a2]
    show _ + 0 ≤ 1 + 0
    split <;> omega
  | (b, some y) :: r, e, g => by
    have g3 := g.2.1
    have ih := cpI_aliveN (v := v) (low := low) g.2.2
    rw [cpI_cons, alive_cons]
    by_cases c1 : y ≤ v
    · have : emp (cq v low none (b, some y)) = true := decide_eq_true (show low + max 0 (y - v) ≤ low + max 0 (b - v) by omega)
      rw [if_pos this]
      omega
    · have a2 : alv v (b, some y) = true := decide_eq_true (by omega)
      rw [if_pos a2]
      split <;> omega
theorem cpO_alive {outer : Rs} {E : Int} (g : Good E outer) : ∀ {inner : Rs} {e v : Int}, Good e inner → (cpO outer v inner).length ≤ (alive outer v).length + inner.length
  | [], _, _, _ => Nat.zero_le _
  | (low, none) :: r, e, v, gi => by
    have g2 := gi.2
    subst g2
    show (cpI outer v low none ++ []).length ≤ _
    rw [List.append_nil]
    have := cpI_aliveN (v := v) (low := low) g
    simp only [List.length_cons, List.length_nil]
    omega
  | (low, some h) :: r, e, v, gi => by
    have h1 := cpI_alive (v := v) gi.2.1 g
    have ih := cpO_alive g (v := v + h - low) gi.2.2
    show (cpI outer v low (some h) ++ cpO outer (v + h - low) r).length ≤ _
    rw [List.length_append, List.length_cons]
    omega
theorem cpO_len2 {outer inner : Rs} {v : Int} (g : Good (-1) outer) (gi : Good (-1) inner) : (cpO outer v inner).length ≤ outer.length + inner.length := by
  have h1 := cpO_alive g (v := v) gi
  have h2 : (alive outer v).length ≤ outer.length := List.length_filter_le _ _
  omega
/-! ### one function, one list of rises -/
theorem Fs_head {l k : Int} {h : Option Int} {r : Rs} {e : Int} (g : Good e ((l, h) :: r)) (hk : l ≤ k) (hh : ∀ y, h = some y → k ≤ y) : Fs ((l, h) :: r) k = k - l := by
  cases h with
  | none =>
    have g2 := g.2
    subst g2
    rw [Fs_cons, Fs_nil]
    unfold rise
    dsimp only
    split <;> omega
  | some y =>
    have h1 := hh y rfl
    have g2 := g.2.1
    rw [Fs_cons, Fs_zero g.2.2 h1]
    unfold rise
    dsimp only
    (repeat' split) <;> omega
theorem Fs_past {l y k : Int} {r : Rs} {e : Int} (g : Good e ((l, some y) :: r)) (hk : y ≤ k) : Fs ((l, some y) :: r) k = y - l + Fs r k := by
  have g2 := g.2.1
  rw [Fs_cons, rise_some (by omega), if_neg (by omega)]
theorem good_low {l : Int} {h : Option Int} {r : Rs} {e : Int} (g : Good e ((l, h) :: r)) : e < l ∧ ∀ y, h = some y → l < y := by
  cases h with
  | none => exact ⟨g.1, nofun⟩
  | some y => exact ⟨g.1, fun z hz => by cases hz; exact g.2.1⟩
theorem Fs_one {l y : Int} {r : Rs} {e : Int} (g : Good e ((l, some y) :: r)) : Fs r (y + 1) = 0 := by
  cases r with
  | nil => rfl
  | cons p r =>
    obtain ⟨a, b⟩ := p
    have := (good_low g.2.2).1
    exact Fs_stop g.2.2 (i := 0) rfl (by omega)
theorem canon : ∀ {rs rs' : Rs} {e : Int}, Good e rs → Good e rs' → (∀ k, e ≤ k → Fs rs k = Fs rs' k) → rs = rs'
  | [], [], _, _, _, _ => rfl
  | [], (l, h) :: r, e, _, g, hk => by
    obtain ⟨g1, g2⟩ := good_low g
    have h1 := hk (l + 1) (by omega)
    rw [Fs_head g (by omega) (fun y hy => by have := g2 y hy; omega), Fs_nil] at h1
    omega
  | (l, h) :: r, [], e, g, _, hk => by
    obtain ⟨g1, g2⟩ := good_low g
    have h1 := hk (l + 1) (by omega)
    rw [Fs_head g (by omega) (fun y hy => by have := g2 y hy; omega), Fs_nil] at h1
    omega
  | (l, h) :: r, (l', h') :: r', e, g, g', hk => by
    obtain ⟨g1, g2⟩ := good_low g
    obtain ⟨g1', g2'⟩ := good_low g'
    have el : l = l' := by
      have a1 := hk (l + 1) (by omega)
      have a2 := hk (l' + 1) (by omega)
      rw [Fs_head g (by omega) (fun y hy => by have := g2 y hy; omega)] at a1
      rw [Fs_head g' (by omega) (fun y hy => by have := g2' y hy; omega)] at a2
      have b1 : l + 1 ≤ l' → Fs ((l', h') :: r') (l + 1) = 0 := fun z => Fs_stop g' (i := 0) rfl z
      have b2 : l' + 1 ≤ l → Fs ((l, h) :: r) (l' + 1) = 0 := fun z => Fs_stop g (i := 0) rfl z
      by_cases c1 : l < l'
      · have := b1 (by omega)
        omega
      · by_cases c2 : l' < l
        · have := b2 (by omega)
          omega
        · omega
    subst el
    cases h with
    | none =>
      have e1 : r = [] := g.2
      subst e1
      cases h' with
      | none =>
        have e2 : r' = [] := g'.2
        subst e2
        rfl
      | some y =>
        have hy := g'.2.1
        have a1 := hk (y + 1) (by omega)
        rw [Fs_head g (by omega) nofun, Fs_past g' (by omega), Fs_one g'] at a1
        omega
    | some y =>
      have hy := g.2.1
      cases h' with
      | none =>
        have a1 := hk (y + 1) (by omega)
        rw [Fs_past g (by omega), Fs_one g, Fs_head g' (by omega) nofun] at a1
        omega
      | some y' =>
        have hy' := g'.2.1
        have ey : y = y' := by
          by_cases c1 : y < y'
          · have a1 := hk (y + 1) (by omega)
            rw [Fs_past g (by omega), Fs_one g, Fs_head g' (by omega) (fun z hz => by cases hz; omega)] at a1
            omega
          · by_cases c2 : y' < y
            · have a1 := hk (y' + 1) (by omega)
              rw [Fs_past g' (by omega), Fs_one g', Fs_head g (by omega) (fun z hz => by cases hz; omega)] at a1
              omega
            · omega
        subst ey
        have ih := canon (rs := r) (rs' := r') g.2.2 g'.2.2 (fun k h1 => by
          have a1 := hk k (by omega)
          rw [Fs_past g h1, Fs_past g' h1] at a1
          omega)
        rw [ih]
end Nd
set_option pp.maxSteps 700
set_option Elab.async false
set_option linter.all false
set_option maxRecDepth 100000
set_option maxHeartbeats 4000000
namespace Z
open Nd
open PySem PySem.Spec PyProof.Rows L2
open C8 (pss_cut tCut)
local macro_rules | `(tactic| walk_at "num") => `(tactic| first | rfl | omega | decide | exact Nat.le_of_lt (small1000 (by simp)) | exact ⟨by omega, by omega⟩ | exact ⟨by omega, by omega, by omega⟩ | exact ⟨by decide, by decide, by decide⟩ | exact Or.inl ⟨by omega, by omega⟩ | exact Or.inr ⟨by omega, by omega⟩)
local macro_rules | `(tactic| walk_at "go") => `(tactic| repeat (first | refine ⟨_, rfl, ?_⟩ | refine ⟨_, _, rfl, rfl, ?_⟩ | refine ⟨_, _, rfl, ?_⟩ | refine ⟨_, _, rfl, rfl, (by walk_at "num"), ?_⟩ | refine Or.inl ⟨_, rfl, ?_⟩ | refine ⟨_, _, _, _, rfl, rfl, (by assumption), (by rfl), ?_⟩ | refine ⟨_, _, _, _, _, rfl, (by assumption), (by assumption), (by assumption), (by rfl), ?_⟩ | refine ⟨rfl, ?_⟩ | refine And.intro (by walk_at "num") ?_))
abbrev s_joined : Stmt := topS 8
abbrev N_joined : List Str := ["parts", "found", "low", "high"]
abbrev P_joined : List Str := ["parts"]
theorem sc_joined : FnScope N_joined P_joined (defScope s_joined) := ⟨rfl, rfl, rfl, by decide +kernel, rfl, by decide +kernel, by decide +kernel⟩
theorem RisH.at_last {H : Hp} {a : Addr} {ps : List Addr} {gs : Rs} {x : Int} {y : Option Int} (r : RisH H a ps (gs ++ [(x, y)])) : ∃ ps0 u, ps = ps0 ++ [u] ∧ ps0.length = gs.length ∧ H u = some (.tup [.int x, oV y]) := by
  rcases List.eq_nil_or_concat ps with rfl | ⟨ps0, u, e⟩
  · have := r.2.1
    simp at this
  · have e : ps = ps0 ++ [u] := by rw [e]; simp
    subst e
    have hl : ps0.length = gs.length := by
      have := r.2.1
      simpa using this
    refine ⟨ps0, u, rfl, hl, r.2.2 ps0.length u (x, y) (by simp) (by rw [hl]; simp)⟩
theorem RisH.set_last {H : Hp} {a T u : Addr} {ps : List Addr} {gs : Rs} {x : Int} {y z : Option Int} (r : RisH H a (ps ++ [u]) (gs ++ [(x, y)])) (hT : H T = some (.tup [.int x, oV z])) : RisH (upd H a (.lst (((ps ++ [u]).map V.ref).set ps.length (.ref T)))) a (ps ++ [T]) (gs ++ [(x, z)]) := by
  have ne : ∀ {q : Addr} {xs : List V}, H q = some (.tup xs) → q ≠ a := fun e w => by
    rw [w, r.1] at e
    cases e
  have hl : ps.length = gs.length := by
    have := r.2.1
    simpa using this
  refine ⟨?_, by simp [hl], fun i q w h1 h2 => ?_⟩
  · rw [upd_same, List.map_append, List.map_append, List.set_append_right _ _ (by simp)]
    simp
  · by_cases hlt : i < ps.length
    · rw [List.getElem?_append_left hlt] at h1
      rw [List.getElem?_append_left (by omega)] at h2
      have e := r.2.2 i q w (by rw [List.getElem?_append_left hlt]; exact h1) (by rw [List.getElem?_append_left (by omega)]; exact h2)
      rw [upd_ne (ne e)]
      exact e
    · rw [List.getElem?_append_right (by omega)] at h1
      rw [List.getElem?_append_right (by omega)] at h2
      have h3 : i - ps.length = 0 := by
        have := (List.getElem?_eq_some_iff.mp h1).1
        simp at this
        omega
      rw [h3] at h1
      rw [← hl, h3] at h2
      obtain rfl : T = q := Option.some.inj h1
      obtain rfl := Option.some.inj h2
      rw [upd_ne (ne hT)]
      exact hT
/-- an if that only guards, and what it tells -/
theorem cut_fact {p : Prop} {t u : TS} {D : Ends} {σ : L2.St} {H : Hp} (h : t { D with nx := fun σ' H' => σ' = σ ∧ H' = H ∧ p } σ H) (h2 : p → u D σ H) : C8.tCut t u D σ H := ⟨_, h, fun σ' H' z => by
  obtain ⟨rfl, rfl, hp⟩ := z
  exact h2 hp⟩
theorem jS_emp {fs : Rs} {p : Int × Option Int} (h : emp p = true) : jS fs p = fs := if_pos h
theorem jS_nil {p : Int × Option Int} (h : emp p = false) : jS [] p = [p] := by
  unfold jS
  rw [h]
  rfl
theorem jS_last {gs : Rs} {a : Int} {b : Option Int} {p : Int × Option Int} (h : emp p = false) : jS (gs ++ [(a, b)]) p = if b = some p.1 then gs ++ [(a, p.2)] else (gs ++ [(a, b)]) ++ [p] := by
  unfold jS
  rw [h]
  simp only [Bool.false_eq_true, if_false, List.getLast?_append, List.getLast?_singleton, Option.some_or, List.dropLast_concat]
  cases b with
  | none => simp
  | some b => simp
section
variable {P : Program} {w : World} {K : PySem.W.Frag} {mg : Str → Option Value} {base : Heap} {f C : Addr} {fd : FuncData}
def spJoined (K : PySem.W.Frag) : Sp := fun vs H Q _ => ∃ (b c : Bool) (a : Addr) (ps : List Addr) (rs : Rs), vs = [.ref a] ∧ Ris b c K H a ps rs ∧ rs.length ≤ 100000 ∧ ∀ t qs H', Same H H' → H' t = some (.tup (qs.map V.ref)) → Ris false false K H' t qs (join rs) → Q (.ref t) H'
theorem ok_joined (F : FnP K "joined" s_joined f fd) (m_len : mg "len" = none) (m_tuple : mg "tuple" = none) : FnOk P w K mg base CX0 1 f fd P_joined (spJoined K) := by
  refine F.ok sc_joined (fun vs H Q E h => ?_) (fun cdv A outer s H vs Q E hr h => ?_)
  · obtain ⟨b, c, a, ps, rs, rfl, _⟩ := h
    rfl
  · obtain ⟨b, c, a, ps, rs, rfl, hR, hb, q⟩ := h
    refine ⟨_, PSs.nox (pss_cons (ps_set (i := 1) sc_joined.nd rfl (by first | exact .inl rfl | exact .inr rfl) (pe_lst pa_nil))
      (pss_cons (ps_for PassesOwn.never rfl (pi_seq (pv 0)) (pg_or (pg_unl rfl (pgs_cons (pg_name (i := 2) sc_joined.nd rfl (by first | exact .inl rfl | exact .inr rfl)) (pgs_cons (pg_name (i := 3) sc_joined.nd rfl (by first | exact .inl rfl | exact .inr rfl)) pgs_nil))) (pg_tup rfl (pgs_cons (pg_name (i := 2) sc_joined.nd rfl (by first | exact .inl rfl | exact .inr rfl)) (pgs_cons (pg_name (i := 3) sc_joined.nd rfl (by first | exact .inl rfl | exact .inr rfl)) pgs_nil))))
        (pss_cut (ps_if (PW.pt (pw_and (pt_cmpR op_notN (pv 3) pe_non (nomark _)) (pw_and1 (pt_cmpR op_le (pv 3) (pv 2) (nomark _))))) (pss_one ps_continue) pss_nil)
      (pss_one (ps_if (PW.pt (pw_and (pt_cmpR op_gt (pe_callB call_len_seq (by rfl) m_len PySem.boot_len (pa_cons (pv 1) pa_nil)) pe_int (nomark _)) (pw_and1 (pt_cmpR op_eq (pe_ix ix_tup (pe_ix ix_list (pv 1) (pe_un un_neg pe_int) (fun _ _ => rfl)) pe_int (fun _ _ => rfl)) (pv 2) (nomark _))))) (pss_one (ps_asg (pe_tup (pa_cons (pe_ix ix_tup (pe_ix ix_list (pv 1) (pe_un un_neg pe_int) (fun _ _ => rfl)) pe_int (fun _ _ => rfl)) (pa_cons (pv 3) pa_nil))) (pg_sub (pv 1) (pe_un un_neg pe_int) set_list))) (pss_one (ps_expr (pe_bm PySem.F.plainAttrs_list PySem.F.slot_list_append PySem.F.type_list_append mt_append (pv 1) (pa_cons (pe_tup (pa_cons (pv 2) (pa_cons (pv 3) pa_nil))) pa_nil))))))))
      (pss_one (ps_ret (pe_callTy call_tuple_of (by rfl) m_tuple (by decide +kernel) (pa_cons (pv 1) pa_nil)))))), ?_⟩
    walk_at "go"
    intro p np
    walk_at "go"
    refine for_pairs (j := 0) hR (same_new np) (by rfl) (fun i σ H1 => Same H H1 ∧ ∃ (qs : List Addr) (v2 v3 : Option V), RisH H1 p qs ((rs.take i).foldl jS []) ∧ σ = [some (.ref a), some (.ref p), v2, v3]) ⟨same_new np, [], none, none, ⟨upd_same, rfl, fun i q z h => nomatch h⟩, rfl⟩ (fun i σ H1 h => h.1) ?_ ?_
    · rintro i l h σ H1 hi ⟨s1, qs, v2, v3, hq, rfl⟩
      have et : (rs.take (i + 1)).foldl jS [] = jS ((rs.take i).foldl jS []) (l, h) := by
        rw [List.take_add_one, hi, List.foldl_append]
        rfl
      have hlen : ((rs.take i).foldl jS []).length < 100000 := by
        have h1 := join_len (rs.take i) []
        have h2 := (List.getElem?_eq_some_iff.mp hi).1
        rw [List.length_take] at h1
        simp only [List.length_nil, Nat.zero_add] at h1
        omega
      generalize (rs.take i).foldl jS [] = fs at hq et hlen
      refine cut_fact (p := emp (l, h) = false) ?_ ?_
      · cases h with
        | none =>
          walk_at "go"
          rfl
        | some y =>
          walk_at "go"
          refine ite2 (fun e => ?_) (fun e => ?_)
          · have hy : y ≤ l := of_decide_eq_true e
            walk_at "go"
            refine ⟨qs, _, _, ?_, rfl⟩
            rw [et, jS_emp (show emp (l, some y) = true from decide_eq_true hy)]
            exact hq
          · have hy : ¬ y ≤ l := fun z => e (decide_eq_true z)
            exact ⟨rfl, rfl, decide_eq_false hy⟩
      intro he
      rcases List.eq_nil_or_concat fs with rfl | ⟨gs, ⟨x, y⟩, ef⟩
      · have hq0 : qs = [] := List.eq_nil_of_length_eq_zero hq.2.1
        subst hq0
        walk_at "go"
        refine ⟨p, _, rfl, .inl (SqL.of hq.1), ?_⟩
        walk_at "go"
        refine ⟨.inl ⟨rfl, _, .inl (.inl hq.1)⟩, ?_⟩
        walk_at "go"
        intro T nT
        have s2 := same_new (o := .tup [.int l, oV h]) nT
        have hq2 := hq.more s2
        have hT := upd_same (H := H1) (a := T) (o := .tup [.int l, oV h])
        generalize upd H1 T (.tup [.int l, oV h]) = H2 at s2 hq2 hT ⊢
        refine ⟨_, _, _, rfl, rfl, hq2.1, by decide, ?_⟩
        refine ⟨Z.Same.mut (s1.trans s2) np, [T], _, _, ?_, rfl⟩
        rw [et, jS_nil he]
        exact hq2.snoc hT
      · have ef : fs = gs ++ [(x, y)] := by rw [ef]; simp
        subst ef
        rw [jS_last he] at et
        obtain ⟨ps0, u, rfl, hl0, hu⟩ := hq.at_last
        have hl1 : ps0.length < 100000 := by
          rw [List.length_append] at hlen
          simp at hlen
          omega
        have qp := SqL.of (K := K) hq.1
        have ea : atI ((ps0 ++ [u]).map V.ref) (-1) = some (.ref u) := by
          rw [List.map_append]
          exact atI_last _ _
        walk_at "go"
        refine ⟨p, _, rfl, .inl qp, ?_⟩
        walk_at "go"
        refine ite2 (fun e => ?_) (fun e => ?_)
        rotate_left
        · exact absurd (decide_eq_true (by simp)) e
        walk_at "go"
        refine ⟨p, _, _, _, rfl, rfl, qp, ea, ?_⟩
        walk_at "go"
        refine ⟨u, _, _, _, rfl, rfl, SqT.of hu, rfl, ?_⟩
        walk_at "go"
        refine ⟨by cases y <;> rfl, ?_⟩
        walk_at "go"
        refine ite2 (fun e => ?_) (fun e => ?_)
        · have ey : y = some l := by
            have := of_decide_eq_true e
            cases y with
            | none => cases this
            | some z => rw [V.int.inj this]
          rw [if_pos ey] at et
          walk_at "go"
          refine ⟨p, _, _, _, rfl, rfl, qp, ea, ?_⟩
          walk_at "go"
          refine ⟨u, _, _, _, rfl, rfl, SqT.of hu, rfl, ?_⟩
          walk_at "go"
          intro T nT
          have s2 := same_new (o := .tup [.int x, oV h]) nT
          have hq2 := hq.more s2
          have hT := upd_same (H := H1) (a := T) (o := .tup [.int x, oV h])
          generalize upd H1 T (.tup [.int x, oV h]) = H2 at s2 hq2 hT ⊢
          walk_at "go"
          refine ⟨p, _, -1, ps0.length, rfl, rfl, hq2.1, (by simp only [ixN, List.length_map, List.length_append, List.length_singleton]; rw [if_neg (by omega), if_pos (by omega)]; congr 1; omega), ?_⟩
          refine ⟨Z.Same.mut (s1.trans s2) np, ps0 ++ [T], _, _, ?_, rfl⟩
          rw [et]
          exact hq2.set_last hT
        · have ey : ¬ y = some l := fun z => e (decide_eq_true (by rw [z]; rfl))
          rw [if_neg ey] at et
          walk_at "go"
          refine ⟨.inl ⟨rfl, _, .inl (.inl hq.1)⟩, ?_⟩
          walk_at "go"
          intro T nT
          have s2 := same_new (o := .tup [.int l, oV h]) nT
          have hq2 := hq.more s2
          have hT := upd_same (H := H1) (a := T) (o := .tup [.int l, oV h])
          generalize upd H1 T (.tup [.int l, oV h]) = H2 at s2 hq2 hT ⊢
          refine ⟨_, _, _, rfl, rfl, hq2.1, ?_, ?_⟩
          · rw [List.length_map, List.length_append]
            exact Nat.lt_of_le_of_lt (show ps0.length + 1 ≤ 100000 by omega) (by decide)
          refine ⟨Z.Same.mut (s1.trans s2) np, ps0 ++ [u] ++ [T], _, _, ?_, rfl⟩
          rw [et]
          exact hq2.snoc hT
    · rintro σ H1 ⟨s1, qs, v2, v3, hq, rfl⟩
      rw [List.take_length] at hq
      walk_at "go"
      refine ⟨p, _, rfl, .inl ⟨SqL.of hq.1, fun t nt => ?_⟩⟩
      have s2 := same_new (o := .tup (qs.map V.ref)) nt
      have hq2 := hq.more s2
      exact q t qs _ (s1.trans s2) upd_same ⟨.inl (.inl upd_same), hq2.2.1, fun i r z h1 h2 => .inl (.inl (hq2.2.2 i r z h1 h2))⟩
end
end Z
set_option pp.maxSteps 700
set_option Elab.async false
set_option linter.all false
set_option maxRecDepth 100000
set_option maxHeartbeats 4000000
namespace Z
open Nd
open PySem PySem.Spec PyProof.Rows L2
open C8 (pss_cut tCut)
local macro_rules | `(tactic| walk_at "num") => `(tactic| first | rfl | omega | decide | exact Nat.le_of_lt (small1000 (by simp)) | exact ⟨by omega, by omega⟩ | exact ⟨by omega, by omega, by omega⟩ | exact ⟨by decide, by decide, by decide⟩ | exact Or.inl ⟨by omega, by omega⟩ | exact Or.inr ⟨by omega, by omega⟩)
local macro_rules | `(tactic| walk_at "go") => `(tactic| repeat (first | refine ⟨_, rfl, ?_⟩ | refine ⟨_, _, rfl, rfl, ?_⟩ | refine ⟨_, _, rfl, ?_⟩ | refine ⟨_, _, rfl, rfl, (by walk_at "num"), ?_⟩ | refine Or.inl ⟨_, rfl, ?_⟩ | refine ⟨_, _, _, _, rfl, rfl, (by assumption), (by rfl), ?_⟩ | refine ⟨_, _, _, _, _, rfl, (by assumption), (by assumption), (by assumption), (by rfl), ?_⟩ | refine ⟨rfl, ?_⟩ | refine And.intro (by walk_at "num") ?_))
abbrev s_composed : Stmt := topS 13
abbrev N_composed : List Str := ["outer", "inner", "parts", "value", "low", "high", "begin", "end", "left", "right"]
abbrev P_composed : List Str := ["outer", "inner"]
theorem sc_composed : FnScope N_composed P_composed (defScope s_composed) := ⟨rfl, rfl, rfl, by decide +kernel, rfl, by decide +kernel, by decide +kernel⟩
/-- for low, high in a tuple that stands still -/
theorem for_prT {c : Bool} {K : PySem.W.Frag} {a : Addr} {ps : List Addr} {rs : Rs} {H0 : Hp} {i1 i2 : Nat} {tb : TS} {D : Ends} {σ : L2.St} {H : Hp} (hR : Ris false c K H0 a ps rs) (Pv : Nat → L2.St → Hp → Prop) (h0 : Pv 0 σ H) (hq : ∀ i σ H1, Pv i σ H1 → Same H0 H1)
    (hs : ∀ (i : Nat) (l : Int) (h : Option Int) (σ : L2.St) (H1 : Hp), rs[i]? = some (l, h) → Pv i σ H1 → tb { D with nx := Pv (i + 1), ct := Pv (i + 1), bk := D.nx } ((σ.set i1 (some (.int l))).set i2 (some (oV h))) H1)
    (hd : ∀ σ H1, Pv rs.length σ H1 → D.nx σ H1) : forW (Itt K a) (gPair K i1 i2) tb D σ H := by
  refine for_gen (n := rs.length) Pv h0 ?_ ?_ ?_ hd
  · intro i σ1 H1 hi p
    have hi2 : i < ps.length := by rw [hR.2.1]; exact hi
    exact its_go (b := false) (x := .ref ps[i]) (Z.Same.sqK (hq i σ1 H1 p) hR.1) (by rw [List.getElem?_map, List.getElem?_eq_getElem hi2]; rfl)
  · intro σ1 H1 p
    exact its_stop (b := false) (Z.Same.sqK (hq _ σ1 H1 p) hR.1) (by rw [List.length_map, hR.2.1]; exact Nat.le_refl _)
  · intro i σ1 H1 x H' hi p y
    have s1 := hq i σ1 H1 p
    obtain ⟨rfl, ex⟩ := its_yld (b := false) (Z.Same.sqK s1 hR.1) y
    obtain ⟨q, eq, rfl⟩ := of_map ex
    have er : rs[i]? = some (rs[i].1, rs[i].2) := List.getElem?_eq_getElem hi
    exact gpair_of (Z.Same.sqK s1 (hR.2.2 i q _ eq er)) (hs i _ _ σ1 H' er p)
theorem mx0 (x : Int) : (if x > 0 then x else 0) = max 0 x := by
  split <;> omega
/-- a pair (start, rises) -/
def PrT (K : PySem.W.Frag) (H : Hp) (a : Addr) (s : Int) (rs : Rs) : Prop := ∃ r ps, SqT K H a [.int s, .ref r] ∧ Ris false false K H r ps rs
section
variable {P : Program} {w : World} {K : PySem.W.Frag} {mg : Str → Option Value} {base : Heap} {f C : Addr} {fd : FuncData}
def spComposed (K : PySem.W.Frag) : Sp := fun vs H Q _ => ∃ (a b : Addr) (s s' : Int) (rs rs' : Rs), vs = [.ref a, .ref b] ∧ PrT K H a s rs ∧ PrT K H b s' rs' ∧ Good (-1) rs ∧ Good (-1) rs' ∧ rs.length + rs'.length ≤ 50000 ∧ ∀ t r qs H', Same H H' → H' t = some (.tup [.int (s + Fs rs s'), .ref r]) → Ris false false K H' r qs (join (cpO rs s' rs')) → Q (.ref t) H'
theorem ok_composed (F : FnP K "composed" s_composed f fd) (m_max : mg "max" = none) (c_value_at : Cal P w K mg base 1 "value_at" (spValueAt K)) (c_joined : Cal P w K mg base 1 "joined" (spJoined K)) : FnOk P w K mg base CX0 2 f fd P_composed (spComposed K) := by
  refine F.ok sc_composed (fun vs H Q E h => ?_) (fun cdv A outer s H vs Q E hr h => ?_)
  · obtain ⟨a, b, s, s', rs, rs', rfl, _⟩ := h
    rfl
  · obtain ⟨a, b, s0, s', rs, rs', rfl, ⟨r, ps, ha, hR⟩, ⟨r', ps', hb, hR'⟩, g, g', hlen, q⟩ := h
    refine ⟨_, PSs.nox (pss_cons (ps_set (i := 2) sc_composed.nd rfl (by first | exact .inl rfl | exact .inr rfl) (pe_lst pa_nil))
      (pss_cons (ps_set (i := 3) sc_composed.nd rfl (by first | exact .inl rfl | exact .inr rfl) (pe_ix ix_tup (pv 1) pe_int (fun _ _ => rfl)))
      (pss_cut (ps_for PassesOwn.never rfl (pi_tup (pe_ix ix_tup (pv 1) pe_int (fun _ _ => rfl))) (pg_or (pg_unl rfl (pgs_cons (pg_name (i := 4) sc_composed.nd rfl (by first | exact .inl rfl | exact .inr rfl)) (pgs_cons (pg_name (i := 5) sc_composed.nd rfl (by first | exact .inl rfl | exact .inr rfl)) pgs_nil))) (pg_tup rfl (pgs_cons (pg_name (i := 4) sc_composed.nd rfl (by first | exact .inl rfl | exact .inr rfl)) (pgs_cons (pg_name (i := 5) sc_composed.nd rfl (by first | exact .inl rfl | exact .inr rfl)) pgs_nil))))
        (pss_cut (ps_for PassesOwn.never rfl (pi_tup (pe_ix ix_tup (pv 0) pe_int (fun _ _ => rfl))) (pg_or (pg_unl rfl (pgs_cons (pg_name (i := 6) sc_composed.nd rfl (by first | exact .inl rfl | exact .inr rfl)) (pgs_cons (pg_name (i := 7) sc_composed.nd rfl (by first | exact .inl rfl | exact .inr rfl)) pgs_nil))) (pg_tup rfl (pgs_cons (pg_name (i := 6) sc_composed.nd rfl (by first | exact .inl rfl | exact .inr rfl)) (pgs_cons (pg_name (i := 7) sc_composed.nd rfl (by first | exact .inl rfl | exact .inr rfl)) pgs_nil))))
        (pss_cons (ps_set (i := 8) sc_composed.nd rfl (by first | exact .inl rfl | exact .inr rfl) (pe_op op_add (pv 4) (pe_callB (call_max2 rfl) (by rfl) m_max (by decide +kernel) (pa_cons pe_int (pa_cons (pe_op op_sub (pv 6) (pv 3)) pa_nil)))))
      (pss_cut (ps_set (i := 9) sc_composed.nd rfl (by first | exact .inl rfl | exact .inr rfl) (pe_ifExp (pt_cmpR op_isN (pv 7) pe_non (nomark _)) pe_non (pe_op op_add (pv 4) (pe_callB (call_max2 rfl) (by rfl) m_max (by decide +kernel) (pa_cons pe_int (pa_cons (pe_op op_sub (pv 7) (pv 3)) pa_nil))))))
      (pss_cut (ps_if (PW.pt (pw_and (pt_cmpR op_notN (pv 5) pe_non (nomark _)) (pw_and1 (PW.pt (pw_or (pt_cmpR op_isN (pv 9) pe_non (nomark _)) (pw_or1 (pt_cmpR op_gt (pv 9) (pv 5) (nomark _)))))))) (pss_one (ps_set (i := 9) sc_composed.nd rfl (by first | exact .inl rfl | exact .inr rfl) (pv 5))) pss_nil)
      (pss_one (ps_if (PW.pt (pw_or (pt_cmpR op_isN (pv 9) pe_non (nomark _)) (pw_or1 (pt_cmpR op_lt (pv 8) (pv 9) (nomark _))))) (pss_one (ps_expr (pe_bm PySem.F.plainAttrs_list PySem.F.slot_list_append PySem.F.type_list_append mt_append (pv 2) (pa_cons (pe_tup (pa_cons (pv 8) (pa_cons (pv 9) pa_nil))) pa_nil)))) pss_nil))))))
      (pss_one (ps_if (pt_cmpR op_notN (pv 5) pe_non (nomark _)) (pss_one (ps_set (i := 3) sc_composed.nd rfl (by first | exact .inl rfl | exact .inr rfl) (pe_op op_sub (pe_op op_add (pv 3) (pv 5)) (pv 4)))) pss_nil))))
      (pss_one (ps_ret (pe_tup (pa_cons (pe_cl c_value_at hr (by decide) (by rfl) (pa_cons (pe_ix ix_tup (pv 0) pe_int (fun _ _ => rfl)) (pa_cons (pe_ix ix_tup (pv 0) pe_int (fun _ _ => rfl)) (pa_cons (pe_ix ix_tup (pv 1) pe_int (fun _ _ => rfl)) pa_nil)))) (pa_cons (pe_cl c_joined hr (by decide) (by rfl) (pa_cons (pv 2) pa_nil)) pa_nil)))))))), ?_⟩
    walk_at "go"
    intro p np
    have s1 := same_new (o := .lst []) np
    have ha1 := Z.Same.sqT s1 ha
    have hb1 := Z.Same.sqT s1 hb
    have hq1 : RisH (upd H p (.lst [])) p [] [] := ⟨upd_same, rfl, fun i q z h => nomatch h⟩
    generalize upd H p (.lst []) = H1 at s1 ha1 hb1 hq1 ⊢
    walk_at "go"
    refine ⟨fun σ' H' => Same H H' ∧ ∃ (qs : List Addr) (v3 v4 v5 v6 v7 v8 v9 : Option V), RisH H' p qs (cpO rs s' rs') ∧ σ' = [some (.ref a), some (.ref b), some (.ref p), v3, v4, v5, v6, v7, v8, v9], ?_, ?_⟩
    rotate_left
    · rintro σ' H2 ⟨s2, qs, v3, v4, v5, v6, v7, v8, v9, hq, rfl⟩
      have ha2 := Z.Same.sqT s2 ha
      have hb2 := Z.Same.sqT s2 hb
      walk_at "go"
      refine ⟨false, false, s0, s', r, ps, rs, rfl, hR.mono s2, g, ?_⟩
      walk_at "go"
      have hl : (cpO rs s' rs').length ≤ 100000 := Nat.le_trans (cpO_len2 g g') (by omega)
      refine ⟨true, false, p, qs, _, rfl, hq.ris, hl, fun t2 qs2 H3 s3 e3 hR3 => ?_⟩
      walk_at "go"
      intro t nt
      have s4 := same_new (o := .tup [.int (s0 + Fs rs s'), .ref t2]) nt
      exact q t t2 qs2 _ (s2.trans (s3.trans s4)) upd_same (hR3.mono s4)
    walk_at "go"
    refine ⟨⟨_, (hR'.mono s1).1⟩, ?_⟩
    refine for_prT hR' (fun i σ H2 => Same H H2 ∧ ∃ (qs : List Addr) (rs1 : Rs) (v : Int) (v4 v5 v6 v7 v8 v9 : Option V), RisH H2 p qs rs1 ∧ rs1 ++ cpO rs v (rs'.drop i) = cpO rs s' rs' ∧ σ = [some (.ref a), some (.ref b), some (.ref p), some (.int v), v4, v5, v6, v7, v8, v9]) ⟨s1, [], [], s', none, none, none, none, none, none, hq1, rfl, rfl⟩ (fun i σ H2 h => h.1) ?_ ?_
    rotate_left
    · rintro σ H2 ⟨s2, qs, rs1, v, v4, v5, v6, v7, v8, v9, hq, e, rfl⟩
      rw [List.drop_length] at e
      have e : rs1 ++ [] = _ := e
      rw [List.append_nil] at e
      rw [e] at hq
      exact ⟨s2, qs, _, _, _, _, _, _, _, hq, rfl⟩
    rintro i low high σ H2 hi ⟨s2, qs, rs1, v, v4, v5, v6, v7, v8, v9, hq, e, rfl⟩
    obtain ⟨hlt, ei⟩ := List.getElem?_eq_some_iff.mp hi
    rw [List.drop_eq_getElem_cons hlt, ei] at e
    have e2 : ∃ tl, (rs1 ++ cpI rs v low high) ++ tl = cpO rs s' rs' := by
      cases high with
      | none => exact ⟨cpO rs v (rs'.drop (i + 1)), by rw [List.append_assoc]; exact e⟩
      | some h => exact ⟨cpO rs (v + h - low) (rs'.drop (i + 1)), by rw [List.append_assoc]; exact e⟩
    have hlen2 : rs1.length + (cpI rs v low high).length ≤ 50000 := by
      obtain ⟨tl, e2⟩ := e2
      have h1 := congrArg List.length e2
      rw [List.length_append, List.length_append] at h1
      have h2 := cpO_len2 (v := s') g g'
      omega
    have ha2 := Z.Same.sqT s2 ha
    refine ⟨fun σ' H' => Same H H' ∧ ∃ (qs : List Addr) (v6 v7 v8 v9 : Option V), RisH H' p qs (rs1 ++ cpI rs v low high) ∧ σ' = [some (.ref a), some (.ref b), some (.ref p), some (.int v), some (.int low), some (oV high), v6, v7, v8, v9], ?_, ?_⟩
    rotate_left
    · rintro σ' H3 ⟨s3, qs3, v6, v7, v8, v9, hq3, rfl⟩
      cases high with
      | none =>
        walk_at "go"
        exact ⟨qs3, _, v, _, _, _, _, _, _, hq3, by rw [List.append_assoc]; exact e, rfl⟩
      | some h =>
        walk_at "go"
        exact ⟨qs3, _, _, _, _, _, _, _, _, hq3, by rw [List.append_assoc]; exact e, rfl⟩
    walk_at "go"
    refine ⟨⟨_, (hR.mono s2).1⟩, ?_⟩
    refine for_prT hR (fun j σ H3 => Same H H3 ∧ ∃ (qs : List Addr) (v6 v7 v8 v9 : Option V), RisH H3 p qs (rs1 ++ cpI (rs.take j) v low high) ∧ σ = [some (.ref a), some (.ref b), some (.ref p), some (.int v), some (.int low), some (oV high), v6, v7, v8, v9]) ⟨s2, qs, _, _, _, _, by rw [List.take_zero]; show RisH H2 p qs (rs1 ++ []); rw [List.append_nil]; exact hq, rfl⟩ (fun i σ H2 h => h.1) ?_ ?_
    rotate_left
    · rintro σ H3 ⟨s3, qs3, v6, v7, v8, v9, hq3, rfl⟩
      rw [List.take_length] at hq3
      exact ⟨s3, qs3, _, _, _, _, hq3, rfl⟩
    rintro j bg en σ H3 hj ⟨s3, qs3, v6, v7, v8, v9, hq3, rfl⟩
    have et : cpI (rs.take (j + 1)) v low high = cpI (rs.take j) v low high ++ clean [cq v low high (bg, en)] := by
      unfold cpI
      rw [List.take_add_one, hj, List.map_append, clean_app]
      rfl
    have hlen3 : (rs1 ++ cpI (rs.take j) v low high).length + (clean [cq v low high (bg, en)]).length ≤ 50000 := by
      have h1 : (cpI (rs.take (j + 1)) v low high).length ≤ (cpI rs v low high).length := by
        unfold cpI
        refine List.Sublist.length_le (List.Sublist.filter _ (List.Sublist.map _ (List.take_sublist _ _)))
      rw [et, List.length_append] at h1
      rw [List.length_append]
      omega
    walk_at "go"
    rw [mx0]
    refine ⟨fun σ' H' => H' = H3 ∧ σ' = [some (.ref a), some (.ref b), some (.ref p), some (.int v), some (.int low), some (oV high), some (.int bg), some (oV en), some (.int (low + max 0 (bg - v))), some (oV (en.map fun e => low + max 0 (e - v)))], ?_, ?_⟩
    · cases en with
      | none =>
        walk_at "go"
        rfl
      | some y =>
        walk_at "go"
        rw [mx0]
        rfl
    rintro σ' H4 ⟨e4, rfl⟩
    rw [e4]
    clear e4 H4
    refine ⟨fun σ' H' => H' = H3 ∧ σ' = [some (.ref a), some (.ref b), some (.ref p), some (.int v), some (.int low), some (oV high), some (.int bg), some (oV en), some (.int (low + max 0 (bg - v))), some (oV (cq v low high (bg, en)).2)], ?_, ?_⟩
    · cases high with
      | none =>
        cases en with
        | none =>
          walk_at "go"
          rfl
        | some y =>
          walk_at "go"
          rfl
      | some h =>
        cases en with
        | none =>
          walk_at "go"
          rfl
        | some y =>
          have ec : (cq v low (some h) (bg, some y)).2 = if low + max 0 (y - v) > h then some h else some (low + max 0 (y - v)) := rfl
          rw [ec]
          walk_at "go"
          refine ite2 (fun e => ?_) (fun e => ?_)
          · have c : low + max 0 (y - v) > h := of_decide_eq_true e
            rw [if_pos c]
            walk_at "go"
            rfl
          · have c : ¬ low + max 0 (y - v) > h := fun z => e (decide_eq_true z)
            rw [if_neg c]
            walk_at "go"
            rfl
    rintro σ' H4 ⟨e4, rfl⟩
    rw [e4]
    clear e4 H4
    have ecq : cq v low high (bg, en) = (low + max 0 (bg - v), (cq v low high (bg, en)).2) := rfl
    generalize (cq v low high (bg, en)).2 = R at ecq ⊢
    rw [ecq] at et hlen3
    have app : emp (low + max 0 (bg - v), R) = false → ∀ T, H3 T = none → RisH (upd H3 T (.tup [.int (low + max 0 (bg - v)), oV R])) p qs3 (rs1 ++ cpI (rs.take j) v low high) ∧ RisH (upd (upd H3 T (.tup [.int (low + max 0 (bg - v)), oV R])) p (.lst (qs3.map V.ref ++ [.ref T]))) p (qs3 ++ [T]) (rs1 ++ cpI (rs.take (j + 1)) v low high) ∧ Same H (upd (upd H3 T (.tup [.int (low + max 0 (bg - v)), oV R])) p (.lst (qs3.map V.ref ++ [.ref T]))) := by
      intro he T nT
      have s4 := same_new (o := .tup [.int (low + max 0 (bg - v)), oV R]) nT
      have hq4 := hq3.more s4
      refine ⟨hq4, ?_, Z.Same.mut (s3.trans s4) np⟩
      rw [et, clean_cons, if_neg (by rw [he]; simp), ← List.append_assoc]
      exact hq4.snoc upd_same
    have hl3 : (qs3.map V.ref).length < sizeLine := by
      rw [List.length_map, hq3.2.1]
      exact Nat.lt_of_le_of_lt (show _ ≤ 50000 by omega) (by decide)
    cases R with
    | none =>
      walk_at "go"
      refine ⟨.inl ⟨rfl, _, .inl (.inl hq3.1)⟩, ?_⟩
      walk_at "go"
      intro T nT
      obtain ⟨h1, h2, h3⟩ := app rfl T nT
      refine ⟨_, _, _, rfl, rfl, h1.1, hl3, ?_⟩
      exact ⟨h3, _, _, _, _, _, h2, rfl⟩
    | some y =>
      walk_at "go"
      refine ite2 (fun e => ?_) (fun e => ?_)
      · have c : low + max 0 (bg - v) < y := of_decide_eq_true e
        walk_at "go"
        refine ⟨.inl ⟨rfl, _, .inl (.inl hq3.1)⟩, ?_⟩
        walk_at "go"
        intro T nT
        obtain ⟨h1, h2, h3⟩ := app (decide_eq_false (by dsimp only; omega)) T nT
        refine ⟨_, _, _, rfl, rfl, h1.1, hl3, ?_⟩
        exact ⟨h3, _, _, _, _, _, h2, rfl⟩
      · have c : ¬ low + max 0 (bg - v) < y := fun z => e (decide_eq_true z)
        rw [clean_cons, if_pos (show emp (low + max 0 (bg - v), some y) = true from decide_eq_true (by omega))] at et
        refine ⟨s3, qs3, _, _, _, _, ?_, rfl⟩
        rw [et]
        show RisH H3 p qs3 (rs1 ++ (cpI (rs.take j) v low high ++ []))
        rw [List.append_nil]
        exact hq3
end
end Z
set_option pp.maxSteps 700
set_option Elab.async false
set_option linter.all false
set_option maxRecDepth 100000
set_option maxHeartbeats 4000000
namespace Z
open Nd
open PySem PySem.Spec PyProof.Rows L2
open C8 (pss_cut tCut)
local macro_rules | `(tactic| walk_at "num") => `(tactic| first | rfl | omega | decide | exact Nat.le_of_lt (small1000 (by simp)) | exact ⟨by omega, by omega⟩ | exact ⟨by omega, by omega, by omega⟩ | exact ⟨by decide, by decide, by decide⟩ | exact Or.inl ⟨by omega, by omega⟩ | exact Or.inr ⟨by omega, by omega⟩)
local macro_rules | `(tactic| walk_at "go") => `(tactic| repeat (first | refine ⟨_, rfl, ?_⟩ | refine ⟨_, _, rfl, rfl, ?_⟩ | refine ⟨_, _, rfl, ?_⟩ | refine ⟨_, _, rfl, rfl, (by walk_at "num"), ?_⟩ | refine Or.inl ⟨_, rfl, ?_⟩ | refine ⟨_, _, _, _, rfl, rfl, (by assumption), (by rfl), ?_⟩ | refine ⟨_, _, _, _, _, rfl, (by assumption), (by assumption), (by assumption), (by rfl), ?_⟩ | refine ⟨rfl, ?_⟩ | refine And.intro (by walk_at "num") ?_))
abbrev s_rising_part : Stmt := topS 11
abbrev N_rising_part : List Str := ["first", "second", "width", "smaller", "rising", "level", "gap"]
abbrev P_rising_part : List Str := ["first", "second", "width", "smaller"]
theorem sc_rising_part : FnScope N_rising_part P_rising_part (defScope s_rising_part) := ⟨rfl, rfl, rfl, by decide +kernel, rfl, by decide +kernel, by decide +kernel⟩
section
variable {P : Program} {w : World} {K : PySem.W.Frag} {mg : Str → Option Value} {base : Heap} {f C : Addr} {fd : FuncData}
def spRPart (K : PySem.W.Frag) : Sp := fun vs H Q _ => ∃ (a b : Addr) (x u y v : Int) (wd : Option Int) (sm : Bool), vs = [.ref a, .ref b, oV wd, .bl sm] ∧ SqT K H a [.int x, .int u] ∧ SqT K H b [.int y, .int v] ∧ ∀ t H', Same H H' → H' t = some (.tup [.int (rpt x u y v wd sm).1, oV (rpt x u y v wd sm).2]) → Q (.ref t) H'
theorem ok_rising_part (F : FnP K "rising_part" s_rising_part f fd) (m_max : mg "max" = none) : FnOk P w K mg base CX0 1 f fd P_rising_part (spRPart K) := by
  refine F.ok sc_rising_part (fun vs H Q E h => ?_) (fun cdv A outer s H vs Q E hr h => ?_)
  · obtain ⟨a, b, x, u, y, v, wd, sm, rfl, _⟩ := h
    rfl
  · obtain ⟨a, b, x, u, y, v, wd, sm, rfl, ha, hb, q⟩ := h
    refine ⟨_, PSs.nox (pss_cons (ps_if (pt_cmpR op_eq (pe_ix ix_tup (pv 0) pe_int (fun _ _ => rfl)) (pe_ix ix_tup (pv 1) pe_int (fun _ _ => rfl)) (nomark _)) (pss_one (ps_ret (pe_ifExp (pt_cmpR op_eq (pe_ix ix_tup (pv 0) pe_int (fun _ _ => rfl)) pe_int (nomark _)) (pe_tup (pa_cons pe_int (pa_cons (pv 2) pa_nil))) (pe_tup (pa_cons pe_int (pa_cons pe_int pa_nil)))))) pss_nil)
      (pss_cut (ps_asg (pe_ifExp (pt_cmpR op_eq (pe_ix ix_tup (pv 0) pe_int (fun _ _ => rfl)) pe_int (nomark _)) (pe_tup (pa_cons (pv 0) (pa_cons (pv 1) pa_nil))) (pe_tup (pa_cons (pv 1) (pa_cons (pv 0) pa_nil)))) (pg_tup rfl (pgs_cons (pg_name (i := 4) sc_rising_part.nd rfl (by first | exact .inl rfl | exact .inr rfl)) (pgs_cons (pg_name (i := 5) sc_rising_part.nd rfl (by first | exact .inl rfl | exact .inr rfl)) pgs_nil))))
      (pss_cons (ps_set (i := 6) sc_rising_part.nd rfl (by first | exact .inl rfl | exact .inr rfl) (pe_callB (call_max2 rfl) (by rfl) m_max (by decide +kernel) (pa_cons pe_int (pa_cons (pe_op op_sub (pe_ix ix_tup (pv 5) pe_int (fun _ _ => rfl)) (pe_ix ix_tup (pv 4) pe_int (fun _ _ => rfl))) pa_nil))))
      (pss_cons (ps_if (pt_val (pv 3)) (pss_one (ps_ret (pe_tup (pa_cons pe_int (pa_cons (pe_ifExp (PW.pt (pw_or (pt_cmpR op_isN (pv 2) pe_non (nomark _)) (pw_or1 (pt_cmpR op_lt (pv 6) (pv 2) (nomark _))))) (pv 6) (pv 2)) pa_nil))))) pss_nil)
      (pss_one (ps_ret (pe_tup (pa_cons (pv 6) (pa_cons (pv 2) pa_nil))))))))), ?_⟩
    walk_at "go"
    refine ite2 (fun e => ?_) (fun e => ?_)
    · have e1 : u = v := V.int.inj (of_decide_eq_true e)
      walk_at "go"
      refine ite2 (fun e2 => ?_) (fun e2 => ?_)
      · have e3 : u = 1 := V.int.inj (of_decide_eq_true e2)
        walk_at "go"
        intro t nt
        refine q t _ (same_new nt) ?_
        rw [upd_same]
        unfold rpt
        rw [if_pos e1, if_pos e3]
      · have e3 : ¬ u = 1 := fun z => e2 (decide_eq_true (by rw [z]))
        walk_at "go"
        intro t nt
        refine q t _ (same_new nt) ?_
        rw [upd_same]
        unfold rpt
        rw [if_pos e1, if_neg e3]
        rfl
    · have e1 : ¬ u = v := fun z => e (decide_eq_true (by rw [z]))
      refine ⟨fun σ' H' => Same H H' ∧ ∃ (r l : Addr) (xr xl ur ul : Int), SqT K H' r [.int xr, .int ur] ∧ SqT K H' l [.int xl, .int ul] ∧ max 0 (xl - xr) = gp x u y ∧ σ' = [some (.ref a), some (.ref b), some (oV wd), some (.bl sm), some (.ref r), some (.ref l), none], ?_, ?_⟩
      · walk_at "go"
        refine ite2 (fun e2 => ?_) (fun e2 => ?_)
        · have e3 : u = 1 := V.int.inj (of_decide_eq_true e2)
          walk_at "go"
          intro t nt
          refine ⟨t, _, rfl, .inl (.inl upd_same), rfl, _, _, rfl, _, _, rfl, rfl, ?_⟩
          have s2 := same_new (o := .tup [.ref a, .ref b]) nt
          exact ⟨s2, a, b, _, _, _, _, Z.Same.sqT s2 ha, Z.Same.sqT s2 hb, (by unfold gp; rw [if_pos e3]), rfl⟩
        · have e3 : ¬ u = 1 := fun z => e2 (decide_eq_true (by rw [z]))
          walk_at "go"
          intro t nt
          refine ⟨t, _, rfl, .inl (.inl upd_same), rfl, _, _, rfl, _, _, rfl, rfl, ?_⟩
          have s2 := same_new (o := .tup [.ref b, .ref a]) nt
          exact ⟨s2, b, a, _, _, _, _, Z.Same.sqT s2 hb, Z.Same.sqT s2 ha, (by unfold gp; rw [if_neg e3]), rfl⟩
      rintro σ' H2 ⟨s2, r, l, xr, xl, ur, ul, hr2, hl2, eg, rfl⟩
      walk_at "go"
      rw [mx0, eg]
      cases sm with
      | true =>
        walk_at "go"
        cases wd with
        | none =>
          walk_at "go"
          intro t nt
          refine q t _ (s2.trans (same_new nt)) ?_
          rw [upd_same]
          unfold rpt
          rw [if_neg e1]
          rfl
        | some z =>
          walk_at "go"
          refine ite2 (fun e4 => ?_) (fun e4 => ?_)
          · have c : gp x u y < z := of_decide_eq_true e4
            walk_at "go"
            intro t nt
            refine q t _ (s2.trans (same_new nt)) ?_
            rw [upd_same]
            unfold rpt
            rw [if_neg e1, if_pos rfl]
            dsimp only
            rw [if_pos c]
            rfl
          · have c : ¬ gp x u y < z := fun h => e4 (decide_eq_true h)
            walk_at "go"
            intro t nt
            refine q t _ (s2.trans (same_new nt)) ?_
            rw [upd_same]
            unfold rpt
            rw [if_neg e1, if_pos rfl]
            dsimp only
            rw [if_neg c]
      | false =>
        walk_at "go"
        intro t nt
        refine q t _ (s2.trans (same_new nt)) ?_
        rw [upd_same]
        unfold rpt
        rw [if_neg e1]
        rfl
end
end Z
set_option pp.maxSteps 700
set_option Elab.async false
set_option linter.all false
set_option maxRecDepth 100000
set_option maxHeartbeats 4000000
namespace Z
open Nd
open PySem PySem.Spec PyProof.Rows L2
open C8 (pss_cut tCut)
local macro_rules | `(tactic| walk_at "num") => `(tactic| first | rfl | omega | decide | exact Nat.le_of_lt (small1000 (by simp)) | exact ⟨by omega, by omega⟩ | exact ⟨by omega, by omega, by omega⟩ | exact ⟨by decide, by decide, by decide⟩ | exact Or.inl ⟨by omega, by omega⟩ | exact Or.inr ⟨by omega, by omega⟩)
local macro_rules | `(tactic| walk_at "go") => `(tactic| repeat (first | refine ⟨_, rfl, ?_⟩ | refine ⟨_, _, rfl, rfl, ?_⟩ | refine ⟨_, _, rfl, ?_⟩ | refine ⟨_, _, rfl, rfl, (by walk_at "num"), ?_⟩ | refine Or.inl ⟨_, rfl, ?_⟩ | refine ⟨_, _, _, _, rfl, rfl, (by assumption), (by rfl), ?_⟩ | refine ⟨_, _, _, _, _, rfl, (by assumption), (by assumption), (by assumption), (by rfl), ?_⟩ | refine ⟨rfl, ?_⟩ | refine And.intro (by walk_at "num") ?_))
abbrev s_combined : Stmt := topS 12
abbrev N_combined : List Str := ["first", "second", "smaller", "marks", "ones", "others", "parts", "at", "mark", "width", "low", "high", "start"]
abbrev P_combined : List Str := ["first", "second", "smaller"]
theorem sc_combined : FnScope N_combined P_combined (defScope s_combined) := ⟨rfl, rfl, rfl, by decide +kernel, rfl, by decide +kernel, by decide +kernel⟩
section
variable {P : Program} {w : World} {K : PySem.W.Frag} {mg : Str → Option Value} {base : Heap} {f C : Addr} {fd : FuncData}
theorem Marks.cm {rs rs' : Rs} {ms : List Int} (h : Marks rs rs' ms) : Cm rs rs' ms := cm_of (fun i m hi hl => ⟨h.one.last hi hl, h.two.last hi hl⟩) (fun i m M hi hj => ⟨asc_at h.asc hi hj (Nat.lt_succ_self _), h.one.calm hi hj, h.two.calm hi hj⟩)
theorem cbP_drop {F : Int → Option Int → Int × Option Int} {ms : List Int} {i : Nat} {m : Int} (hi : ms[i]? = some m) : cbP F (ms.drop i) = F m (match ms[i + 1]? with
  | some M => some (M - m)
  | none => none) :: cbP F (ms.drop (i + 1)) := by
  obtain ⟨h1, rfl⟩ := List.getElem?_eq_some_iff.mp hi
  rw [List.drop_eq_getElem_cons h1]
  by_cases c : i + 1 < ms.length
  · rw [List.drop_eq_getElem_cons c, List.getElem?_eq_getElem c]
    rfl
  · rw [List.drop_of_length_le (by omega), List.getElem?_eq_none (by omega)]
    rfl
def spCombined2 (K : PySem.W.Frag) : Sp := fun vs H Q _ => ∃ (a b : Addr) (s s' : Int) (rs rs' : Rs) (sm : Bool), vs = [.ref a, .ref b, .bl sm] ∧ PrT K H a s rs ∧ PrT K H b s' rs' ∧ Good (-1) rs ∧ Good (-1) rs' ∧ rs.length ≤ 20000 ∧ rs'.length ≤ 20000 ∧ ∀ t r qs J H', Same H H' → H' t = some (.tup [.int (mm sm s s'), .ref r]) → Ris false false K H' r qs J → Good (-1) J → (∀ k, 0 ≤ k → mm sm s s' + Fs J k = mm sm (s + Fs rs k) (s' + Fs rs' k)) → J.length ≤ 2 * (rs.length + rs'.length) + 1 → Q (.ref t) H'
theorem ok_combined (F : FnP K "combined" s_combined f fd) (m_len : mg "len" = none) (m_enumerate : mg "enumerate" = none) (c_marks_of : Cal P w K mg base 1 "marks_of" (spMarks K)) (c_track : Cal P w K mg base 1 "track" (spTrack K)) (c_rising_part : Cal P w K mg base 1 "rising_part" (spRPart K)) (c_joined : Cal P w K mg base 1 "joined" (spJoined K)) : FnOk P w K mg base CX0 2 f fd P_combined (spCombined2 K) := by
  refine F.ok sc_combined (fun vs H Q E h => ?_) (fun cdv A outer s H vs Q E hr h => ?_)
  · obtain ⟨a, b, s, s', rs, rs', sm, rfl, _⟩ := h
    rfl
  · obtain ⟨a, b, s, s', rs, rs', sm, rfl, ⟨r, ps, ha, hR⟩, ⟨r', ps', hb, hR'⟩, g, g', l1, l2, q⟩ := h
    refine ⟨_, PSs.nox (pss_cons (ps_set (i := 3) sc_combined.nd rfl (by first | exact .inl rfl | exact .inr rfl) (pe_cl c_marks_of hr (by decide) (by rfl) (pa_cons (pe_ix ix_tup (pv 0) pe_int (fun _ _ => rfl)) (pa_cons (pe_ix ix_tup (pv 1) pe_int (fun _ _ => rfl)) pa_nil))))
      (pss_cons (ps_par (i := 4) (j := 5) (by rfl) sc_combined.nd rfl rfl (by decide) rfl rfl (pa_cons (pe_cl c_track hr (by decide) (by rfl) (pa_cons (pe_ix ix_tup (pv 0) pe_int (fun _ _ => rfl)) (pa_cons (pe_ix ix_tup (pv 0) pe_int (fun _ _ => rfl)) (pa_cons (pv 3) pa_nil)))) (pa_cons (pe_cl c_track hr (by decide) (by rfl) (pa_cons (pe_ix ix_tup (pv 1) pe_int (fun _ _ => rfl)) (pa_cons (pe_ix ix_tup (pv 1) pe_int (fun _ _ => rfl)) (pa_cons (pv 3) pa_nil)))) pa_nil)) (by rfl))
      (pss_cons (ps_set (i := 6) sc_combined.nd rfl (by first | exact .inl rfl | exact .inr rfl) (pe_lst pa_nil))
      (pss_cut (ps_for PassesOwn.never rfl (pi_enum (by rfl) m_enumerate (pa_cons (pv 3) pa_nil)) (pg_tup rfl (pgs_cons (pg_name (i := 7) sc_combined.nd rfl (by first | exact .inl rfl | exact .inr rfl)) (pgs_cons (pg_name (i := 8) sc_combined.nd rfl (by first | exact .inl rfl | exact .inr rfl)) pgs_nil)))
        (pss_cut (ps_set (i := 9) sc_combined.nd rfl (by first | exact .inl rfl | exact .inr rfl) (pe_ifExp (pt_cmpR op_lt (pe_op op_add (pv 7) pe_int) (pe_callB call_len_seq (by rfl) m_len PySem.boot_len (pa_cons (pv 3) pa_nil)) (nomark _)) (pe_op op_sub (pe_ix ix_list (pv 3) (pe_op op_add (pv 7) pe_int) (fun _ _ => rfl)) (pv 8)) pe_non))
      (pss_cons (ps_asg (pe_cl c_rising_part hr (by decide) (by rfl) (pa_cons (pe_ix ix_list (pv 4) (pv 7) (fun _ _ => rfl)) (pa_cons (pe_ix ix_list (pv 5) (pv 7) (fun _ _ => rfl)) (pa_cons (pv 9) (pa_cons (pv 2) pa_nil))))) (pg_tup rfl (pgs_cons (pg_name (i := 10) sc_combined.nd rfl (by first | exact .inl rfl | exact .inr rfl)) (pgs_cons (pg_name (i := 11) sc_combined.nd rfl (by first | exact .inl rfl | exact .inr rfl)) pgs_nil))))
      (pss_one (ps_expr (pe_bm PySem.F.plainAttrs_list PySem.F.slot_list_append PySem.F.type_list_append mt_append (pv 6) (pa_cons (pe_tup (pa_cons (pe_op op_add (pv 8) (pv 10)) (pa_cons (pe_ifExp (pt_cmpR op_isN (pv 11) pe_non (nomark _)) pe_non (pe_op op_add (pv 8) (pv 11))) pa_nil))) pa_nil)))))))
      (pss_cons (ps_set (i := 12) sc_combined.nd rfl (by first | exact .inl rfl | exact .inr rfl) (pe_ix ix_tup (pv 1) pe_int (fun _ _ => rfl)))
      (pss_cut (ps_if (pt_cmpR op_eq (pe_cmpR op_lt (pe_ix ix_tup (pv 0) pe_int (fun _ _ => rfl)) (pe_ix ix_tup (pv 1) pe_int (fun _ _ => rfl)) (nomark _)) (pv 2) (nomark _)) (pss_one (ps_set (i := 12) sc_combined.nd rfl (by first | exact .inl rfl | exact .inr rfl) (pe_ix ix_tup (pv 0) pe_int (fun _ _ => rfl)))) pss_nil)
      (pss_one (ps_ret (pe_tup (pa_cons (pv 12) (pa_cons (pe_cl c_joined hr (by decide) (by rfl) (pa_cons (pv 6) pa_nil)) pa_nil))))))))))), ?_⟩
    walk_at "go"
    refine ⟨false, false, r, r', ps, ps', rs, rs', rfl, hR, hR', g, g', l1, l2, fun M H1 ms s1 eM mk => ?_⟩
    have hm := mk.len
    have ha1 := Z.Same.sqT s1 ha
    have hb1 := Z.Same.sqT s1 hb
    have hR1 := hR.mono s1
    have hR1' := hR'.mono s1
    walk_at "go"
    refine ⟨false, s, r, M, ps, rs, ms, rfl, hR1.1, hR1, eM, g, mk.one, by omega, fun p1 H2 s2 t1 => ?_⟩
    have hb2 := Z.Same.sqT s2 hb1
    have hR2' := hR1'.mono s2
    walk_at "go"
    refine ⟨false, s', r', M, ps', rs', ms, rfl, hR2'.1, hR2', s2 _ _ eM, g', mk.two, by omega, fun p2 H3 s3 t2 => ?_⟩
    have t1 := t1.mono s3
    have eM3 := s3 _ _ (s2 _ _ eM)
    have s03 := s1.trans (s2.trans s3)
    walk_at "go"
    intro p np
    have s4 := same_new (o := .lst []) np
    have hq4 : RisH (upd H3 p (.lst [])) p [] [] := ⟨upd_same, rfl, fun i q z h => nomatch h⟩
    generalize upd H3 p (.lst []) = H4 at s4 hq4 ⊢
    refine ⟨fun σ' H' => Same H3 H' ∧ ∃ (qs : List Addr) (v7 v8 v9 v10 v11 : Option V), RisH H' p qs (cbP (cbF s rs s' rs' sm) ms) ∧ σ' = [some (.ref a), some (.ref b), some (.bl sm), some (.ref M), some (.ref p1), some (.ref p2), some (.ref p), v7, v8, v9, v10, v11, none], ?_, ?_⟩
    rotate_left
    · rintro σ' H5 ⟨s5, qs, v7, v8, v9, v10, v11, hq, rfl⟩
      have s05 := s03.trans s5
      have ha5 := Z.Same.sqT s05 ha
      have hb5 := Z.Same.sqT s05 hb
      walk_at "go"
      refine ⟨fun σ' H' => H' = H5 ∧ σ' = [some (.ref a), some (.ref b), some (.bl sm), some (.ref M), some (.ref p1), some (.ref p2), some (.ref p), v7, v8, v9, v10, v11, some (.int (mm sm s s'))], ?_, ?_⟩
      · walk_at "go"
        refine ite2 (fun e => ?_) (fun e => ?_)
        · have e1 : decide (s < s') = sm := V.bl.inj (of_decide_eq_true e)
          have e2 : mm sm s s' = s := by
            unfold mm
            cases sm with
            | true =>
              have := of_decide_eq_true e1
              rw [if_pos rfl]
              omega
            | false =>
              have := of_decide_eq_false e1
              rw [if_neg (by simp)]
              omega
          rw [e2]
          walk_at "go"
          rfl
        · have e1 : ¬ decide (s < s') = sm := fun z => e (decide_eq_true (show V.bl (decide (s < s')) = V.bl sm by rw [z]))
          have e2 : mm sm s s' = s' := by
            unfold mm
            cases sm with
            | true =>
              rw [decide_eq_true_eq] at e1
              rw [if_pos rfl]
              omega
            | false =>
              have : s < s' := Decidable.byContradiction fun z => e1 (decide_eq_false z)
              rw [if_neg (by simp)]
              omega
          rw [e2]
          exact ⟨rfl, rfl⟩
      rintro σ' H6 ⟨e6, rfl⟩
      rw [e6]
      clear e6 H6
      walk_at "go"
      have hl : (cbP (cbF s rs s' rs' sm) ms).length ≤ 100000 := by
        rw [cbP_len]
        omega
      refine ⟨true, false, p, qs, _, rfl, hq.ris, hl, fun r2 qs2 H6 s6 e6 hR6 => ?_⟩
      walk_at "go"
      intro t nt
      have s7 := same_new (o := .tup [.int (mm sm s s'), .ref r2]) nt
      have cm := mk.cm
      obtain ⟨tl, rfl⟩ : ∃ tl, ms = 0 :: tl := by
        have := mk.zero
        cases ms with
        | nil => cases this
        | cons x tl =>
          obtain rfl : x = 0 := Option.some.inj this
          exact ⟨tl, rfl⟩
      obtain ⟨c1, c2, c3⟩ := comb_ok (s := s) (s' := s') (sm := sm) g g' cm
      exact q t r2 qs2 _ _ (s05.trans (s6.trans s7)) upd_same (hR6.mono s7) c1 c2 (Nat.le_trans c3 hm)
    walk_at "go"
    have eM4 := s4 _ _ eM3
    refine ⟨M, _, rfl, SqL.of eM4, ?_⟩
    obtain ⟨ts1, f1, f2, f3⟩ := t1
    obtain ⟨ts2, k1, k2, k3⟩ := t2
    refine for_gen (n := ms.length) (fun i σ H5 => Same H3 H5 ∧ ∃ (qs : List Addr) (rs1 : Rs) (v7 v8 v9 v10 v11 : Option V), RisH H5 p qs rs1 ∧ rs1 ++ cbP (cbF s rs s' rs' sm) (ms.drop i) = cbP (cbF s rs s' rs' sm) ms ∧ σ = [some (.ref a), some (.ref b), some (.bl sm), some (.ref M), some (.ref p1), some (.ref p2), some (.ref p), v7, v8, v9, v10, v11, none]) ⟨s4, [], [], none, none, none, none, none, hq4, rfl, rfl⟩ ?_ ?_ ?_ ?_
    · rintro i σ H5 hi ⟨s5, _⟩
      exact ⟨_, .int ms[i], SqL.of (s5 _ _ eM3), by rw [List.getElem?_map, List.getElem?_eq_getElem hi]; rfl⟩
    · rintro σ H5 ⟨s5, _⟩
      exact ⟨_, SqL.of (s5 _ _ eM3), by rw [List.length_map]; exact Nat.le_refl _⟩
    · rintro i σ H5 x H6 hi ⟨s5, qs, rs1, v7, v8, v9, v10, v11, hq, e, rfl⟩ ⟨T, x, rfl, nT, rfl, fx⟩
      obtain ⟨m, em, rfl⟩ := of_map (fx _ (SqL.of (s5 _ _ eM3)))
      rw [cbP_drop em] at e
      have s6 := same_new (o := .tup [.int (i : Nat), .int m]) nT
      have s36 := s5.trans s6
      refine ⟨T, _, rfl, .inl (.inl upd_same), rfl, _, _, rfl, _, _, rfl, rfl, ?_⟩
      have hi1 : i < ts1.length := by omega
      have hi2 : i < ts2.length := by omega
      have o1 := s36 _ _ (f3 i _ m (List.getElem?_eq_getElem hi1) em)
      have o2 := s36 _ _ (k3 i _ m (List.getElem?_eq_getElem hi2) em)
      have q1 := SqL.of (K := K) (s36 _ _ f1)
      have q2 := SqL.of (K := K) (s36 _ _ k1)
      have ea1 : atI (ts1.map V.ref) (i : Int) = some (.ref ts1[i]) := at_map (List.getElem?_eq_getElem hi1)
      have ea2 : atI (ts2.map V.ref) (i : Int) = some (.ref ts2[i]) := at_map (List.getElem?_eq_getElem hi2)
      have qM := SqL.of (K := K) (s36 _ _ eM3)
      generalize ts1[i] = u1 at o1 ea1
      generalize ts2[i] = u2 at o2 ea2
      have w1 : SqT K (upd H5 T (.tup [.int (i : Nat), .int m])) u1 _ := .inl (.inl o1)
      have w2 : SqT K (upd H5 T (.tup [.int (i : Nat), .int m])) u2 _ := .inl (.inl o2)
      have hq6 := hq.more s6
      generalize upd H5 T (.tup [.int (i : Nat), .int m]) = H6 at s6 s36 o1 o2 q1 q2 qM w1 w2 hq6 ⊢
      refine ⟨fun σ' H' => H' = H6 ∧ σ' = [some (.ref a), some (.ref b), some (.bl sm), some (.ref M), some (.ref p1), some (.ref p2), some (.ref p), some (.int (i : Int)), some (.int m), some (oV (match ms[i + 1]? with
        | some M => some (M - m)
        | none => none)), v10, v11, none], ?_, ?_⟩
      · walk_at "go"
        refine ⟨M, _, rfl, .inl qM, ?_⟩
        rw [List.length_map]
        walk_at "go"
        by_cases hlast : i + 1 < ms.length
        · have eN : ms[i + 1]? = some ms[i + 1] := List.getElem?_eq_getElem hlast
          have ea3 : atI (ms.map V.int) ((i : Int) + 1) = some (.int ms[i + 1]) := at_of (j := i + 1) (by omega) (by rw [List.getElem?_map, eN]; rfl)
          refine ite2 (fun _ => ?_) (fun z => absurd (decide_eq_true (by omega)) z)
          walk_at "go"
          refine ⟨M, _, _, _, rfl, rfl, qM, ea3, ?_⟩
          walk_at "go"
          rw [eN]
          rfl
        · refine ite2 (fun z => absurd (of_decide_eq_true z) (by omega)) (fun _ => ?_)
          walk_at "go"
          rw [List.getElem?_eq_none (by omega)]
          rfl
      rintro σ' H7 ⟨e7, rfl⟩
      rw [e7]
      clear e7 H7
      generalize (match ms[i + 1]? with
        | some M => some (M - m)
        | none => none) = wd at e ⊢
      walk_at "go"
      refine ⟨p1, _, _, _, rfl, rfl, q1, ea1, ?_⟩
      walk_at "go"
      refine ⟨p2, _, _, _, rfl, rfl, q2, ea2, ?_⟩
      walk_at "go"
      refine ⟨u1, u2, _, _, _, _, wd, sm, rfl, w1, w2, fun t H7 s7 e7 => ?_⟩
      have e8 : cbF s rs s' rs' sm m wd = prt m (rpt (s + Fs rs m) (uI rs m) (s' + Fs rs' m) (uI rs' m) wd sm) := rfl
      rw [e8] at e
      generalize (rpt (s + Fs rs m) (uI rs m) (s' + Fs rs' m) (uI rs' m) wd sm) = rp at e e7
      obtain ⟨lo, hi3⟩ := rp
      walk_at "go"
      refine ⟨t, _, rfl, .inl (.inl e7), rfl, _, _, rfl, _, _, rfl, rfl, ?_⟩
      have hq7 := hq6.more s7
      have hl7 : (qs.map V.ref).length < sizeLine := by
        have h1 := congrArg List.length e
        rw [List.length_append, cbP_len] at h1
        rw [List.length_map, hq.2.1]
        exact Nat.lt_of_le_of_lt (show _ ≤ 100000 by omega) (by decide)
      walk_at "go"
      refine ⟨.inl ⟨rfl, _, .inl (.inl hq7.1)⟩, ?_⟩
      have fin : ∀ T2, H7 T2 = none → RisH (upd H7 T2 (.tup [.int (prt m (lo, hi3)).1, oV (prt m (lo, hi3)).2])) p qs rs1 ∧ RisH (upd (upd H7 T2 (.tup [.int (prt m (lo, hi3)).1, oV (prt m (lo, hi3)).2])) p (.lst (qs.map V.ref ++ [.ref T2]))) p (qs ++ [T2]) (rs1 ++ [prt m (lo, hi3)]) ∧ Same H3 (upd (upd H7 T2 (.tup [.int (prt m (lo, hi3)).1, oV (prt m (lo, hi3)).2])) p (.lst (qs.map V.ref ++ [.ref T2]))) := by
        intro T2 nT2
        have s8 := same_new (o := .tup [.int (prt m (lo, hi3)).1, oV (prt m (lo, hi3)).2]) nT2
        have hq8 := hq7.more s8
        exact ⟨hq8, hq8.snoc upd_same, Z.Same.mut (s36.trans (s7.trans s8)) np⟩
      have e9 : (rs1 ++ [prt m (lo, hi3)]) ++ cbP (cbF s rs s' rs' sm) (ms.drop (i + 1)) = cbP (cbF s rs s' rs' sm) ms := by
        rw [List.append_assoc]
        exact e
      cases hi3 with
      | none =>
        walk_at "go"
        intro T2 nT2
        obtain ⟨h1, h2, h3⟩ := fin T2 nT2
        refine ⟨_, _, _, rfl, rfl, h1.1, hl7, ?_⟩
        exact ⟨h3, _, _, _, _, _, _, _, h2, e9, rfl⟩
      | some y =>
        walk_at "go"
        intro T2 nT2
        obtain ⟨h1, h2, h3⟩ := fin T2 nT2
        refine ⟨_, _, _, rfl, rfl, h1.1, hl7, ?_⟩
        exact ⟨h3, _, _, _, _, _, _, _, h2, e9, rfl⟩
    · rintro σ H5 ⟨s5, qs, rs1, v7, v8, v9, v10, v11, hq, e, rfl⟩
      rw [List.drop_length] at e
      have e : rs1 ++ [] = _ := e
      rw [List.append_nil] at e
      rw [e] at hq
      exact ⟨s5, qs, _, _, _, _, _, hq, rfl⟩
end
end Z
set_option pp.maxSteps 700
set_option Elab.async false
set_option linter.all false
set_option maxRecDepth 100000
set_option maxHeartbeats 4000000
namespace Z
open Nd
open PySem PySem.Spec PyProof.Rows L2
open C8 (pss_cut tCut)
local macro_rules | `(tactic| walk_at "num") => `(tactic| first | rfl | omega | decide | exact Nat.le_of_lt (small1000 (by simp)) | exact ⟨by omega, by omega⟩ | exact ⟨by omega, by omega, by omega⟩ | exact ⟨by decide, by decide, by decide⟩ | exact Or.inl ⟨by omega, by omega⟩ | exact Or.inr ⟨by omega, by omega⟩)
local macro_rules | `(tactic| walk_at "go") => `(tactic| repeat (first | refine ⟨_, rfl, ?_⟩ | refine ⟨_, _, rfl, rfl, ?_⟩ | refine ⟨_, _, rfl, ?_⟩ | refine ⟨_, _, rfl, rfl, (by walk_at "num"), ?_⟩ | refine Or.inl ⟨_, rfl, ?_⟩ | refine ⟨_, _, _, _, rfl, rfl, (by assumption), (by rfl), ?_⟩ | refine ⟨_, _, _, _, _, rfl, (by assumption), (by assumption), (by assumption), (by rfl), ?_⟩ | refine ⟨rfl, ?_⟩ | refine And.intro (by walk_at "num") ?_))
abbrev s_Need___rshift__ : Stmt := inClass (topS 19) 5
abbrev N_Need___rshift__ : List Str := ["self", "other", "start", "rises"]
abbrev P_Need___rshift__ : List Str := ["self", "other"]
theorem sc_Need___rshift__ : FnScope N_Need___rshift__ P_Need___rshift__ (defScope s_Need___rshift__) := ⟨rfl, rfl, rfl, by decide +kernel, rfl, by decide +kernel, by decide +kernel⟩
abbrev s_Need___or__ : Stmt := inClass (topS 19) 6
abbrev N_Need___or__ : List Str := ["self", "other", "start", "rises", "never"]
abbrev P_Need___or__ : List Str := ["self", "other"]
theorem sc_Need___or__ : FnScope N_Need___or__ P_Need___or__ (defScope s_Need___or__) := ⟨rfl, rfl, rfl, by decide +kernel, rfl, by decide +kernel, by decide +kernel⟩
abbrev s_Need___and__ : Stmt := inClass (topS 19) 7
abbrev N_Need___and__ : List Str := ["self", "other", "start", "rises", "never"]
abbrev P_Need___and__ : List Str := ["self", "other"]
theorem sc_Need___and__ : FnScope N_Need___and__ P_Need___and__ (defScope s_Need___and__) := ⟨rfl, rfl, rfl, by decide +kernel, rfl, by decide +kernel, by decide +kernel⟩
abbrev s_Need___mul__ : Stmt := inClass (topS 19) 8
abbrev N_Need___mul__ : List Str := ["self", "count", "result", "lap"]
abbrev P_Need___mul__ : List Str := ["self", "count"]
theorem sc_Need___mul__ : FnScope N_Need___mul__ P_Need___mul__ (defScope s_Need___mul__) := ⟨rfl, rfl, rfl, by decide +kernel, rfl, by decide +kernel, by decide +kernel⟩
/-! ### the fields of the results are right -/
theorem ok_vals {s t : Int} {rs : Rs} {nv : Option Int} {v : Int} (ok : Ok (some s) rs nv) (e : nv = some v) (k : Int) : s + Fs rs k ≤ v := by
  obtain ⟨t, h1, h2⟩ := ok.2.2 v e
  have := le_top ok.1 h1 k
  omega
theorem ok_pos {s : Int} {rs : Rs} {nv : Option Int} (ok : Ok (some s) rs nv) (k : Int) : 0 ≤ s + Fs rs k := by
  have h1 := ok.2.1 s rfl
  have h2 := (Fs_slope (x := k) (y := k) (Int.le_refl _) ok.1).1
  omega
theorem ok_nvpos {st : Option Int} {rs : Rs} {nv : Option Int} (ok : Ok st rs nv) : ∀ i, nv = some i → 0 ≤ i := by
  intro i e
  cases st with
  | none =>
    obtain ⟨t, h, _⟩ := ok.2.2 i e
    cases h
  | some s =>
    have h1 := ok_vals (t := 0) ok e 0
    have h2 := ok_pos ok 0
    omega
theorem ok_comp {s s' : Int} {rs rs' J : Rs} {nv nv' : Option Int} (ok : Ok (some s) rs nv) (ok' : Ok (some s') rs' nv') (gJ : Good (-1) J) (hJ : ∀ k, Fs J k = Fs rs (s' + Fs rs' k) - Fs rs s') : Ok (some (s + Fs rs s')) J (val (some s) rs nv nv') := by
  refine ⟨gJ, fun x e => ?_, fun v e => ?_⟩
  · cases e
    exact ok_pos ok s'
  · refine top_le gJ (fun k _ => ?_)
    rw [hJ k]
    cases nv' with
    | none =>
      have e : nv = some v := e
      have := ok_vals (t := 0) ok e (s' + Fs rs' k)
      omega
    | some x =>
      have e : s + Fs rs x = v := Option.some.inj e
      have h1 := ok_vals (t := 0) ok' rfl k
      have h2 := (Fs_slope h1 ok.1).2.1
      omega
theorem ok_const {nv : Option Int} (h : ∀ i, nv = some i → 0 ≤ i) : Ok nv [] nv := by
  refine ⟨?_, fun s e => h s e, fun v e => ?_⟩
  · cases nv with
    | none => rfl
    | some v => trivial
  · subst e
    exact ⟨v, rfl, Int.le_refl _⟩
def smO (a b : Option Int) : Option Int := if am a b = true then a else b
def grO (a b : Option Int) : Option Int := if am a b = true then b else a
def mmO (sm : Bool) (a b : Option Int) : Option Int := if sm = true then smO a b else grO a b
theorem mmO_some (sm : Bool) (x y : Int) : mmO sm (some x) (some y) = some (mm sm x y) := by
  unfold mmO mm smO grO
  have e : am (some x) (some y) = decide (x ≤ y) := rfl
  rw [e]
  cases sm with
  | true =>
    rw [if_pos rfl, if_pos rfl]
    by_cases h : x ≤ y
    · rw [decide_eq_true h, if_pos rfl]
      congr 1
      omega
    · rw [decide_eq_false h, if_neg (by simp)]
      congr 1
      omega
  | false =>
    simp only [Bool.false_eq_true, if_false]
    by_cases h : x ≤ y
    · rw [decide_eq_true h, if_pos rfl]
      congr 1
      omega
    · rw [decide_eq_false h, if_neg (by simp)]
      congr 1
      omega
theorem ok_comb {sm : Bool} {s s' : Int} {rs rs' J : Rs} {nv nv' : Option Int} (ok : Ok (some s) rs nv) (ok' : Ok (some s') rs' nv') (gJ : Good (-1) J) (hJ : ∀ k, 0 ≤ k → mm sm s s' + Fs J k = mm sm (s + Fs rs k) (s' + Fs rs' k)) : Ok (some (mm sm s s')) J (mmO sm nv nv') := by
  have p1 := ok.2.1 s rfl
  have p2 := ok'.2.1 s' rfl
  refine ⟨gJ, fun x e => ?_, fun v e => ?_⟩
  · cases e
    unfold mm
    split <;> omega
  · have key : ∀ k, 0 ≤ k → mm sm s s' + Fs J k ≤ v := by
      intro k hk
      rw [hJ k hk]
      cases nv with
      | none =>
        cases nv' with
        | none => cases sm <;> cases e
        | some y =>
          cases sm with
          | false => cases e
          | true =>
            have e : y = v := Option.some.inj e
            have := ok_vals (t := 0) ok' rfl k
            show (if true = true then min _ _ else _) ≤ v
            rw [if_pos rfl]
            omega
      | some x =>
        have h1 := ok_vals (t := 0) ok rfl k
        cases nv' with
        | none =>
          cases sm with
          | false => cases e
          | true =>
            have e : x = v := Option.some.inj e
            show (if true = true then min _ _ else _) ≤ v
            rw [if_pos rfl]
            omega
        | some y =>
          have h2 := ok_vals (t := 0) ok' rfl k
          rw [mmO_some] at e
          have e : mm sm x y = v := Option.some.inj e
          unfold mm at e ⊢
          (repeat' split at e) <;> (repeat' split) <;> first | omega | simp_all
    refine top_le gJ (fun k hk => ?_)
    by_cases h : 0 ≤ k
    · exact key k h
    · have h1 := key 0 (Int.le_refl _)
      have h2 := (Fs_slope (x := k) (y := 0) (by omega) gJ).2.1
      omega
def okk (k : Option Int) : Prop := ∀ i, k = some i → 0 ≤ i
theorem okk_val {st nv k : Option Int} {rs : Rs} (ok : Ok st rs nv) : okk (val st rs nv k) := by
  intro i e
  cases st with
  | none => exact ok_nvpos ok i e
  | some s =>
    cases k with
    | none => exact ok_nvpos ok i e
    | some k =>
      have e : s + Fs rs k = i := Option.some.inj e
      have := ok_pos ok k
      omega
theorem ok_none {rs : Rs} {nv : Option Int} (h : Ok none rs nv) : nv = none ∧ rs = [] := by
  refine ⟨?_, h.1⟩
  cases nv with
  | none => rfl
  | some v =>
    obtain ⟨t, e, _⟩ := h.2.2 v rfl
    cases e
/-! ### repeated use -/
def itN (g : Option Int → Option Int) : Nat → Option Int → Option Int
  | 0, k => k
  | n + 1, k => g (itN g n k)
section
variable {P : Program} {w : World} {K : PySem.W.Frag} {mg : Str → Option Value} {base : Heap} {f C CB : Addr} {fd : FuncData}
def spRsh (C : Addr) (K : PySem.W.Frag) : Sp := fun vs H Q _ => ∃ (n m : Addr) (st nv st' nv' : Option Int) (rs rs' : Rs), vs = [.ref n, .ref m] ∧ NeedAt C K H n st rs nv ∧ NeedAt C K H m st' rs' nv' ∧ Ok st rs nv ∧ Ok st' rs' nv' ∧ rs.length + rs'.length ≤ 50000 ∧
  ∀ p H' st2 rs2 nv2, Same H H' → NeedAt C K H' p st2 rs2 nv2 → Ok st2 rs2 nv2 → (∀ k, okk k → val st2 rs2 nv2 k = val st rs nv (val st' rs' nv' k)) → rs2.length ≤ rs.length + rs'.length → Q (.ref p) H'
theorem ok_rshift (F : FnM K "__rshift__" "Need.__rshift__" s_Need___rshift__ f fd) (cls : Cls K C) (n_start : NoAttr K C "start") (n_rises : NoAttr K C "rises") (n_never : NoAttr K C "never") (k_Need : Mak P w K mg base 2 "Need" (spNeed C K)) (me_value_for : Met P w K mg base 2 C "value_for" (spCallN C K)) (c_composed : Cal P w K mg base 2 "composed" (spComposed K)) : FnOk P w K mg base CX0 4 f fd P_Need___rshift__ (spRsh C K) := by
  refine F.ok sc_Need___rshift__ (fun vs H Q E h => ?_) (fun cdv A outer s H vs Q E hr h => ?_)
  · obtain ⟨n, m, st, nv, st', nv', rs, rs', rfl, _⟩ := h
    rfl
  · obtain ⟨n, m, st, nv, st', nv', rs, rs', rfl, hN, hM, ok, ok', hl, q⟩ := h
    have hN0 := hN
    obtain ⟨dx, r, ps, hn, hR, er⟩ := hN0
    have hM0 := hM
    obtain ⟨dy, r', ps', hm, hR', er'⟩ := hM0
    refine ⟨_, PSs.nox (pss_cons (ps_if (pt_cmpR op_isN (pe_fld (pv 0) rfl) pe_non (nomark _)) (pss_one (ps_ret (pe_mk k_Need hr (by decide) (by rfl) (pa_cons pe_non (pa_cons (pe_tup pa_nil) (pa_cons pe_non pa_nil)))))) pss_nil)
      (pss_cons (ps_if (pt_cmpR op_isN (pe_fld (pv 1) rfl) pe_non (nomark _)) (pss_one (ps_ret (pe_mk k_Need hr (by decide) (by rfl) (pa_cons (pe_fld (pv 0) rfl) (pa_cons (pe_tup pa_nil) (pa_cons (pe_fld (pv 0) rfl) pa_nil)))))) pss_nil)
      (pss_cons (ps_asg (pe_cl c_composed hr (by decide) (by rfl) (pa_cons (pe_tup (pa_cons (pe_fld (pv 0) rfl) (pa_cons (pe_fld (pv 0) rfl) pa_nil))) (pa_cons (pe_tup (pa_cons (pe_fld (pv 1) rfl) (pa_cons (pe_fld (pv 1) rfl) pa_nil))) pa_nil))) (pg_tup rfl (pgs_cons (pg_name (i := 2) sc_Need___rshift__.nd rfl (by first | exact .inl rfl | exact .inr rfl)) (pgs_cons (pg_name (i := 3) sc_Need___rshift__.nd rfl (by first | exact .inl rfl | exact .inr rfl)) pgs_nil))))
      (pss_one (ps_ret (pe_mk k_Need hr (by decide) (by rfl) (pa_cons (pv 2) (pa_cons (pv 3) (pa_cons (pe_me me_value_for (pv 0) hr (by decide) (pa_cons (pe_fld (pv 1) rfl) pa_nil)) pa_nil))))))))), ?_⟩
    cases st with
    | none =>
      obtain ⟨rfl, rfl⟩ := ok_none ok
      walk_at "go"
      intro t nt
      have s1 := same_new (o := .tup []) nt
      walk_at "go"
      refine ⟨false, false, none, none, t, [], [], rfl, ris_nil (.inl (.inl upd_same)), by decide, ok_const nofun, fun p H2 s2 _ hP => ?_⟩
      exact q p H2 none [] none (s1.trans s2) hP (ok_const nofun) (fun k _ => rfl) (by simp)
    | some s0 =>
      cases st' with
      | none =>
        obtain ⟨rfl, rfl⟩ := ok_none ok'
        walk_at "go"
        intro t nt
        have s1 := same_new (o := .tup []) nt
        have hn1 := s1 _ _ hn
        have eR : Ris false false K (upd H t (.tup [])) t [] [] := ris_nil (.inl (.inl upd_same))
        generalize upd H t (.tup []) = H1 at s1 hn1 eR ⊢
        walk_at "go"
        have okc := ok_const (ok_nvpos ok)
        refine ⟨false, false, nv, nv, t, [], [], rfl, eR, by decide, okc, fun p H2 s2 _ hP => ?_⟩
        refine q p H2 nv [] nv (s1.trans s2) hP okc (fun k _ => ?_) (by simp)
        show val nv [] nv k = nv
        cases nv with
        | none => rfl
        | some v =>
          cases k with
          | none => rfl
          | some k =>
            show some (v + Fs [] k) = some v
            rw [Fs_nil, Int.add_zero]
      | some s' =>
        walk_at "go"
        intro t nt
        have s1 := same_new (o := .tup [oV (some s0), .ref r]) nt
        have hm1 := s1 _ _ hm
        have e1 : SqT K (upd H t (.tup [oV (some s0), .ref r])) t [.int s0, .ref r] := .inl (.inl upd_same)
        generalize upd H t (.tup [oV (some s0), .ref r]) = H1 at s1 hm1 e1 ⊢
        walk_at "go"
        intro t2 nt2
        have s2 := same_new (o := .tup [oV (some s'), .ref r']) nt2
        have e2 : SqT K (upd H1 t2 (.tup [oV (some s'), .ref r'])) t2 [.int s', .ref r'] := .inl (.inl upd_same)
        have e1 := Z.Same.sqT s2 e1
        have s02 := s1.trans s2
        generalize upd H1 t2 (.tup [oV (some s'), .ref r']) = H2 at s2 e2 e1 s02 ⊢
        walk_at "go"
        refine ⟨t, t2, s0, s', rs, rs', rfl, ⟨r, ps, e1, hR.mono s02⟩, ⟨r', ps', e2, hR'.mono s02⟩, ok.1, ok'.1, hl, fun t3 r3 qs3 H3 s3 e3 hR3 => ?_⟩
        have s03 := s02.trans s3
        have hn3 := s03 _ _ hn
        have hm3 := s03 _ _ hm
        obtain ⟨c1, c2, _⟩ := comp_ok (outer := rs) (inner := rs') ok.1 ok'.1 (ok'.2.1 s' rfl)
        have c3 : (join (cpO rs s' rs')).length ≤ rs.length + rs'.length := by
          have h1 := join_len (cpO rs s' rs') []
          have h2 := cpO_len2 (v := s') ok.1 ok'.1
          show ((cpO rs s' rs').foldl jS []).length ≤ _
          simp only [List.length_nil, Nat.zero_add] at h1
          omega
        generalize join (cpO rs s' rs') = J at hR3 c1 c2 c3
        walk_at "go"
        refine ⟨t3, _, rfl, .inl (.inl e3), rfl, _, _, rfl, _, _, rfl, rfl, ?_⟩
        walk_at "go"
        refine ⟨n, dx, _, rfl, hn3, rfl, ?_⟩
        walk_at "go"
        refine ⟨some s0, nv, nv', n, rs, rfl, hN.mono s03, ok, ok_nvpos ok', ?_⟩
        walk_at "go"
        have okJ := ok_comp ok ok' c1 c2
        refine ⟨false, false, some (s0 + Fs rs s'), _, r3, qs3, J, rfl, hR3, by omega, okJ, fun p H4 s4 _ hP => ?_⟩
        refine q p H4 _ _ _ (s03.trans s4) hP okJ (fun k hk => ?_) c3
        cases k with
        | none => rfl
        | some k =>
          show some (s0 + Fs rs s' + Fs J k) = some (s0 + Fs rs (s' + Fs rs' k))
          rw [c2 k]
          congr 1
          omega
end
end Z
set_option pp.maxSteps 700
set_option Elab.async false
set_option linter.all false
set_option maxRecDepth 100000
set_option maxHeartbeats 4000000
namespace Z
open Nd
open PySem PySem.Spec PyProof.Rows L2
open C8 (pss_cut tCut)
local macro_rules | `(tactic| walk_at "num") => `(tactic| first | rfl | omega | decide | exact Nat.le_of_lt (small1000 (by simp)) | exact ⟨by omega, by omega⟩ | exact ⟨by omega, by omega, by omega⟩ | exact ⟨by decide, by decide, by decide⟩ | exact Or.inl ⟨by omega, by omega⟩ | exact Or.inr ⟨by omega, by omega⟩)
local macro_rules | `(tactic| walk_at "go") => `(tactic| repeat (first | refine ⟨_, rfl, ?_⟩ | refine ⟨_, _, rfl, rfl, ?_⟩ | refine ⟨_, _, rfl, ?_⟩ | refine ⟨_, _, rfl, rfl, (by walk_at "num"), ?_⟩ | refine Or.inl ⟨_, rfl, ?_⟩ | refine ⟨_, _, _, _, rfl, rfl, (by assumption), (by rfl), ?_⟩ | refine ⟨_, _, _, _, _, rfl, (by assumption), (by assumption), (by assumption), (by rfl), ?_⟩ | refine ⟨rfl, ?_⟩ | refine And.intro (by walk_at "num") ?_))
theorem smO_r (a : Option Int) : smO a none = a := if_pos (by cases a <;> rfl)
theorem smO_l (a : Option Int) : smO none a = a := by
  cases a with
  | none => rfl
  | some x => rfl
theorem grO_r (a : Option Int) : grO a none = none := if_pos (by cases a <;> rfl)
theorem grO_l (a : Option Int) : grO none a = none := by
  cases a with
  | none => rfl
  | some x => rfl
section
variable {P : Program} {w : World} {K : PySem.W.Frag} {mg : Str → Option Value} {base : Heap} {f C CB : Addr} {fd : FuncData}
def spMM (sm : Bool) (C : Addr) (K : PySem.W.Frag) : Sp := fun vs H Q _ => ∃ (n m : Addr) (st nv st' nv' : Option Int) (rs rs' : Rs), vs = [.ref n, .ref m] ∧ NeedAt C K H n st rs nv ∧ NeedAt C K H m st' rs' nv' ∧ Ok st rs nv ∧ Ok st' rs' nv' ∧ rs.length ≤ 20000 ∧ rs'.length ≤ 20000 ∧
  ∀ p H' st2 rs2 nv2, Same H H' → NeedAt C K H' p st2 rs2 nv2 → Ok st2 rs2 nv2 → (∀ k, okk k → val st2 rs2 nv2 k = mmO sm (val st rs nv k) (val st' rs' nv' k)) → rs2.length ≤ 2 * (rs.length + rs'.length) + 1 → Q (.ref p) H'
theorem ok_or (F : FnM K "__or__" "Need.__or__" s_Need___or__ f fd) (cls : Cls K C) (n_start : NoAttr K C "start") (n_rises : NoAttr K C "rises") (n_never : NoAttr K C "never") (k_Need : Mak P w K mg base 2 "Need" (spNeed C K)) (c_combined : CalK P w K mg base 2 "combined" 2 ["smaller"] (fun vs zs => vs ++ zs) (spCombined2 K)) : FnOk P w K mg base CX0 4 f fd P_Need___or__ (spMM true C K) := by
  refine F.ok sc_Need___or__ (fun vs H Q E h => ?_) (fun cdv A outer s H vs Q E hr h => ?_)
  · obtain ⟨n, m, st, nv, st', nv', rs, rs', rfl, _⟩ := h
    rfl
  · obtain ⟨n, m, st, nv, st', nv', rs, rs', rfl, hN, hM, ok, ok', l1, l2, q⟩ := h
    have hN0 := hN
    obtain ⟨dx, r, ps, hn, hR, er⟩ := hN0
    have hM0 := hM
    obtain ⟨dy, r', ps', hm, hR', er'⟩ := hM0
    refine ⟨_, PSs.nox (pss_cons (ps_if (pt_cmpR op_isN (pe_fld (pv 0) rfl) pe_non (nomark _)) (pss_one (ps_ret (pv 1))) pss_nil)
      (pss_cons (ps_if (pt_cmpR op_isN (pe_fld (pv 1) rfl) pe_non (nomark _)) (pss_one (ps_ret (pv 0))) pss_nil)
      (pss_cons (ps_asg (pe_clK c_combined hr (by decide) (by rfl) (pa_cons (pe_tup (pa_cons (pe_fld (pv 0) rfl) (pa_cons (pe_fld (pv 0) rfl) pa_nil))) (pa_cons (pe_tup (pa_cons (pe_fld (pv 1) rfl) (pa_cons (pe_fld (pv 1) rfl) pa_nil))) pa_nil)) (pk_cons pe_bl pk_nil)) (pg_tup rfl (pgs_cons (pg_name (i := 2) sc_Need___or__.nd rfl (by first | exact .inl rfl | exact .inr rfl)) (pgs_cons (pg_name (i := 3) sc_Need___or__.nd rfl (by first | exact .inl rfl | exact .inr rfl)) pgs_nil))))
      (pss_cons (ps_set (i := 4) sc_Need___or__.nd rfl (by first | exact .inl rfl | exact .inr rfl) (pe_fld (pv 0) rfl))
      (pss_cut (ps_if (PW.pt (pw_or (pt_cmpR op_isN (pv 4) pe_non (nomark _)) (pw_or1 (PW.pt (pw_and (pt_cmpR op_notN (pe_fld (pv 1) rfl) pe_non (nomark _)) (pw_and1 (pt_cmpR op_lt (pe_fld (pv 1) rfl) (pv 4) (nomark _)))))))) (pss_one (ps_set (i := 4) sc_Need___or__.nd rfl (by first | exact .inl rfl | exact .inr rfl) (pe_fld (pv 1) rfl))) pss_nil)
      (pss_one (ps_ret (pe_mk k_Need hr (by decide) (by rfl) (pa_cons (pv 2) (pa_cons (pv 3) (pa_cons (pv 4) pa_nil))))))))))), ?_⟩
    cases st with
    | none =>
      obtain ⟨rfl, rfl⟩ := ok_none ok
      walk_at "go"
      exact q m H st' rs' nv' (Same.refl _) hM ok' (fun k _ => (smO_l _).symm) (by omega)
    | some s0 =>
      cases st' with
      | none =>
        obtain ⟨rfl, rfl⟩ := ok_none ok'
        walk_at "go"
        exact q n H (some s0) rs nv (Same.refl _) hN ok (fun k _ => (smO_r _).symm) (by omega)
      | some s' =>
        walk_at "go"
        intro t nt
        have s1 := same_new (o := .tup [oV (some s0), .ref r]) nt
        have hm1 := s1 _ _ hm
        have e1 : SqT K (upd H t (.tup [oV (some s0), .ref r])) t [.int s0, .ref r] := .inl (.inl upd_same)
        generalize upd H t (.tup [oV (some s0), .ref r]) = H1 at s1 hm1 e1 ⊢
        walk_at "go"
        intro t2 nt2
        have s2 := same_new (o := .tup [oV (some s'), .ref r']) nt2
        have e2 : SqT K (upd H1 t2 (.tup [oV (some s'), .ref r'])) t2 [.int s', .ref r'] := .inl (.inl upd_same)
        have e1 := Z.Same.sqT s2 e1
        have s02 := s1.trans s2
        generalize upd H1 t2 (.tup [oV (some s'), .ref r']) = H2 at s2 e2 e1 s02 ⊢
        walk_at "go"
        refine ⟨t, t2, s0, s', rs, rs', true, rfl, ⟨r, ps, e1, hR.mono s02⟩, ⟨r', ps', e2, hR'.mono s02⟩, ok.1, ok'.1, l1, l2, fun t3 r3 qs3 J H3 s3 e3 hR3 c1 c2 c3 => ?_⟩
        have s03 := s02.trans s3
        have hn3 := s03 _ _ hn
        have hm3 := s03 _ _ hm
        walk_at "go"
        refine ⟨t3, _, rfl, .inl (.inl e3), rfl, _, _, rfl, _, _, rfl, rfl, ?_⟩
        walk_at "go"
        refine ⟨fun σ' H' => H' = H3 ∧ σ' = [some (.ref n), some (.ref m), some (.int (mm true s0 s')), some (.ref r3), some (oV (mmO true nv nv'))], ?_, ?_⟩
        · cases nv with
          | none =>
            cases nv' with
            | none =>
              walk_at "go"
              rfl
            | some y =>
              walk_at "go"
              rfl
          | some x =>
            cases nv' with
            | none =>
              walk_at "go"
              rfl
            | some y =>
              rw [mmO_some]
              walk_at "go"
              refine ite2 (fun e => ?_) (fun e => ?_)
              · have c := of_decide_eq_true e
                rw [show mm true x y = y by unfold mm; simp; omega]
                walk_at "go"
                rfl
              · have c : ¬ y < x := fun z => e (decide_eq_true z)
                rw [show mm true x y = x by unfold mm; simp; omega]
                exact ⟨rfl, rfl⟩
        rintro σ' H4 ⟨e4, rfl⟩
        rw [e4]
        clear e4 H4
        have okJ := ok_comb ok ok' c1 c2
        walk_at "go"
        refine ⟨false, false, some (mm true s0 s'), _, r3, qs3, J, rfl, hR3, by omega, okJ, fun p H4 s4 _ hP => ?_⟩
        refine q p H4 _ _ _ (s03.trans s4) hP okJ (fun k hk => ?_) c3
        cases k with
        | none => rfl
        | some k =>
          show some (mm true s0 s' + Fs J k) = mmO true (some (s0 + Fs rs k)) (some (s' + Fs rs' k))
          rw [mmO_some, c2 k (hk k rfl)]
theorem ok_and (F : FnM K "__and__" "Need.__and__" s_Need___and__ f fd) (cls : Cls K C) (n_start : NoAttr K C "start") (n_rises : NoAttr K C "rises") (n_never : NoAttr K C "never") (k_Need : Mak P w K mg base 2 "Need" (spNeed C K)) (c_combined : CalK P w K mg base 2 "combined" 2 ["smaller"] (fun vs zs => vs ++ zs) (spCombined2 K)) : FnOk P w K mg base CX0 4 f fd P_Need___and__ (spMM false C K) := by
  refine F.ok sc_Need___and__ (fun vs H Q E h => ?_) (fun cdv A outer s H vs Q E hr h => ?_)
  · obtain ⟨n, m, st, nv, st', nv', rs, rs', rfl, _⟩ := h
    rfl
  · obtain ⟨n, m, st, nv, st', nv', rs, rs', rfl, hN, hM, ok, ok', l1, l2, q⟩ := h
    have hN0 := hN
    obtain ⟨dx, r, ps, hn, hR, er⟩ := hN0
    have hM0 := hM
    obtain ⟨dy, r', ps', hm, hR', er'⟩ := hM0
    refine ⟨_, PSs.nox (pss_cons (ps_if (PW.pt (pw_or (pt_cmpR op_isN (pe_fld (pv 0) rfl) pe_non (nomark _)) (pw_or1 (pt_cmpR op_isN (pe_fld (pv 1) rfl) pe_non (nomark _))))) (pss_one (ps_ret (pe_mk k_Need hr (by decide) (by rfl) (pa_cons pe_non (pa_cons (pe_tup pa_nil) (pa_cons pe_non pa_nil)))))) pss_nil)
      (pss_cons (ps_asg (pe_clK c_combined hr (by decide) (by rfl) (pa_cons (pe_tup (pa_cons (pe_fld (pv 0) rfl) (pa_cons (pe_fld (pv 0) rfl) pa_nil))) (pa_cons (pe_tup (pa_cons (pe_fld (pv 1) rfl) (pa_cons (pe_fld (pv 1) rfl) pa_nil))) pa_nil)) (pk_cons pe_bl pk_nil)) (pg_tup rfl (pgs_cons (pg_name (i := 2) sc_Need___and__.nd rfl (by first | exact .inl rfl | exact .inr rfl)) (pgs_cons (pg_name (i := 3) sc_Need___and__.nd rfl (by first | exact .inl rfl | exact .inr rfl)) pgs_nil))))
      (pss_cons (ps_set (i := 4) sc_Need___and__.nd rfl (by first | exact .inl rfl | exact .inr rfl) (pe_fld (pv 0) rfl))
      (pss_cut (ps_if (PW.pt (pw_and (pt_cmpR op_notN (pv 4) pe_non (nomark _)) (pw_and1 (PW.pt (pw_or (pt_cmpR op_isN (pe_fld (pv 1) rfl) pe_non (nomark _)) (pw_or1 (pt_cmpR op_gt (pe_fld (pv 1) rfl) (pv 4) (nomark _)))))))) (pss_one (ps_set (i := 4) sc_Need___and__.nd rfl (by first | exact .inl rfl | exact .inr rfl) (pe_fld (pv 1) rfl))) pss_nil)
      (pss_one (ps_ret (pe_mk k_Need hr (by decide) (by rfl) (pa_cons (pv 2) (pa_cons (pv 3) (pa_cons (pv 4) pa_nil)))))))))), ?_⟩
    cases st with
    | none =>
      obtain ⟨rfl, rfl⟩ := ok_none ok
      walk_at "go"
      intro t nt
      have s1 := same_new (o := .tup []) nt
      walk_at "go"
      refine ⟨false, false, none, none, t, [], [], rfl, ris_nil (.inl (.inl upd_same)), by decide, ok_const nofun, fun p H2 s2 _ hP => ?_⟩
      exact q p H2 none [] none (s1.trans s2) hP (ok_const nofun) (fun k _ => (grO_l _).symm) (by simp)
    | some s0 =>
      cases st' with
      | none =>
        obtain ⟨rfl, rfl⟩ := ok_none ok'
        walk_at "go"
        intro t nt
        have s1 := same_new (o := .tup []) nt
        walk_at "go"
        refine ⟨false, false, none, none, t, [], [], rfl, ris_nil (.inl (.inl upd_same)), by decide, ok_const nofun, fun p H2 s2 _ hP => ?_⟩
        exact q p H2 none [] none (s1.trans s2) hP (ok_const nofun) (fun k _ => (grO_r (val (some s0) rs nv k)).symm) (by simp)
      | some s' =>
        walk_at "go"
        intro t nt
        have s1 := same_new (o := .tup [oV (some s0), .ref r]) nt
        have hm1 := s1 _ _ hm
        have e1 : SqT K (upd H t (.tup [oV (some s0), .ref r])) t [.int s0, .ref r] := .inl (.inl upd_same)
        generalize upd H t (.tup [oV (some s0), .ref r]) = H1 at s1 hm1 e1 ⊢
        walk_at "go"
        intro t2 nt2
        have s2 := same_new (o := .tup [oV (some s'), .ref r']) nt2
        have e2 : SqT K (upd H1 t2 (.tup [oV (some s'), .ref r'])) t2 [.int s', .ref r'] := .inl (.inl upd_same)
        have e1 := Z.Same.sqT s2 e1
        have s02 := s1.trans s2
        generalize upd H1 t2 (.tup [oV (some s'), .ref r']) = H2 at s2 e2 e1 s02 ⊢
        walk_at "go"
        refine ⟨t, t2, s0, s', rs, rs', false, rfl, ⟨r, ps, e1, hR.mono s02⟩, ⟨r', ps', e2, hR'.mono s02⟩, ok.1, ok'.1, l1, l2, fun t3 r3 qs3 J H3 s3 e3 hR3 c1 c2 c3 => ?_⟩
        have s03 := s02.trans s3
        have hn3 := s03 _ _ hn
        have hm3 := s03 _ _ hm
        walk_at "go"
        refine ⟨t3, _, rfl, .inl (.inl e3), rfl, _, _, rfl, _, _, rfl, rfl, ?_⟩
        walk_at "go"
        refine ⟨fun σ' H' => H' = H3 ∧ σ' = [some (.ref n), some (.ref m), some (.int (mm false s0 s')), some (.ref r3), some (oV (mmO false nv nv'))], ?_, ?_⟩
        · cases nv with
          | none =>
            cases nv' with
            | none =>
              walk_at "go"
              rfl
            | some y =>
              walk_at "go"
              rfl
          | some x =>
            cases nv' with
            | none =>
              walk_at "go"
              rfl
            | some y =>
              rw [mmO_some]
              walk_at "go"
              refine ite2 (fun e => ?_) (fun e => ?_)
              · have c := of_decide_eq_true e
                rw [show mm false x y = y by unfold mm; simp; omega]
                walk_at "go"
                rfl
              · have c : ¬ y > x := fun z => e (decide_eq_true z)
                rw [show mm false x y = x by unfold mm; simp; omega]
                exact ⟨rfl, rfl⟩
        rintro σ' H4 ⟨e4, rfl⟩
        rw [e4]
        clear e4 H4
        have okJ := ok_comb ok ok' c1 c2
        walk_at "go"
        refine ⟨false, false, some (mm false s0 s'), _, r3, qs3, J, rfl, hR3, by omega, okJ, fun p H4 s4 _ hP => ?_⟩
        refine q p H4 _ _ _ (s03.trans s4) hP okJ (fun k hk => ?_) c3
        cases k with
        | none => rfl
        | some k =>
          show some (mm false s0 s' + Fs J k) = mmO false (some (s0 + Fs rs k)) (some (s' + Fs rs' k))
          rw [mmO_some, c2 k (hk k rfl)]
end
end Z
set_option pp.maxSteps 700
set_option Elab.async false
set_option linter.all false
set_option maxRecDepth 100000
set_option maxHeartbeats 4000000
namespace Z
open Nd
open PySem PySem.Spec PyProof.Rows L2
open C8 (pss_cut tCut)
local macro_rules | `(tactic| walk_at "num") => `(tactic| first | rfl | omega | decide | exact Nat.le_of_lt (small1000 (by simp)) | exact ⟨by omega, by omega⟩ | exact ⟨by omega, by omega, by omega⟩ | exact ⟨by decide, by decide, by decide⟩ | exact Or.inl ⟨by omega, by omega⟩ | exact Or.inr ⟨by omega, by omega⟩)
local macro_rules | `(tactic| walk_at "go") => `(tactic| repeat (first | refine ⟨_, rfl, ?_⟩ | refine ⟨_, _, rfl, rfl, ?_⟩ | refine ⟨_, _, rfl, ?_⟩ | refine ⟨_, _, rfl, rfl, (by walk_at "num"), ?_⟩ | refine Or.inl ⟨_, rfl, ?_⟩ | refine ⟨_, _, _, _, rfl, rfl, (by assumption), (by rfl), ?_⟩ | refine ⟨_, _, _, _, _, rfl, (by assumption), (by assumption), (by assumption), (by rfl), ?_⟩ | refine ⟨rfl, ?_⟩ | refine And.intro (by walk_at "num") ?_))
section
variable {P : Program} {w : World} {K : PySem.W.Frag} {mg : Str → Option Value} {base : Heap} {f C CB CH : Addr} {fd : FuncData}
theorem ok_id : Ok (some 0) [(0, none)] none := ⟨⟨by decide, rfl⟩, fun s e => by cases e; exact Int.le_refl _, nofun⟩
theorem val_id {k : Option Int} (h : okk k) : val (some 0) [(0, none)] none k = k := by
  cases k with
  | none => rfl
  | some i =>
    have := h i rfl
    show some (0 + Fs [(0, none)] i) = some i
    rw [Fs_cons, Fs_nil]
    congr 1
    unfold rise
    dsimp only
    split <;> omega
theorem okk_it {st nv : Option Int} {rs : Rs} (ok : Ok st rs nv) {k : Option Int} (hk : okk k) : ∀ n, okk (itN (val st rs nv) n k)
  | 0 => hk
  | n + 1 => okk_val ok
def spMul (C CB : Addr) (K : PySem.W.Frag) : Sp := fun vs H Q E => ∃ (n : Addr) (c : Int) (st nv : Option Int) (rs : Rs), vs = [.ref n, .int c] ∧ NeedAt C K H n st rs nv ∧ Ok st rs nv ∧
  (0 ≤ c → c ≤ 400 → rs.length * c.toNat + rs.length + 1 ≤ 50000 ∧ ∀ p H' st2 rs2 nv2, Same H H' → NeedAt C K H' p st2 rs2 nv2 → Ok st2 rs2 nv2 → (∀ k, okk k → val st2 rs2 nv2 k = itN (val st rs nv) c.toNat k) → rs2.length ≤ rs.length * c.toNat + 1 → Q (.ref p) H') ∧
  (c < 0 ∨ 400 < c → ∀ d, H d = none → E (.ref CB) (some d) (upd H d (.xd [("value", .int c)])))
theorem ok_mul (F : FnM K "__mul__" "Need.__mul__" s_Need___mul__ f fd) {tok : Tok} (g_MOST_TIMES : mg "MOST_TIMES" = some (.int 400 tok)) (m_range : mg "range" = none) (x_BadCount : Exn P w K mg base "BadCount" CB "value") (k_Need : Mak P w K mg base 2 "Need" (spNeed C K)) (o_rshift : Bin2 P w K mg base 4 C "__rshift__" (spRsh C K)) : FnOk P w K mg base (L2.CX P w) 5 f fd P_Need___mul__ (spMul C CB K) := by
  refine F.ok sc_Need___mul__ (fun vs H Q E h => ?_) (fun cdv A outer s H vs Q E hr h => ?_)
  · obtain ⟨n, c, st, nv, rs, rfl, _⟩ := h
    rfl
  · obtain ⟨n, c, st, nv, rs, rfl, hN, ok, q, qe⟩ := h
    have tk := takes_fn (P := P) (w := w) (K := K) (mg := mg) (base := base) (N := N_Need___mul__) (qual := "Need.__mul__") (scope := defScope s_Need___mul__) (f := f) (cd := cdv) (A := A) (outer := outer) (s := s) (H := H) (E := E)
    refine ⟨_, (pss_cut (ps_if (PW.pt (pw_or (pt_cmpR op_lt (pv 1) pe_int (nomark _)) (pw_or1 (pt_cmpR op_gt (pv 1) (pe_glob (v := .int 400) (by rfl) g_MOST_TIMES ⟨_, rfl⟩) (nomark _))))) (pss_one (ps_exn rfl tk x_BadCount hr (by decide) (by rfl) (pa_cons (pv 1) pa_nil))) pss_nil)
      (pss_cons (ps_set (i := 2) sc_Need___mul__.nd rfl (by first | exact .inl rfl | exact .inr rfl) (pe_mk k_Need hr (by decide) (by rfl) (pa_cons pe_int (pa_cons (pe_tup (pa_cons (pe_tup (pa_cons pe_int (pa_cons pe_non pa_nil))) pa_nil)) (pa_cons pe_non pa_nil)))))
      (pss_cons (ps_for (passes_of rfl) rfl (pi_range1 (by rfl) m_range (pa_cons (pv 1) pa_nil)) (pg_name (i := 3) sc_Need___mul__.nd rfl (by first | exact .inl rfl | exact .inr rfl))
        (pss_one (ps_set (i := 2) sc_Need___mul__.nd rfl (by first | exact .inl rfl | exact .inr rfl) (pe_op (op_bin o_rshift hr (by decide)) (pv 0) (pv 2)))))
      (pss_one (ps_ret (pv 2)))))), ?_⟩
    refine cut_fact (p := 0 ≤ c ∧ c ≤ 400) ?_ ?_
    · walk_at "go"
      refine ite2 (fun e => ?_) (fun e => ?_)
      · have := of_decide_eq_true e
        walk_at "go"
        exact mkx_of (qe (.inl this))
      · have h1 : ¬ c < 0 := fun z => e (decide_eq_true z)
        walk_at "go"
        refine ite2 (fun e => ?_) (fun e => ?_)
        · have := of_decide_eq_true e
          walk_at "go"
          exact mkx_of (qe (.inr this))
        · have h2 : ¬ c > 400 := fun z => e (decide_eq_true z)
          exact ⟨rfl, rfl, by omega, by omega⟩
    rintro ⟨h0, h4⟩
    obtain ⟨hb, q⟩ := q h0 h4
    clear qe
    walk_at "go"
    intro t1 n1
    have s1 := same_new (o := .tup [.int 0, .non]) n1
    have e1 : SqT K (upd H t1 (.tup [.int 0, .non])) t1 [.int 0, .non] := .inl (.inl upd_same)
    generalize upd H t1 (.tup [.int 0, .non]) = H1 at s1 e1 ⊢
    walk_at "go"
    intro t2 n2
    have s2 := same_new (o := .tup [.ref t1]) n2
    have e2 : SqT K (upd H1 t2 (.tup [.ref t1])) t2 ([t1].map V.ref) := .inl (.inl upd_same)
    have e1 := Z.Same.sqT s2 e1
    have s02 := s1.trans s2
    generalize upd H1 t2 (.tup [.ref t1]) = H2 at s2 e1 e2 s02 ⊢
    have hR : Ris false false K H2 t2 [t1] [(0, none)] := ⟨e2, rfl, fun i p z h1 h2 => by
      cases i with
      | zero =>
        cases h1
        cases h2
        exact e1
      | succ i => cases h1⟩
    walk_at "go"
    refine ⟨false, false, some 0, none, t2, [t1], [(0, none)], rfl, hR, by decide, ok_id, fun p H3 s3 _ hP => ?_⟩
    walk_at "go"
    refine for_gen (n := c.toNat) (fun i σ H4 => Same H H4 ∧ ∃ (p : Addr) (st2 nv2 : Option Int) (rs2 : Rs) (v3 : Option V), NeedAt C K H4 p st2 rs2 nv2 ∧ Ok st2 rs2 nv2 ∧ (∀ k, okk k → val st2 rs2 nv2 k = itN (val st rs nv) i k) ∧ rs2.length ≤ rs.length * i + 1 ∧ σ = [some (.ref n), some (.int c), some (.ref p), v3]) ⟨s02.trans s3, p, _, _, _, none, hP, ok_id, fun k hk => val_id hk, by simp, rfl⟩ ?_ ?_ ?_ ?_
    · intro i σ H4 hi _
      exact hi
    · intro σ H4 _
      exact Nat.le_refl _
    · rintro i σ H4 x H' hi ⟨s4, p, st2, nv2, rs2, v3, hP, ok2, hv, hl, rfl⟩ ⟨rfl, rfl⟩
      have hN4 := hN.mono s4
      have hN5 := hN4
      have hP5 := hP
      obtain ⟨dx, r, ps, hn, _⟩ := hN5
      obtain ⟨dy, r2, ps2, hp, _⟩ := hP5
      walk_at "go"
      have hpw : rs.length + rs2.length ≤ rs.length * (i + 1) + 1 := by
        rw [Nat.mul_add, Nat.mul_one]
        omega
      have hpm : rs.length * (i + 1) ≤ rs.length * c.toNat := Nat.mul_le_mul_left _ hi
      refine ⟨n, p, dx, dy, _, _, rfl, rfl, hn, hp, n, p, st, nv, st2, nv2, rs, rs2, rfl, hN4, hP, ok, ok2, by omega, fun p5 H5 st5 rs5 nv5 s5 hP5 ok5 hv5 hl5 => ?_⟩
      refine ⟨p5, rfl, ?_⟩
      walk_at "go"
      refine ⟨s4.trans s5, p5, st5, nv5, rs5, _, hP5, ok5, fun k hk => ?_, Nat.le_trans hl5 hpw, rfl⟩
      rw [hv5 k hk, hv k hk]
      rfl
    · rintro σ H4 ⟨s4, p, st2, nv2, rs2, v3, hP, ok2, hv, hl, rfl⟩
      walk_at "go"
      exact q p H4 st2 rs2 nv2 s4 hP ok2 hv hl
end
end Z
set_option pp.maxSteps 700
set_option Elab.async false
set_option linter.all false
set_option maxRecDepth 100000
set_option maxHeartbeats 4000000
namespace Z
open Nd
open PySem PySem.Spec PyProof.Rows L2
open C8 (pss_cut tCut)
local macro_rules | `(tactic| walk_at "num") => `(tactic| first | rfl | omega | decide | exact Nat.le_of_lt (small1000 (by simp)) | exact ⟨by omega, by omega⟩ | exact ⟨by omega, by omega, by omega⟩ | exact ⟨by decide, by decide, by decide⟩ | exact Or.inl ⟨by omega, by omega⟩ | exact Or.inr ⟨by omega, by omega⟩)
local macro_rules | `(tactic| walk_at "go") => `(tactic| repeat (first | refine ⟨_, rfl, ?_⟩ | refine ⟨_, _, rfl, rfl, ?_⟩ | refine ⟨_, _, rfl, ?_⟩ | refine ⟨_, _, rfl, rfl, (by walk_at "num"), ?_⟩ | refine Or.inl ⟨_, rfl, ?_⟩ | refine ⟨_, _, _, _, rfl, rfl, (by assumption), (by rfl), ?_⟩ | refine ⟨_, _, _, _, _, rfl, (by assumption), (by assumption), (by assumption), (by rfl), ?_⟩ | refine ⟨rfl, ?_⟩ | refine And.intro (by walk_at "num") ?_))
abbrev s_alike : Stmt := topS 26
abbrev N_alike : List Str := ["_law_one", "_law_other", "_law_same"]
abbrev P_alike : List Str := ["_law_one", "_law_other"]
theorem sc_alike : FnScope N_alike P_alike (defScope s_alike) := ⟨rfl, rfl, rfl, by decide +kernel, rfl, by decide +kernel, by decide +kernel⟩
abbrev s_told_equal : Stmt := topS 27
abbrev N_told_equal : List Str := ["_law_f", "_law_g", "_law_same"]
abbrev P_told_equal : List Str := ["_law_f", "_law_g"]
theorem sc_told_equal : FnScope N_told_equal P_told_equal (defScope s_told_equal) := ⟨rfl, rfl, rfl, by decide +kernel, rfl, by decide +kernel, by decide +kernel⟩
theorem oV_dec (a b : Option Int) : decide (oV a = oV b) = decide (a = b) := by
  rw [decide_eq_decide]
  cases a <;> cases b <;> simp [oV]
theorem oV_scal (a b : Option Int) : scal (oV a) (oV b) = true := by
  cases a <;> cases b <;> rfl
theorem eqv_o (a b : Option Int) : PyData.eqv (oD a) (oD b) = decide (a = b) := by
  cases a with
  | none => cases b <;> rfl
  | some x =>
    cases b with
    | none => rfl
    | some y =>
      show PyData.eqv (.int x) (.int y) = _
      rw [PyData.eqv, Bool.eq_iff_iff]
      simp
theorem eqv_pair (p q : Int × Option Int) : PyData.eqv (pairD false p) (pairD false q) = decide (p = q) := by
  show PyData.eqv (.tuple [.int p.1, oD p.2]) (.tuple [.int q.1, oD q.2]) = _
  rw [PyData.eqv, PyData.eqvAll, PyData.eqvAll, PyData.eqvAll, eqv_o, PyData.eqv, Bool.eq_iff_iff]
  obtain ⟨a, b⟩ := p
  obtain ⟨c, d⟩ := q
  simp
theorem eqv_rises : ∀ rs rs' : Rs, PyData.eqvAll (rs.map (pairD false)) (rs'.map (pairD false)) = decide (rs = rs')
  | [], [] => by rw [List.map_nil, PyData.eqvAll]; rfl
  | [], q :: r => by rw [List.map_nil, List.map_cons, PyData.eqvAll]; rfl
  | p :: r, [] => by rw [List.map_nil, List.map_cons, PyData.eqvAll]; rfl
  | p :: r, q :: r' => by
    rw [List.map_cons, List.map_cons, PyData.eqvAll, eqv_pair, eqv_rises r r', Bool.eq_iff_iff]
    simp
theorem eqv_ris (rs rs' : Rs) : PyData.eqv (risD false false rs) (risD false false rs') = decide (rs = rs') := by
  show PyData.eqv (.tuple (rs.map (pairD false))) (.tuple (rs'.map (pairD false))) = _
  rw [PyData.eqv, eqv_rises]
/-! ### a need by its fields -/
structure ND where
  a : Addr
  st : Option Int
  rs : Rs
  nv : Option Int
abbrev ND.v (d : ND) (k : Option Int) : Option Int := val d.st d.rs d.nv k
structure ND.At (C : Addr) (K : PySem.W.Frag) (H : Hp) (L : Nat) (d : ND) : Prop where
  at_ : NeedAt C K H d.a d.st d.rs d.nv
  ok : Ok d.st d.rs d.nv
  len : d.rs.length ≤ L
theorem ND.At.mono {C : Addr} {K : PySem.W.Frag} {H H' : Hp} {L : Nat} {d : ND} (s : Same H H') (h : d.At C K H L) : d.At C K H' L := ⟨h.at_.mono s, h.ok, h.len⟩
theorem ND.At.ins {C : Addr} {K : PySem.W.Frag} {H : Hp} {L : Nat} {d : ND} (h : d.At C K H L) : ∃ dx fs, H d.a = some (.ins C dx fs) := by
  obtain ⟨dx, r, ps, e, _⟩ := h.at_
  exact ⟨dx, _, e⟩
theorem val_none (st nv : Option Int) (rs : Rs) : val st rs nv none = nv := by cases st <;> rfl
theorem okk0 : okk (some 0) := fun i e => by cases e; exact Int.le_refl _
theorem okkN : okk none := fun i e => by cases e
theorem canonV {st st' nv nv' : Option Int} {rs rs' : Rs} (ok : Ok st rs nv) (ok' : Ok st' rs' nv') (h : ∀ k, okk k → val st rs nv k = val st' rs' nv' k) : st = st' ∧ rs = rs' ∧ nv = nv' := by
  have hn := h none okkN
  rw [val_none, val_none] at hn
  cases st with
  | none =>
    obtain ⟨e1, e2⟩ := ok_none ok
    cases st' with
    | none =>
      obtain ⟨e3, e4⟩ := ok_none ok'
      exact ⟨rfl, by rw [e2, e4], hn⟩
    | some s' =>
      have := h (some 0) okk0
      have : nv = some (s' + Fs rs' 0) := this
      rw [e1] at this
      cases this
  | some s =>
    cases st' with
    | none =>
      obtain ⟨e1, e2⟩ := ok_none ok'
      have := h (some 0) okk0
      have : some (s + Fs rs 0) = nv' := this
      rw [e1] at this
      cases this
    | some s' =>
      have h1 : ∀ k, 0 ≤ k → s + Fs rs k = s' + Fs rs' k := fun k hk => Option.some.inj (h (some k) (fun i e => by cases e; exact hk))
      have h0 := h1 0 (Int.le_refl _)
      rw [Fs0 ok.1, Fs0 ok'.1] at h0
      have hs : s = s' := by omega
      refine ⟨by rw [hs], canon ok.1 ok'.1 (fun k hk => ?_), hn⟩
      by_cases c : 0 ≤ k
      · have := h1 k c
        omega
      · rw [Fs_zero ok.1 (by omega), Fs_zero ok'.1 (by omega)]
theorem ND.same {C : Addr} {K : PySem.W.Frag} {H H' : Hp} {L L' : Nat} {d d' : ND} (h : d.At C K H L) (h' : d'.At C K H' L') (e : ∀ k, okk k → d.v k = d'.v k) : d.st = d'.st ∧ d.rs = d'.rs ∧ d.nv = d'.nv := canonV h.ok h'.ok e
theorem am_refl : ∀ a : Option Int, am a a = true
  | none => rfl
  | some a => decide_eq_true (Int.le_refl a)
theorem am_anti {a b : Option Int} (h1 : am a b = true) (h2 : am b a = true) : a = b := by
  cases a with
  | none =>
    cases b with
    | none => rfl
    | some y => cases h1
  | some x =>
    cases b with
    | none => cases h2
    | some y =>
      have h1 := of_decide_eq_true h1
      have h2 := of_decide_eq_true h2
      rw [show x = y by omega]
theorem exc_iff {st st' nv nv' : Option Int} {rs rs' : Rs} {o : Option (Option Int)} (ok : Ok st rs nv) (ok' : Ok st' rs' nv') (h : Exc st rs nv st' rs' nv' o) : o = none ↔ ∀ k, okk k → am (val st rs nv k) (val st' rs' nv' k) = true := by
  cases st with
  | none =>
    obtain ⟨rfl, rfl⟩ := ok_none ok
    cases st' with
    | none =>
      obtain ⟨rfl, rfl⟩ := ok_none ok'
      exact ⟨fun _ k _ => rfl, fun _ => h⟩
    | some s' =>
      have h : o = some (some 0) := h
      rw [h]
      refine ⟨nofun, fun z => ?_⟩
      have := z (some 0) okk0
      cases this
  | some s =>
    cases st' with
    | none =>
      obtain ⟨rfl, rfl⟩ := ok_none ok'
      refine ⟨fun _ k _ => ?_, fun _ => h⟩
      show am _ none = true
      cases val (some s) rs nv k <;> rfl
    | some s' =>
      obtain ⟨p, hp, rfl⟩ := h
      constructor
      · intro e k hk
        cases p with
        | some x => cases e
        | none =>
          have e : (if am nv nv' = true then (none : Option (Option Int)) else some none) = none := e
          have hp : ∀ k, 0 ≤ k → dif s rs s' rs' k ≤ 0 := hp
          cases k with
          | none =>
            rw [val_none, val_none]
            cases c : am nv nv' with
            | true => rfl
            | false =>
              rw [c] at e
              cases e
          | some k =>
            have h1 := hp k (hk k rfl)
            unfold dif at h1
            exact decide_eq_true (show s + Fs rs k ≤ s' + Fs rs' k by omega)
      · intro z
        have z1 := z none okkN
        rw [val_none, val_none] at z1
        cases p with
        | none =>
          show (if am nv nv' = true then (none : Option (Option Int)) else some none) = none
          rw [if_pos z1]
        | some x =>
          obtain ⟨hx, hp2, _⟩ := hp
          have h2 := z (some x) (fun i e => by cases e; exact hx)
          have h2 : s + Fs rs x ≤ s' + Fs rs' x := of_decide_eq_true h2
          unfold dif at hp2
          omega
section
variable {P : Program} {w : World} {K : PySem.W.Frag} {mg : Str → Option Value} {base : Heap} {f C CB CH : Addr} {fd : FuncData}
def sameB (d d' : ND) : Bool := decide (d.st = d'.st) && (decide (d.rs = d'.rs) && decide (d.nv = d'.nv))
def spEqG (C : Addr) (K : PySem.W.Frag) : Sp := fun vs H Q _ => ∃ (d d' : ND) (L L' : Nat), vs = [.ref d.a, .ref d'.a] ∧ d.At C K H L ∧ d'.At C K H L' ∧ Q (.bl (sameB d d')) H
theorem ok_eqG (F : FnM K "__eq__" "Need.__eq__" s_Need___eq__ f fd) (isC : C8.InsC K C) (m_isinstance : mg "isinstance" = none) (g_Need : mg "Need" = some (.ref C)) (cls : Cls K C) (n_start : NoAttr K C "start") (n_rises : NoAttr K C "rises") (n_never : NoAttr K C "never") : FnOk P w K mg base CX0 1 f fd P_Need___eq__ (spEqG C K) := by
  refine F.ok sc_Need___eq__ (fun vs H Q E h => ?_) (fun cdv A outer s H vs Q E hr h => ?_)
  · obtain ⟨d, d', L, L', rfl, _⟩ := h
    rfl
  · obtain ⟨d, d', L, L', rfl, hd, hd', q⟩ := h
    obtain ⟨dx, r, ps, hn, hR, _⟩ := id hd.at_
    obtain ⟨dx', r', ps', hn', hR', _⟩ := id hd'.at_
    refine ⟨_, PSs.nox (pss_one (ps_ret (pe_and (pe_callB (C8.call_isC isC) (by rfl) m_isinstance (by decide +kernel) (pa_cons (pv 1) (pa_cons (pe_glob (by rfl) g_Need relv_ref) pa_nil))) (pe_and (pe_cmpR op_eq (pe_fld (pv 0) rfl) (pe_fld (pv 1) rfl) (nomark _)) (pe_and (pe_cmpR (op_eqD hr.units) (pe_fld (pv 0) rfl) (pe_fld (pv 1) rfl) (nomark _)) (pe_one (pe_cmpR op_eq (pe_fld (pv 0) rfl) (pe_fld (pv 1) rfl) (nomark _)))))))), ?_⟩
    unfold sameB at q
    walk_at "go"
    refine ⟨d'.a, dx', _, rfl, hn', ?_⟩
    walk_at "go"
    refine ⟨oV_scal _ _, ?_⟩
    rw [oV_dec]
    walk_at "go"
    refine ite2 (fun e => ?_) (fun e => ?_)
    rotate_left
    · rw [Bool.eq_false_iff.mpr e] at q
      exact q
    rw [e] at q
    walk_at "go"
    refine ⟨_, _, hR.dp, hR'.dp, shaped_ris _ _ _, shaped_ris _ _ _, ?_⟩
    rw [eqv_ris]
    walk_at "go"
    refine ite2 (fun e => ?_) (fun e => ?_)
    rotate_left
    · rw [Bool.eq_false_iff.mpr e] at q
      exact q
    rw [e] at q
    walk_at "go"
    refine ⟨oV_scal _ _, ?_⟩
    rw [oV_dec]
    exact q
end
end Z
set_option pp.maxSteps 700
set_option Elab.async false
set_option linter.all false
set_option maxRecDepth 100000
set_option maxHeartbeats 4000000
namespace Z
open Nd
open PySem PySem.Spec PyProof.Rows L2
open C8 (pss_cut tCut)
local macro_rules | `(tactic| walk_at "num") => `(tactic| first | rfl | omega | decide | exact Nat.le_of_lt (small1000 (by simp)) | exact ⟨by omega, by omega⟩ | exact ⟨by omega, by omega, by omega⟩ | exact ⟨by decide, by decide, by decide⟩ | exact Or.inl ⟨by omega, by omega⟩ | exact Or.inr ⟨by omega, by omega⟩)
local macro_rules | `(tactic| walk_at "go") => `(tactic| repeat (first | refine ⟨_, rfl, ?_⟩ | refine ⟨_, _, rfl, rfl, ?_⟩ | refine ⟨_, _, rfl, ?_⟩ | refine ⟨_, _, rfl, rfl, (by walk_at "num"), ?_⟩ | refine Or.inl ⟨_, rfl, ?_⟩ | refine ⟨_, _, _, _, rfl, rfl, (by assumption), (by rfl), ?_⟩ | refine ⟨_, _, _, _, _, rfl, (by assumption), (by assumption), (by assumption), (by rfl), ?_⟩ | refine ⟨rfl, ?_⟩ | refine And.intro (by walk_at "num") ?_))
theorem exD_ok {K : PySem.W.Frag} {H : Hp} {t : Addr} {o : Option (Option Int)} (h : H t = some (.tup (exV o))) : ∃ ds, Dp K H (.ref t) (.tuple ds) ∧ SeqAt.shaped (.tuple ds) = true ∧ PyData.eqv (.tuple ds) (.tuple []) = o.isNone := by
  cases o with
  | none => exact ⟨[], .tup (.inl (.inl h)) .nil, rfl, by rw [PyData.eqv, PyData.eqvAll]; rfl⟩
  | some o =>
    refine ⟨[oD o], .tup (.inl (.inl h)) (.cons (dp_o o) .nil), ?_, by rw [PyData.eqv, PyData.eqvAll]; rfl⟩
    cases o with
    | none => decide +kernel
    | some x => exact shaped_ints false [x]
theorem told_both {C : Addr} {K : PySem.W.Frag} {H : Hp} {L L' : Nat} {d d' : ND} {o o2 : Option (Option Int)} (h : d.At C K H L) (h' : d'.At C K H L') (x1 : Exc d.st d.rs d.nv d'.st d'.rs d'.nv o) (x2 : Exc d'.st d'.rs d'.nv d.st d.rs d.nv o2) : (o.isNone && o2.isNone) = sameB d d' := by
  rw [Bool.eq_iff_iff]
  unfold sameB
  simp only [Bool.and_eq_true, Option.isNone_iff_eq_none, decide_eq_true_eq]
  rw [exc_iff h.ok h'.ok x1, exc_iff h'.ok h.ok x2]
  constructor
  · rintro ⟨a, b⟩
    exact ND.same h h' (fun k hk => am_anti (a k hk) (b k hk))
  · rintro ⟨e1, e2, e3⟩
    rw [e1, e2, e3]
    exact ⟨fun k _ => am_refl _, fun k _ => am_refl _⟩
section
variable {P : Program} {w : World} {K : PySem.W.Frag} {mg : Str → Option Value} {base : Heap} {f C CB CH : Addr} {fd : FuncData}
def spAlike (C : Addr) (K : PySem.W.Frag) : Sp := fun vs H Q _ => ∃ (d d' : ND) (L L' : Nat), vs = [.ref d.a, .ref d'.a] ∧ d.At C K H L ∧ d'.At C K H L' ∧ (∀ k, okk k → d.v k = d'.v k) ∧ Q (.bl true) H
theorem ok_alike (F : FnP K "_law_alike" s_alike f fd) (isC : C8.InsC K C) (m_isinstance : mg "isinstance" = none) (g_Need : mg "Need" = some (.ref C)) (cls : Cls K C) (n_start : NoAttr K C "start") (n_rises : NoAttr K C "rises") (n_never : NoAttr K C "never") (e_Need : Eqo P w K mg base 1 C (spEqG C K)) : FnOk P w K mg base CX0 2 f fd P_alike (spAlike C K) := by
  refine F.ok sc_alike (fun vs H Q E h => ?_) (fun cdv A outer s H vs Q E hr h => ?_)
  · obtain ⟨d, d', L, L', rfl, _⟩ := h
    rfl
  · obtain ⟨d, d', L, L', rfl, hd, hd', hv, q⟩ := h
    obtain ⟨e1, e2, e3⟩ := ND.same hd hd' hv
    obtain ⟨dx, r, ps, hn, hR, _⟩ := id hd.at_
    obtain ⟨dx', r', ps', hn', hR', _⟩ := id hd'.at_
    refine ⟨_, PSs.nox (pss_cons (ps_if (PW.pt (pw_or (pt_not (pt_val (pe_callB (C8.call_isC isC) (by rfl) m_isinstance (by decide +kernel) (pa_cons (pv 0) (pa_cons (pe_glob (by rfl) g_Need relv_ref) pa_nil))))) (pw_or1 (pt_not (pt_val (pe_callB (C8.call_isC isC) (by rfl) m_isinstance (by decide +kernel) (pa_cons (pv 1) (pa_cons (pe_glob (by rfl) g_Need relv_ref) pa_nil)))))))) (pss_one (ps_ret pe_bl)) pss_nil)
      (pss_cons (ps_set (i := 2) sc_alike.nd rfl (by first | exact .inl rfl | exact .inr rfl) (pe_and (pe_cmpR op_eq (pe_fld (pv 0) rfl) (pe_fld (pv 1) rfl) (nomark _)) (pe_and (pe_cmpR (op_eqD hr.units) (pe_fld (pv 0) rfl) (pe_fld (pv 1) rfl) (nomark _)) (pe_one (pe_cmpR op_eq (pe_fld (pv 0) rfl) (pe_fld (pv 1) rfl) (nomark _))))))
      (pss_one (ps_ret (pe_and (pv 2) (pe_one (pe_cmpR (op_own e_Need hr (by decide)) (pv 0) (pv 1) (nomark _)))))))), ?_⟩
    walk_at "go"
    refine ⟨d.a, dx, _, rfl, hn, ?_⟩
    walk_at "go"
    refine ⟨d'.a, dx', _, rfl, hn', ?_⟩
    walk_at "go"
    refine ⟨oV_scal _ _, ?_⟩
    rw [oV_dec, decide_eq_true e1]
    walk_at "go"
    refine ⟨_, _, hR.dp, hR'.dp, shaped_ris _ _ _, shaped_ris _ _ _, ?_⟩
    rw [eqv_ris, decide_eq_true e2]
    walk_at "go"
    refine ⟨oV_scal _ _, ?_⟩
    rw [oV_dec, decide_eq_true e3]
    walk_at "go"
    refine ⟨d.a, d'.a, dx, dx', _, _, rfl, rfl, hn, hn', d, d', L, L', rfl, hd, hd', _, rfl, ?_⟩
    have e4 : sameB d d' = true := by
      unfold sameB
      rw [decide_eq_true e1, decide_eq_true e2, decide_eq_true e3]
      rfl
    rw [e4]
    exact q
def spTold (C : Addr) (K : PySem.W.Frag) : Sp := fun vs H Q _ => ∃ (d d' : ND), vs = [.ref d.a, .ref d'.a] ∧ d.At C K H 20000 ∧ d'.At C K H 20000 ∧ ∀ H', Same H H' → Q (.bl true) H'
theorem ok_told_equal (F : FnP K "_law_told_equal" s_told_equal f fd) (cls : Cls K C) (n_start : NoAttr K C "start") (n_rises : NoAttr K C "rises") (n_never : NoAttr K C "never") (e_Need : Eqo P w K mg base 1 C (spEqG C K)) (me_excess : Met P w K mg base 3 C "excess" (spExcess C K)) : FnOk P w K mg base CX0 4 f fd P_told_equal (spTold C K) := by
  refine F.ok sc_told_equal (fun vs H Q E h => ?_) (fun cdv A outer s H vs Q E hr h => ?_)
  · obtain ⟨d, d', rfl, _⟩ := h
    rfl
  · obtain ⟨d, d', rfl, hd, hd', q⟩ := h
    obtain ⟨dx, r, ps, hn, hR, _⟩ := id hd.at_
    obtain ⟨dx', r', ps', hn', hR', _⟩ := id hd'.at_
    refine ⟨_, PSs.nox (pss_cut (ps_set (i := 2) sc_told_equal.nd rfl (by first | exact .inl rfl | exact .inr rfl) (pe_and (pe_cmpR op_eq (pe_fld (pv 0) rfl) (pe_fld (pv 1) rfl) (nomark _)) (pe_and (pe_cmpR (op_eqD hr.units) (pe_fld (pv 0) rfl) (pe_fld (pv 1) rfl) (nomark _)) (pe_one (pe_cmpR op_eq (pe_fld (pv 0) rfl) (pe_fld (pv 1) rfl) (nomark _))))))
      (pss_one (ps_ret (pe_and (pe_cmpR op_eq (pe_cmpR (op_own e_Need hr (by decide)) (pv 0) (pv 1) (nomark _)) (pv 2) (nomark _)) (pe_one (pe_cmpR op_eq (pe_and (pe_cmpR (op_eqD hr.units) (pe_me me_excess (pv 0) hr (by decide) (pa_cons (pv 1) pa_nil)) (pe_tup pa_nil) (nomark _)) (pe_one (pe_cmpR (op_eqD hr.units) (pe_me me_excess (pv 1) hr (by decide) (pa_cons (pv 0) pa_nil)) (pe_tup pa_nil) (nomark _)))) (pv 2) (nomark _))))))), ?_⟩
    refine ⟨fun σ' H' => H' = H ∧ σ' = [some (.ref d.a), some (.ref d'.a), some (.bl (sameB d d'))], ?_, ?_⟩
    · unfold sameB
      walk_at "go"
      refine ⟨oV_scal _ _, ?_⟩
      rw [oV_dec]
      walk_at "go"
      refine ite2 (fun e => ?_) (fun e => ?_)
      rotate_left
      · rw [Bool.eq_false_iff.mpr e]
        exact ⟨rfl, rfl⟩
      rw [e]
      walk_at "go"
      refine ⟨_, _, hR.dp, hR'.dp, shaped_ris _ _ _, shaped_ris _ _ _, ?_⟩
      rw [eqv_ris]
      walk_at "go"
      refine ite2 (fun e => ?_) (fun e => ?_)
      rotate_left
      · rw [Bool.eq_false_iff.mpr e]
        exact ⟨rfl, rfl⟩
      rw [e]
      walk_at "go"
      refine ⟨oV_scal _ _, ?_⟩
      rw [oV_dec]
      exact ⟨rfl, rfl⟩
    rintro σ' H1 ⟨e1, rfl⟩
    rw [e1]
    clear e1 H1
    walk_at "go"
    refine ⟨d.a, d'.a, dx, dx', _, _, rfl, rfl, hn, hn', d, d', _, _, rfl, hd, hd', _, rfl, ?_⟩
    walk_at "go"
    refine ite2 (fun _ => ?_) (fun e => absurd (decide_eq_true rfl) e)
    walk_at "go"
    refine ⟨d.a, dx, _, rfl, hn, rfl, ?_⟩
    walk_at "go"
    refine ⟨d.st, d'.st, d.nv, d'.nv, d.a, d'.a, d.rs, d'.rs, rfl, hd.at_, hd'.at_, hd.ok, hd'.ok, hd.len, hd'.len, fun t H1 o s1 e1 x1 => ?_⟩
    walk_at "go"
    intro t2 n2
    have s2 := same_new (o := .tup []) n2
    obtain ⟨ds, k1, k2, k3⟩ := exD_ok (K := K) (s2 _ _ e1)
    refine ⟨_, .tuple [], k1, .tup (.inl (.inl upd_same)) .nil, k2, rfl, ?_⟩
    rw [k3]
    have s02 := s1.trans s2
    generalize upd H1 t2 (.tup []) = H2 at s02 ⊢
    walk_at "go"
    refine ite2 (fun eo => ?_) (fun eo => ?_)
    · have hd2 := hd.mono s02
      have hd2' := hd'.mono s02
      walk_at "go"
      refine ⟨d'.a, dx', _, rfl, s02 _ _ hn', rfl, ?_⟩
      walk_at "go"
      refine ⟨d'.st, d.st, d'.nv, d.nv, d'.a, d.a, d'.rs, d.rs, rfl, hd2'.at_, hd2.at_, hd'.ok, hd.ok, hd'.len, hd.len, fun t3 H3 o2 s3 e3 x3 => ?_⟩
      walk_at "go"
      intro t4 n4
      have s4 := same_new (o := .tup []) n4
      obtain ⟨ds, k1, k2, k3⟩ := exD_ok (K := K) (s4 _ _ e3)
      refine ⟨_, .tuple [], k1, .tup (.inl (.inl upd_same)) .nil, k2, rfl, ?_⟩
      rw [k3]
      have hb := told_both hd hd' x1 x3
      rw [eo, Bool.true_and] at hb
      rw [hb]
      walk_at "go"
      rw [decide_eq_true rfl]
      exact q _ (s02.trans (s3.trans s4))
    · have eo : o.isNone = false := Bool.eq_false_iff.mpr eo
      have hb : sameB d d' = false := by
        cases c : sameB d d' with
        | false => rfl
        | true =>
          unfold sameB at c
          simp only [Bool.and_eq_true, decide_eq_true_eq] at c
          obtain ⟨c1, c2, c3⟩ := c
          have := (exc_iff hd.ok hd'.ok x1).mpr (fun k _ => by rw [c1, c2, c3]; exact am_refl _)
          rw [this] at eo
          cases eo
      rw [hb]
      walk_at "go"
      rw [decide_eq_true rfl]
      exact q _ s02
end
end Z
set_option pp.maxSteps 700
set_option Elab.async false
set_option linter.all false
set_option maxRecDepth 100000
set_option maxHeartbeats 4000000
namespace Z
open Nd
open PySem PySem.Spec PyProof.Rows L2
open C8 (pss_cut tCut)
local macro_rules | `(tactic| walk_at "num") => `(tactic| first | rfl | omega | decide | exact Nat.le_of_lt (small1000 (by simp)) | exact ⟨by omega, by omega⟩ | exact ⟨by omega, by omega, by omega⟩ | exact ⟨by decide, by decide, by decide⟩ | exact Or.inl ⟨by omega, by omega⟩ | exact Or.inr ⟨by omega, by omega⟩)
local macro_rules | `(tactic| walk_at "go") => `(tactic| repeat (first | refine ⟨_, rfl, ?_⟩ | refine ⟨_, _, rfl, rfl, ?_⟩ | refine ⟨_, _, rfl, ?_⟩ | refine ⟨_, _, rfl, rfl, (by walk_at "num"), ?_⟩ | refine Or.inl ⟨_, rfl, ?_⟩ | refine ⟨_, _, _, _, rfl, rfl, (by assumption), (by rfl), ?_⟩ | refine ⟨_, _, _, _, _, rfl, (by assumption), (by assumption), (by assumption), (by rfl), ?_⟩ | refine ⟨rfl, ?_⟩ | refine And.intro (by walk_at "num") ?_))
/-! ### lattice -/
theorem mt_l (a : Option Int) : mmO true none a = a := smO_l a
theorem mt_r (a : Option Int) : mmO true a none = a := smO_r a
theorem mf_l (a : Option Int) : mmO false none a = none := grO_l a
theorem mf_r (a : Option Int) : mmO false a none = none := grO_r a
theorem mm_idem (sm : Bool) (a : Option Int) : mmO sm a a = a := by
  cases a with
  | none => cases sm <;> rfl
  | some x =>
    rw [mmO_some]
    unfold mm
    congr 1
    split <;> omega
theorem mm_comm (sm : Bool) (a b : Option Int) : mmO sm a b = mmO sm b a := by
  cases sm <;> cases a <;> cases b <;> simp only [mt_l, mt_r, mf_l, mf_r, mmO_some] <;> (unfold mm; simp only [Bool.false_eq_true, if_false, if_true]; congr 1; omega)
theorem mm_assoc (sm : Bool) (a b c : Option Int) : mmO sm (mmO sm a b) c = mmO sm a (mmO sm b c) := by
  cases sm <;> cases a <;> cases b <;> cases c <;> simp only [mt_l, mt_r, mf_l, mf_r, mmO_some] <;> (unfold mm; simp only [Bool.false_eq_true, if_false, if_true]; congr 1; omega)
theorem mm_abs1 (a b : Option Int) : mmO true a (mmO false a b) = a := by
  cases a <;> cases b <;> simp only [mt_l, mt_r, mf_l, mf_r, mmO_some] <;> (unfold mm; simp only [Bool.false_eq_true, if_false, if_true]; congr 1; omega)
theorem mm_abs2 (a b : Option Int) : mmO false a (mmO true a b) = a := by
  cases a <;> cases b <;> simp only [mt_l, mt_r, mf_l, mf_r, mmO_some] <;> (unfold mm; simp only [Bool.false_eq_true, if_false, if_true]; congr 1; omega)
theorem mm_dist (a b c : Option Int) : mmO false a (mmO true b c) = mmO true (mmO false a b) (mmO false a c) := by
  cases a <;> cases b <;> cases c <;> simp only [mt_l, mt_r, mf_l, mf_r, mmO_some] <;> (unfold mm; simp only [Bool.false_eq_true, if_false, if_true]; congr 1; omega)
theorem ND.At.okv {C : Addr} {K : PySem.W.Frag} {H : Hp} {L : Nat} {d : ND} (h : d.At C K H L) (k : Option Int) : okk (d.v k) := okk_val h.ok
/-! ### mine, theirs, endless as functions -/
theorem unb {s : Int} {rs : Rs} {nv : Option Int} (ok : Ok (some s) rs nv) (h : ∀ y, 0 ≤ y → y ≤ s + Fs rs y) : nv = none := by
  cases nv with
  | none => rfl
  | some v =>
    have hv := ok_nvpos ok v rfl
    have h1 := ok_vals (t := 0) ok rfl (v + 1)
    have h2 := h (v + 1) (by omega)
    omega
theorem val_mine {nv : Option Int} {p : Int} (hp : 1 ≤ p) {i : Int} (hi : 0 ≤ i) : val (some 0) (if p > 1 then [(0, some (p - 1))] else []) nv (some i) = some (min i (p - 1)) := by
  show some (0 + Fs (if p > 1 then [(0, some (p - 1))] else []) i) = _
  congr 1
  by_cases c : p > 1
  · rw [if_pos c, Fs_cons, Fs_nil]
    unfold rise
    dsimp only
    (repeat' split) <;> omega
  · rw [if_neg c, Fs_nil]
    omega
theorem val_theirs {p i : Int} : val (some p) [(p, none)] none (some i) = some (max p i) := by
  show some (p + Fs [(p, none)] i) = _
  congr 1
  rw [Fs_cons, Fs_nil]
  unfold rise
  dsimp only
  split <;> omega
theorem val_const (p k : Option Int) : val p [] p k = p := by
  cases p with
  | none => rfl
  | some x =>
    cases k with
    | none => rfl
    | some i =>
      show some (x + Fs [] i) = some x
      rw [Fs_nil, Int.add_zero]
section
variable {st nv : Option Int} {rs : Rs}
abbrev vN (n : Nn) (k : Option Int) : Option Int := val n.1 n.2.1 n.2.2 k
theorem mine_idem (ok : Ok st rs nv) {k : Option Int} (hk : okk k) : vN (mineP nv (pt 1 st rs)) (vN (mineP nv (pt 1 st rs)) k) = vN (mineP nv (pt 1 st rs)) k := by
  cases e : pt 1 st rs with
  | none =>
    show val (some 0) [(0, none)] none (val (some 0) [(0, none)] none k) = val (some 0) [(0, none)] none k
    rw [val_id hk, val_id hk]
  | some p =>
    have hp := pt_pos1 ok e
    show val (some 0) (if p > 1 then [(0, some (p - 1))] else []) (nv.map fun _ => p - 1) (val (some 0) (if p > 1 then [(0, some (p - 1))] else []) (nv.map fun _ => p - 1) k) = val (some 0) (if p > 1 then [(0, some (p - 1))] else []) (nv.map fun _ => p - 1) k
    cases k with
    | none =>
      rw [val_none]
      cases nv with
      | none => rfl
      | some v =>
        show val (some 0) (if p > 1 then [(0, some (p - 1))] else []) (some (p - 1)) (some (p - 1)) = some (p - 1)
        rw [val_mine hp (by omega)]
        congr 1
        omega
    | some i =>
      have hi := hk i rfl
      rw [val_mine hp hi, val_mine hp (by omega)]
      congr 1
      omega
theorem mine_mine (ok : Ok st rs nv) : mineP (mineP nv (pt 1 st rs)).2.2 (pt 1 (mineP nv (pt 1 st rs)).1 (mineP nv (pt 1 st rs)).2.1) = mineP nv (pt 1 st rs) := by
  cases e : pt 1 st rs with
  | none => rfl
  | some p =>
    have hp := pt_pos1 ok e
    have e1 : pt 1 (some 0) (if p > 1 then [(0, some (p - 1))] else []) = some p := by
      show fp (if p > 1 then [(0, some (p - 1))] else []) (0 + 1) 0 = some p
      by_cases c : p > 1
      · rw [if_pos c]
        show (if (0 + 1 : Int) ≤ 0 - 0 then some (0 + (0 + 1)) else fp [] (0 + 1 - (0 - 0)) (p - 1)) = some p
        rw [if_neg (by omega)]
        show some (p - 1 + (0 + 1 - (0 - 0))) = some p
        congr 1
        omega
      · rw [if_neg c]
        show some ((0 : Int) + (0 + 1)) = some p
        congr 1
        omega
    show mineP (nv.map fun _ => p - 1) (pt 1 (some 0) (if p > 1 then [(0, some (p - 1))] else [])) = mineP nv (some p)
    rw [e1]
    show (some 0, _, (nv.map fun _ => p - 1).map fun _ => p - 1) = (some 0, _, nv.map fun _ => p - 1)
    cases nv <;> rfl
theorem mine_le (ok : Ok st rs nv) {k : Option Int} (hk : okk k) : am (vN (mineP nv (pt 1 st rs)) k) (val st rs nv k) = true := by
  have amN : ∀ a : Option Int, am a none = true := fun a => by cases a <;> rfl
  cases st with
  | none =>
    obtain ⟨rfl, rfl⟩ := ok_none ok
    exact amN _
  | some s =>
    have hs := ok.2.1 s rfl
    have z := grt_spec (s := s) (rs := rs) ok.1 hs
    unfold grt at z
    cases e : pt 1 (some s) rs with
    | none =>
      have e : fp rs (s + 1) 0 = none := e
      rw [e] at z
      have z : ∀ y, 0 ≤ y → y ≤ s + Fs rs y := z
      show am (val (some 0) [(0, none)] none k) _ = true
      rw [val_id hk]
      cases k with
      | none =>
        rw [val_none, unb ok z]
        rfl
      | some i => exact decide_eq_true (z i (hk i rfl))
    | some p =>
      have hp := pt_pos1 ok e
      have e : fp rs (s + 1) 0 = some p := e
      rw [e] at z
      have z : 0 ≤ p - 1 ∧ ∀ y, 0 ≤ y → (y ≤ s + Fs rs y ↔ y ≤ p - 1) := z
      have zp := (z.2 (p - 1) z.1).mpr (Int.le_refl _)
      show am (val (some 0) (if p > 1 then [(0, some (p - 1))] else []) (nv.map fun _ => p - 1) k) _ = true
      cases k with
      | none =>
        rw [val_none, val_none]
        cases nv with
        | none => rfl
        | some v =>
          have := ok_vals (t := 0) ok rfl (p - 1)
          exact decide_eq_true (show p - 1 ≤ v by omega)
      | some i =>
        have hi := hk i rfl
        rw [val_mine hp hi]
        refine decide_eq_true (show min i (p - 1) ≤ s + Fs rs i from ?_)
        by_cases c : i ≤ p - 1
        · have := (z.2 i hi).mpr c
          omega
        · have := (Fs_slope (x := p - 1) (y := i) (by omega) ok.1).2.1
          omega
theorem theirs_idem (ok : Ok st rs nv) {k : Option Int} (hk : okk k) : vN (theirsP (pt 0 st rs)) (vN (theirsP (pt 0 st rs)) k) = vN (theirsP (pt 0 st rs)) k := by
  cases e : pt 0 st rs with
  | none => rfl
  | some p =>
    show val (some p) [(p, none)] none (val (some p) [(p, none)] none k) = val (some p) [(p, none)] none k
    cases k with
    | none => rfl
    | some i =>
      rw [val_theirs, val_theirs]
      congr 1
      omega
theorem theirs_theirs (ok : Ok st rs nv) : theirsP (pt 0 (theirsP (pt 0 st rs)).1 (theirsP (pt 0 st rs)).2.1) = theirsP (pt 0 st rs) := by
  cases e : pt 0 st rs with
  | none => rfl
  | some p =>
    have e1 : pt 0 (some p) [(p, none)] = some p := by
      show (if p + 0 ≤ p - 0 then some (0 + (p + 0)) else none) = some p
      rw [if_pos (by omega)]
      congr 1
      omega
    show theirsP (pt 0 (some p) [(p, none)]) = _
    rw [e1]
theorem theirs_ge (ok : Ok st rs nv) {k : Option Int} (hk : okk k) : am (val st rs nv k) (vN (theirsP (pt 0 st rs)) k) = true := by
  have amN : ∀ a : Option Int, am a none = true := fun a => by cases a <;> rfl
  cases st with
  | none => exact amN _
  | some s =>
    have hs := ok.2.1 s rfl
    have z := lst_spec (s := s) (rs := rs) ok.1 hs
    unfold lst at z
    cases e : pt 0 (some s) rs with
    | none => exact amN _
    | some p =>
      rw [pt0] at e
      rw [e] at z
      show am _ (val (some p) [(p, none)] none k) = true
      cases k with
      | none => exact amN _
      | some i =>
        have hi := hk i rfl
        rw [val_theirs]
        refine decide_eq_true (show s + Fs rs i ≤ max p i from ?_)
        by_cases c : p ≤ i
        · have := (z.2 i hi).mpr c
          omega
        · have h1 := (z.2 p z.1).mpr (Int.le_refl _)
          have h2 := (Fs_slope (x := i) (y := p) (by omega) ok.1).2.1
          omega
theorem endless_fix (ok : Ok st rs nv) : val st rs nv (pt 0 st rs) = pt 0 st rs := by
  cases st with
  | none =>
    obtain ⟨rfl, rfl⟩ := ok_none ok
    rfl
  | some s =>
    have hs := ok.2.1 s rfl
    have z := lst_spec (s := s) (rs := rs) ok.1 hs
    unfold lst at z
    rw [pt0]
    cases e : fp rs s 0 with
    | none =>
      rw [e] at z
      have z : ∀ y, 0 ≤ y → y < s + Fs rs y := z
      show nv = none
      exact unb ok (fun y hy => by have := z y hy; omega)
    | some p =>
      rw [e] at z
      show some (s + Fs rs p) = some p
      have h1 := (z.2 p z.1).mpr (Int.le_refl _)
      have h0 := z.1
      congr 1
      by_cases c : p = 0
      · have := ok_pos ok p
        omega
      · have h2 : ¬ s + Fs rs (p - 1) ≤ p - 1 := fun q => by
          have := (z.2 (p - 1) (by omega)).mp q
          omega
        have h3 := (Fs_slope (x := p - 1) (y := p) (by omega) ok.1).2.1
        omega
end
/-! ### readings by the needs themselves -/
section
variable {C CB : Addr} {K : PySem.W.Frag} {H : Hp} {LA LB : Nat} {d1 d2 : ND} {Q : VK}
theorem rd_rsh (h1 : d1.At C K H LA) (h2 : d2.At C K H LB) (hl : LA + LB ≤ 50000) (q : ∀ (d : ND) H', Same H H' → d.At C K H' (LA + LB) → (∀ k, okk k → d.v k = d1.v (d2.v k)) → Q (.ref d.a) H') : rBin C (spRsh C K) (.ref d1.a) (.ref d2.a) H Q := by
  obtain ⟨dx, fs, e1⟩ := h1.ins
  obtain ⟨dy, gs, e2⟩ := h2.ins
  have l1 := h1.len
  have l2 := h2.len
  exact ⟨d1.a, d2.a, dx, dy, _, _, rfl, rfl, e1, e2, d1.a, d2.a, d1.st, d1.nv, d2.st, d2.nv, d1.rs, d2.rs, rfl, h1.at_, h2.at_, h1.ok, h2.ok, by omega, fun p H' st rs nv s a o v l => ⟨p, rfl, q ⟨p, st, rs, nv⟩ H' s ⟨a, o, by dsimp only; omega⟩ v⟩⟩
theorem rd_mm {sm : Bool} (h1 : d1.At C K H LA) (h2 : d2.At C K H LB) (hl : LA + LB ≤ 20000) (q : ∀ (d : ND) H', Same H H' → d.At C K H' (2 * (LA + LB) + 1) → (∀ k, okk k → d.v k = mmO sm (d1.v k) (d2.v k)) → Q (.ref d.a) H') : rBin C (spMM sm C K) (.ref d1.a) (.ref d2.a) H Q := by
  obtain ⟨dx, fs, e1⟩ := h1.ins
  obtain ⟨dy, gs, e2⟩ := h2.ins
  have l1 := h1.len
  have l2 := h2.len
  exact ⟨d1.a, d2.a, dx, dy, _, _, rfl, rfl, e1, e2, d1.a, d2.a, d1.st, d1.nv, d2.st, d2.nv, d1.rs, d2.rs, rfl, h1.at_, h2.at_, h1.ok, h2.ok, by omega, by omega, fun p H' st rs nv s a o v l => ⟨p, rfl, q ⟨p, st, rs, nv⟩ H' s ⟨a, o, by dsimp only; omega⟩ v⟩⟩
theorem rd_mul {n : Nat} {E : L2.St → XK} {σ : L2.St} {ta tb : TE} (h1 : d1.At C K H 5) (hn : n ≤ 20) (ea : ∀ Q : VK, Q (.ref d1.a) H → ta σ H Q) (eb : ∀ Q : VK, Q (.int (n : Int)) H → tb σ H Q) (q : ∀ (d : ND) H', Same H H' → d.At C K H' 200 → (∀ k, okk k → d.v k = itN d1.v n k) → Q (.ref d.a) H') : tOpE C (spMul C CB K) E ta tb σ H Q := by
  obtain ⟨dx, fs, e1⟩ := h1.ins
  have l1 := h1.len
  have en : ((n : Int)).toNat = n := by omega
  have l2 : d1.rs.length * n ≤ 5 * n := Nat.mul_le_mul_right n l1
  refine ea _ (eb _ ⟨d1.a, n, dx, fs, rfl, rfl, e1, d1.a, n, d1.st, d1.nv, d1.rs, rfl, h1.at_, h1.ok, (fun _ _ => ⟨by rw [en]; omega, fun p H' st rs nv s a o v l => ⟨p, rfl, ?_⟩⟩), (fun h => by omega)⟩)
  rw [en] at v l
  exact q ⟨p, st, rs, nv⟩ H' s ⟨a, o, by dsimp only; omega⟩ v
theorem rd_un {R : Option Int → Rs → Option Int → Nn} (h1 : d1.At C K H LA) (hok : Ok (R d1.st d1.rs d1.nv).1 (R d1.st d1.rs d1.nv).2.1 (R d1.st d1.rs d1.nv).2.2) (hln : (R d1.st d1.rs d1.nv).2.1.length ≤ 1) (q : ∀ p H', Same H H' → ND.At C K H' 1 ⟨p, (R d1.st d1.rs d1.nv).1, (R d1.st d1.rs d1.nv).2.1, (R d1.st d1.rs d1.nv).2.2⟩ → Q (.ref p) H') {E : XK} : spUn R C K [.ref d1.a] H Q E := ⟨d1.st, d1.nv, d1.a, d1.rs, rfl, h1.at_, h1.ok, fun n' H' s h => q n' H' s ⟨h, hok, hln⟩⟩
end
theorem mine_len {nv p : Option Int} : (mineP nv p).2.1.length ≤ 1 := by
  cases p with
  | none => exact Nat.le_refl _
  | some p =>
    show (if p > 1 then [((0 : Int), some (p - 1))] else []).length ≤ 1
    split <;> simp
theorem theirs_len {p : Option Int} : (theirsP p).2.1.length ≤ 1 := by
  cases p with
  | none => exact Nat.zero_le _
  | some p => exact Nat.le_refl _
end Z
set_option pp.maxSteps 700
set_option Elab.async false
set_option linter.all false
set_option maxRecDepth 100000
set_option maxHeartbeats 4000000
namespace Z
open Nd
open PySem PySem.Spec PyProof.Rows L2
open C8 (pss_cut tCut)
local macro_rules | `(tactic| walk_at "num") => `(tactic| first | rfl | omega | decide | exact Nat.le_of_lt (small1000 (by simp)) | exact ⟨by omega, by omega⟩ | exact ⟨by omega, by omega, by omega⟩ | exact ⟨by decide, by decide, by decide⟩ | exact Or.inl ⟨by omega, by omega⟩ | exact Or.inr ⟨by omega, by omega⟩)
local macro_rules | `(tactic| walk_at "go") => `(tactic| repeat (first | refine ⟨_, rfl, ?_⟩ | refine ⟨_, _, rfl, rfl, ?_⟩ | refine ⟨_, _, rfl, ?_⟩ | refine ⟨_, _, rfl, rfl, (by walk_at "num"), ?_⟩ | refine Or.inl ⟨_, rfl, ?_⟩ | refine ⟨_, _, _, _, rfl, rfl, (by assumption), (by rfl), ?_⟩ | refine ⟨_, _, _, _, _, rfl, (by assumption), (by assumption), (by assumption), (by rfl), ?_⟩ | refine ⟨rfl, ?_⟩ | refine And.intro (by walk_at "num") ?_))
abbrev s_lattice : Stmt := topS 28
abbrev N_lattice : List Str := ["_law_f", "_law_g", "_law_h"]
abbrev P_lattice : List Str := ["_law_f", "_law_g", "_law_h"]
theorem sc_lattice : FnScope N_lattice P_lattice (defScope s_lattice) := ⟨rfl, rfl, rfl, by decide +kernel, rfl, by decide +kernel, by decide +kernel⟩
section
variable {P : Program} {w : World} {K : PySem.W.Frag} {mg : Str → Option Value} {base : Heap} {fo C CB CH : Addr} {fd : FuncData}
def spLat (C : Addr) (K : PySem.W.Frag) : Sp := fun vs H Q _ => ∃ (f g h : ND), vs = [.ref f.a, .ref g.a, .ref h.a] ∧ f.At C K H 5 ∧ g.At C K H 5 ∧ h.At C K H 5 ∧ ∀ H', Same H H' → Q (.bl true) H'
theorem ok_lattice (F : FnP K "_law_lattice" s_lattice fo fd) (c_alike : Cal P w K mg base 2 "_law_alike" (spAlike C K)) (o_rshift : Bin2 P w K mg base 4 C "__rshift__" (spRsh C K)) (o_or : Bin2 P w K mg base 4 C "__or__" (spMM true C K)) (o_and : Bin2 P w K mg base 4 C "__and__" (spMM false C K)) : FnOk P w K mg base CX0 5 fo fd P_lattice (spLat C K) := by
  refine F.ok sc_lattice (fun vs H Q E h => ?_) (fun cdv A outer s H vs Q E hr h => ?_)
  · obtain ⟨f, g, h, rfl, _⟩ := h
    rfl
  · obtain ⟨f, g, h, rfl, hf, hg, hh, q⟩ := h
    refine ⟨_, PSs.nox (pss_cons (ps_if (PW.pt (pw_or (pt_not (pt_val (pe_cl c_alike hr (by decide) (by rfl) (pa_cons (pe_op (op_bin o_rshift hr (by decide)) (pe_op (op_bin o_or hr (by decide)) (pv 0) (pv 1)) (pv 2)) (pa_cons (pe_op (op_bin o_or hr (by decide)) (pe_op (op_bin o_rshift hr (by decide)) (pv 0) (pv 2)) (pe_op (op_bin o_rshift hr (by decide)) (pv 1) (pv 2))) pa_nil))))) (pw_or1 (pt_not (pt_val (pe_cl c_alike hr (by decide) (by rfl) (pa_cons (pe_op (op_bin o_rshift hr (by decide)) (pe_op (op_bin o_and hr (by decide)) (pv 0) (pv 1)) (pv 2)) (pa_cons (pe_op (op_bin o_and hr (by decide)) (pe_op (op_bin o_rshift hr (by decide)) (pv 0) (pv 2)) (pe_op (op_bin o_rshift hr (by decide)) (pv 1) (pv 2))) pa_nil)))))))) (pss_one (ps_ret pe_bl)) pss_nil)
      (pss_cons (ps_if (PW.pt (pw_or (pt_not (pt_val (pe_cl c_alike hr (by decide) (by rfl) (pa_cons (pe_op (op_bin o_or hr (by decide)) (pv 0) (pv 0)) (pa_cons (pv 0) pa_nil))))) (pw_or (pt_not (pt_val (pe_cl c_alike hr (by decide) (by rfl) (pa_cons (pe_op (op_bin o_and hr (by decide)) (pv 0) (pv 0)) (pa_cons (pv 0) pa_nil))))) (pw_or1 (pt_not (pt_val (pe_cl c_alike hr (by decide) (by rfl) (pa_cons (pe_op (op_bin o_or hr (by decide)) (pv 0) (pe_op (op_bin o_and hr (by decide)) (pv 0) (pv 1))) (pa_cons (pv 0) pa_nil))))))))) (pss_one (ps_ret pe_bl)) pss_nil)
      (pss_cons (ps_if (PW.pt (pw_or (pt_not (pt_val (pe_cl c_alike hr (by decide) (by rfl) (pa_cons (pe_op (op_bin o_and hr (by decide)) (pv 0) (pe_op (op_bin o_or hr (by decide)) (pv 0) (pv 1))) (pa_cons (pv 0) pa_nil))))) (pw_or (pt_not (pt_val (pe_cl c_alike hr (by decide) (by rfl) (pa_cons (pe_op (op_bin o_or hr (by decide)) (pv 0) (pv 1)) (pa_cons (pe_op (op_bin o_or hr (by decide)) (pv 1) (pv 0)) pa_nil))))) (pw_or1 (pt_not (pt_val (pe_cl c_alike hr (by decide) (by rfl) (pa_cons (pe_op (op_bin o_and hr (by decide)) (pv 0) (pv 1)) (pa_cons (pe_op (op_bin o_and hr (by decide)) (pv 1) (pv 0)) pa_nil))))))))) (pss_one (ps_ret pe_bl)) pss_nil)
      (pss_one (ps_ret (pe_and (pe_cl c_alike hr (by decide) (by rfl) (pa_cons (pe_op (op_bin o_or hr (by decide)) (pe_op (op_bin o_or hr (by decide)) (pv 0) (pv 1)) (pv 2)) (pa_cons (pe_op (op_bin o_or hr (by decide)) (pv 0) (pe_op (op_bin o_or hr (by decide)) (pv 1) (pv 2))) pa_nil))) (pe_one (pe_cl c_alike hr (by decide) (by rfl) (pa_cons (pe_op (op_bin o_and hr (by decide)) (pv 0) (pe_op (op_bin o_or hr (by decide)) (pv 1) (pv 2))) (pa_cons (pe_op (op_bin o_or hr (by decide)) (pe_op (op_bin o_and hr (by decide)) (pv 0) (pv 1)) (pe_op (op_bin o_and hr (by decide)) (pv 0) (pv 2))) pa_nil)))))))))), ?_⟩
    have sT := Same.refl H
    walk_at "go"
    refine rd_mm hf hg (by omega) fun d1 H1 s1 a1 v1 => ?_
    have hf := hf.mono s1
    have hg := hg.mono s1
    have hh := hh.mono s1
    have sT := sT.trans s1
    walk_at "go"
    refine rd_rsh a1 hh (by omega) fun d2 H2 s2 a2 v2 => ?_
    have hf := hf.mono s2
    have hg := hg.mono s2
    have hh := hh.mono s2
    have sT := sT.trans s2
    walk_at "go"
    refine rd_rsh hf hh (by omega) fun d3 H3 s3 a3 v3 => ?_
    have hf := hf.mono s3
    have hg := hg.mono s3
    have hh := hh.mono s3
    have a2 := a2.mono s3
    have sT := sT.trans s3
    walk_at "go"
    refine rd_rsh hg hh (by omega) fun d4 H4 s4 a4 v4 => ?_
    have hf := hf.mono s4
    have hg := hg.mono s4
    have hh := hh.mono s4
    have a2 := a2.mono s4
    have a3 := a3.mono s4
    have sT := sT.trans s4
    walk_at "go"
    refine rd_mm a3 a4 (by omega) fun d5 H5 s5 a5 v5 => ?_
    have hf := hf.mono s5
    have hg := hg.mono s5
    have hh := hh.mono s5
    have a2 := a2.mono s5
    have sT := sT.trans s5
    walk_at "go"
    refine ⟨d2, d5, _, _, rfl, a2, a5, (fun k hk => by rw [v2 (k) (hk), v1 (h.v (k)) (hh.okv _), v5 (k) (hk), v3 (k) (hk), v4 (k) (hk)]), ?_⟩
    walk_at "go"
    refine rd_mm hf hg (by omega) fun d6 H6 s6 a6 v6 => ?_
    have hf := hf.mono s6
    have hg := hg.mono s6
    have hh := hh.mono s6
    have sT := sT.trans s6
    walk_at "go"
    refine rd_rsh a6 hh (by omega) fun d7 H7 s7 a7 v7 => ?_
    have hf := hf.mono s7
    have hg := hg.mono s7
    have hh := hh.mono s7
    have sT := sT.trans s7
    walk_at "go"
    refine rd_rsh hf hh (by omega) fun d8 H8 s8 a8 v8 => ?_
    have hf := hf.mono s8
    have hg := hg.mono s8
    have hh := hh.mono s8
    have a7 := a7.mono s8
    have sT := sT.trans s8
    walk_at "go"
    refine rd_rsh hg hh (by omega) fun d9 H9 s9 a9 v9 => ?_
    have hf := hf.mono s9
    have hg := hg.mono s9
    have hh := hh.mono s9
    have a7 := a7.mono s9
    have a8 := a8.mono s9
    have sT := sT.trans s9
    walk_at "go"
    refine rd_mm a8 a9 (by omega) fun d10 H10 s10 a10 v10 => ?_
    have hf := hf.mono s10
    have hg := hg.mono s10
    have hh := hh.mono s10
    have a7 := a7.mono s10
    have sT := sT.trans s10
    walk_at "go"
    refine ⟨d7, d10, _, _, rfl, a7, a10, (fun k hk => by rw [v7 (k) (hk), v6 (h.v (k)) (hh.okv _), v10 (k) (hk), v8 (k) (hk), v9 (k) (hk)]), ?_⟩
    walk_at "go"
    refine rd_mm hf hf (by omega) fun d11 H11 s11 a11 v11 => ?_
    have hf := hf.mono s11
    have hg := hg.mono s11
    have hh := hh.mono s11
    have sT := sT.trans s11
    walk_at "go"
    refine ⟨d11, f, _, _, rfl, a11, hf, (fun k hk => by (rw [v11 (k) (hk)]; exact mm_idem _ _)), ?_⟩
    walk_at "go"
    refine rd_mm hf hf (by omega) fun d12 H12 s12 a12 v12 => ?_
    have hf := hf.mono s12
    have hg := hg.mono s12
    have hh := hh.mono s12
    have sT := sT.trans s12
    walk_at "go"
    refine ⟨d12, f, _, _, rfl, a12, hf, (fun k hk => by (rw [v12 (k) (hk)]; exact mm_idem _ _)), ?_⟩
    walk_at "go"
    refine rd_mm hf hg (by omega) fun d13 H13 s13 a13 v13 => ?_
    have hf := hf.mono s13
    have hg := hg.mono s13
    have hh := hh.mono s13
    have sT := sT.trans s13
    walk_at "go"
    refine rd_mm hf a13 (by omega) fun d14 H14 s14 a14 v14 => ?_
    have hf := hf.mono s14
    have hg := hg.mono s14
    have hh := hh.mono s14
    have sT := sT.trans s14
    walk_at "go"
    refine ⟨d14, f, _, _, rfl, a14, hf, (fun k hk => by (rw [v14 (k) (hk), v13 (k) (hk)]; exact mm_abs1 _ _)), ?_⟩
    walk_at "go"
    refine rd_mm hf hg (by omega) fun d15 H15 s15 a15 v15 => ?_
    have hf := hf.mono s15
    have hg := hg.mono s15
    have hh := hh.mono s15
    have sT := sT.trans s15
    walk_at "go"
    refine rd_mm hf a15 (by omega) fun d16 H16 s16 a16 v16 => ?_
    have hf := hf.mono s16
    have hg := hg.mono s16
    have hh := hh.mono s16
    have sT := sT.trans s16
    walk_at "go"
    refine ⟨d16, f, _, _, rfl, a16, hf, (fun k hk => by (rw [v16 (k) (hk), v15 (k) (hk)]; exact mm_abs2 _ _)), ?_⟩
    walk_at "go"
    refine rd_mm hf hg (by omega) fun d17 H17 s17 a17 v17 => ?_
    have hf := hf.mono s17
    have hg := hg.mono s17
    have hh := hh.mono s17
    have sT := sT.trans s17
    walk_at "go"
    refine rd_mm hg hf (by omega) fun d18 H18 s18 a18 v18 => ?_
    have hf := hf.mono s18
    have hg := hg.mono s18
    have hh := hh.mono s18
    have a17 := a17.mono s18
    have sT := sT.trans s18
    walk_at "go"
    refine ⟨d17, d18, _, _, rfl, a17, a18, (fun k hk => by (rw [v17 (k) (hk), v18 (k) (hk)]; exact mm_comm _ _ _)), ?_⟩
    walk_at "go"
    refine rd_mm hf hg (by omega) fun d19 H19 s19 a19 v19 => ?_
    have hf := hf.mono s19
    have hg := hg.mono s19
    have hh := hh.mono s19
    have sT := sT.trans s19
    walk_at "go"
    refine rd_mm hg hf (by omega) fun d20 H20 s20 a20 v20 => ?_
    have hf := hf.mono s20
    have hg := hg.mono s20
    have hh := hh.mono s20
    have a19 := a19.mono s20
    have sT := sT.trans s20
    walk_at "go"
    refine ⟨d19, d20, _, _, rfl, a19, a20, (fun k hk => by (rw [v19 (k) (hk), v20 (k) (hk)]; exact mm_comm _ _ _)), ?_⟩
    walk_at "go"
    refine rd_mm hf hg (by omega) fun d21 H21 s21 a21 v21 => ?_
    have hf := hf.mono s21
    have hg := hg.mono s21
    have hh := hh.mono s21
    have sT := sT.trans s21
    walk_at "go"
    refine rd_mm a21 hh (by omega) fun d22 H22 s22 a22 v22 => ?_
    have hf := hf.mono s22
    have hg := hg.mono s22
    have hh := hh.mono s22
    have sT := sT.trans s22
    walk_at "go"
    refine rd_mm hg hh (by omega) fun d23 H23 s23 a23 v23 => ?_
    have hf := hf.mono s23
    have hg := hg.mono s23
    have hh := hh.mono s23
    have a22 := a22.mono s23
    have sT := sT.trans s23
    walk_at "go"
    refine rd_mm hf a23 (by omega) fun d24 H24 s24 a24 v24 => ?_
    have hf := hf.mono s24
    have hg := hg.mono s24
    have hh := hh.mono s24
    have a22 := a22.mono s24
    have sT := sT.trans s24
    walk_at "go"
    refine ⟨d22, d24, _, _, rfl, a22, a24, (fun k hk => by (rw [v22 (k) (hk), v21 (k) (hk), v24 (k) (hk), v23 (k) (hk)]; exact mm_assoc _ _ _ _)), ?_⟩
    walk_at "go"
    refine rd_mm hg hh (by omega) fun d25 H25 s25 a25 v25 => ?_
    have hf := hf.mono s25
    have hg := hg.mono s25
    have hh := hh.mono s25
    have sT := sT.trans s25
    walk_at "go"
    refine rd_mm hf a25 (by omega) fun d26 H26 s26 a26 v26 => ?_
    have hf := hf.mono s26
    have hg := hg.mono s26
    have hh := hh.mono s26
    have sT := sT.trans s26
    walk_at "go"
    refine rd_mm hf hg (by omega) fun d27 H27 s27 a27 v27 => ?_
    have hf := hf.mono s27
    have hg := hg.mono s27
    have hh := hh.mono s27
    have a26 := a26.mono s27
    have sT := sT.trans s27
    walk_at "go"
    refine rd_mm hf hh (by omega) fun d28 H28 s28 a28 v28 => ?_
    have hf := hf.mono s28
    have hg := hg.mono s28
    have hh := hh.mono s28
    have a26 := a26.mono s28
    have a27 := a27.mono s28
    have sT := sT.trans s28
    walk_at "go"
    refine rd_mm a27 a28 (by omega) fun d29 H29 s29 a29 v29 => ?_
    have hf := hf.mono s29
    have hg := hg.mono s29
    have hh := hh.mono s29
    have a26 := a26.mono s29
    have sT := sT.trans s29
    walk_at "go"
    refine ⟨d26, d29, _, _, rfl, a26, a29, (fun k hk => by (rw [v26 (k) (hk), v25 (k) (hk), v29 (k) (hk), v27 (k) (hk), v28 (k) (hk)]; exact mm_dist _ _ _)), ?_⟩
    walk_at "go"
    exact q _ sT
end
end Z
set_option pp.maxSteps 700
set_option Elab.async false
set_option linter.all false
set_option maxRecDepth 100000
set_option maxHeartbeats 4000000
namespace Z
open Nd
open PySem PySem.Spec PyProof.Rows L2
open C8 (pss_cut tCut)
local macro_rules | `(tactic| walk_at "num") => `(tactic| first | rfl | omega | decide | exact Nat.le_of_lt (small1000 (by simp)) | exact ⟨by omega, by omega⟩ | exact ⟨by omega, by omega, by omega⟩ | exact ⟨by decide, by decide, by decide⟩ | exact Or.inl ⟨by omega, by omega⟩ | exact Or.inr ⟨by omega, by omega⟩)
local macro_rules | `(tactic| walk_at "go") => `(tactic| repeat (first | refine ⟨_, rfl, ?_⟩ | refine ⟨_, _, rfl, rfl, ?_⟩ | refine ⟨_, _, rfl, ?_⟩ | refine ⟨_, _, rfl, rfl, (by walk_at "num"), ?_⟩ | refine Or.inl ⟨_, rfl, ?_⟩ | refine ⟨_, _, _, _, rfl, rfl, (by assumption), (by rfl), ?_⟩ | refine ⟨_, _, _, _, _, rfl, (by assumption), (by assumption), (by assumption), (by rfl), ?_⟩ | refine ⟨rfl, ?_⟩ | refine And.intro (by walk_at "num") ?_))
abbrev s_rounds : Stmt := topS 29
abbrev N_rounds : List Str := ["_law_f", "_law_g", "_law_mine", "_law_theirs"]
abbrev P_rounds : List Str := ["_law_f", "_law_g"]
theorem sc_rounds : FnScope N_rounds P_rounds (defScope s_rounds) := ⟨rfl, rfl, rfl, by decide +kernel, rfl, by decide +kernel, by decide +kernel⟩
section
variable {P : Program} {w : World} {K : PySem.W.Frag} {mg : Str → Option Value} {base : Heap} {fo C CB CH : Addr} {fd : FuncData}
def spRounds (C : Addr) (K : PySem.W.Frag) : Sp := fun vs H Q _ => ∃ (f g : ND), vs = [.ref f.a, .ref g.a] ∧ f.At C K H 5 ∧ g.At C K H 5 ∧ ∀ H', Same H H' → Q (.bl true) H'
theorem ok_rounds (F : FnP K "_law_rounds" s_rounds fo fd) (c_alike : Cal P w K mg base 2 "_law_alike" (spAlike C K)) (o_rshift : Bin2 P w K mg base 4 C "__rshift__" (spRsh C K)) (me_mine : Met P w K mg base 4 C "mine" (spMine C K)) (me_theirs : Met P w K mg base 4 C "theirs" (spTheirs C K)) (me_endless : Met P w K mg base 4 C "endless" (spEndless C K)) (me_excess : Met P w K mg base 3 C "excess" (spExcess C K)) : FnOk P w K mg base CX0 5 fo fd P_rounds (spRounds C K) := by
  refine F.ok sc_rounds (fun vs H Q E h => ?_) (fun cdv A outer s H vs Q E hr h => ?_)
  · obtain ⟨f, g, rfl, _⟩ := h
    rfl
  · obtain ⟨f, g, rfl, hf, hg, q⟩ := h
    refine ⟨_, PSs.nox (pss_cons (ps_set (i := 2) sc_rounds.nd rfl (by first | exact .inl rfl | exact .inr rfl) (pe_me0 me_mine (pv 0) hr (by decide)))
      (pss_cons (ps_set (i := 3) sc_rounds.nd rfl (by first | exact .inl rfl | exact .inr rfl) (pe_me0 me_theirs (pv 0) hr (by decide)))
      (pss_cons (ps_if (PW.pt (pw_or (pt_not (pt_val (pe_cl c_alike hr (by decide) (by rfl) (pa_cons (pe_op (op_bin o_rshift hr (by decide)) (pv 2) (pv 2)) (pa_cons (pv 2) pa_nil))))) (pw_or1 (pt_not (pt_val (pe_cl c_alike hr (by decide) (by rfl) (pa_cons (pe_me0 me_mine (pv 2) hr (by decide)) (pa_cons (pv 2) pa_nil)))))))) (pss_one (ps_ret pe_bl)) pss_nil)
      (pss_cons (ps_if (PW.pt (pw_or (pt_not (pt_val (pe_cl c_alike hr (by decide) (by rfl) (pa_cons (pe_op (op_bin o_rshift hr (by decide)) (pv 3) (pv 3)) (pa_cons (pv 3) pa_nil))))) (pw_or1 (pt_not (pt_val (pe_cl c_alike hr (by decide) (by rfl) (pa_cons (pe_me0 me_theirs (pv 3) hr (by decide)) (pa_cons (pv 3) pa_nil)))))))) (pss_one (ps_ret pe_bl)) pss_nil)
      (pss_cons (ps_if (PW.pt (pw_or (pt_cmpR (op_neD hr.units) (pe_me me_excess (pv 2) hr (by decide) (pa_cons (pv 0) pa_nil)) (pe_tup pa_nil) (nomark _)) (pw_or1 (pt_cmpR (op_neD hr.units) (pe_me me_excess (pv 0) hr (by decide) (pa_cons (pv 3) pa_nil)) (pe_tup pa_nil) (nomark _))))) (pss_one (ps_ret pe_bl)) pss_nil)
      (pss_one (ps_ret (pe_and (pe_cl c_alike hr (by decide) (by rfl) (pa_cons (pe_op (op_bin o_rshift hr (by decide)) (pe_me0 me_endless (pv 0) hr (by decide)) (pv 1)) (pa_cons (pe_me0 me_endless (pv 0) hr (by decide)) pa_nil))) (pe_one (pe_cl c_alike hr (by decide) (by rfl) (pa_cons (pe_op (op_bin o_rshift hr (by decide)) (pv 0) (pe_me0 me_endless (pv 0) hr (by decide))) (pa_cons (pe_me0 me_endless (pv 0) hr (by decide)) pa_nil)))))))))))), ?_⟩
    have sT := Same.refl H
    walk_at "go"
    obtain ⟨dx1, _, _, e1, _⟩ := id hf.at_
    refine ⟨_, dx1, _, rfl, e1, rfl, ?_⟩
    walk_at "go"
    refine ⟨_, _, _, _, rfl, hf.at_, hf.ok, fun paM H1 s1 b1 => ?_⟩
    have aM : ND.At C K H1 1 ⟨paM, _, _, _⟩ := ⟨b1, mine_ok hf.ok, mine_len⟩
    have hf := hf.mono s1
    have hg := hg.mono s1
    have sT := sT.trans s1
    walk_at "go"
    obtain ⟨dx2, _, _, e2, _⟩ := id hf.at_
    refine ⟨_, dx2, _, rfl, e2, rfl, ?_⟩
    walk_at "go"
    refine ⟨_, _, _, _, rfl, hf.at_, hf.ok, fun paT H2 s2 b2 => ?_⟩
    have aT : ND.At C K H2 1 ⟨paT, _, _, _⟩ := ⟨b2, theirs_ok hf.ok, theirs_len⟩
    have hf := hf.mono s2
    have hg := hg.mono s2
    have aM := aM.mono s2
    have sT := sT.trans s2
    walk_at "go"
    refine rd_rsh aM aM (by omega) fun daMM H3 s3 aMM vaMM => ?_
    have hf := hf.mono s3
    have hg := hg.mono s3
    have aM := aM.mono s3
    have aT := aT.mono s3
    have sT := sT.trans s3
    walk_at "go"
    refine ⟨_, _, _, _, rfl, aMM, aM, (fun k hk => by (rw [vaMM k hk]; exact mine_idem hf.ok hk)), ?_⟩
    walk_at "go"
    obtain ⟨dx4, _, _, e4, _⟩ := id aM.at_
    refine ⟨_, dx4, _, rfl, e4, rfl, ?_⟩
    walk_at "go"
    refine ⟨_, _, _, _, rfl, aM.at_, aM.ok, fun paMm H4 s4 b4 => ?_⟩
    have aMm : ND.At C K H4 1 ⟨paMm, _, _, _⟩ := ⟨b4, mine_ok aM.ok, mine_len⟩
    have hf := hf.mono s4
    have hg := hg.mono s4
    have aM := aM.mono s4
    have aT := aT.mono s4
    have aMM := aMM.mono s4
    have sT := sT.trans s4
    walk_at "go"
    refine ⟨_, _, _, _, rfl, aMm, aM, (fun k hk => by exact congrArg (fun z => vN z k) (mine_mine hf.ok)), ?_⟩
    walk_at "go"
    refine rd_rsh aT aT (by omega) fun daTT H5 s5 aTT vaTT => ?_
    have hf := hf.mono s5
    have hg := hg.mono s5
    have aM := aM.mono s5
    have aT := aT.mono s5
    have aMM := aMM.mono s5
    have aMm := aMm.mono s5
    have sT := sT.trans s5
    walk_at "go"
    refine ⟨_, _, _, _, rfl, aTT, aT, (fun k hk => by (rw [vaTT k hk]; exact theirs_idem hf.ok hk)), ?_⟩
    walk_at "go"
    obtain ⟨dx6, _, _, e6, _⟩ := id aT.at_
    refine ⟨_, dx6, _, rfl, e6, rfl, ?_⟩
    walk_at "go"
    refine ⟨_, _, _, _, rfl, aT.at_, aT.ok, fun paTt H6 s6 b6 => ?_⟩
    have aTt : ND.At C K H6 1 ⟨paTt, _, _, _⟩ := ⟨b6, theirs_ok aT.ok, theirs_len⟩
    have hf := hf.mono s6
    have hg := hg.mono s6
    have aM := aM.mono s6
    have aT := aT.mono s6
    have aMM := aMM.mono s6
    have aMm := aMm.mono s6
    have aTT := aTT.mono s6
    have sT := sT.trans s6
    walk_at "go"
    refine ⟨_, _, _, _, rfl, aTt, aT, (fun k hk => by exact congrArg (fun z => vN z k) (theirs_theirs hf.ok)), ?_⟩
    walk_at "go"
    obtain ⟨dx7, _, _, e7, _⟩ := id aM.at_
    refine ⟨_, dx7, _, rfl, e7, rfl, ?_⟩
    walk_at "go"
    refine ⟨_, _, _, _, _, _, _, _, rfl, aM.at_, hf.at_, aM.ok, hf.ok, Nat.le_trans aM.len (by decide), Nat.le_trans hf.len (by decide), fun t7 H7 o7 s7 t7e x7 => ?_⟩
    have eo7 : o7 = none := (exc_iff aM.ok hf.ok x7).mpr (fun k hk => mine_le hf.ok hk)
    subst eo7
    have hf := hf.mono s7
    have hg := hg.mono s7
    have aM := aM.mono s7
    have aT := aT.mono s7
    have aMM := aMM.mono s7
    have aMm := aMm.mono s7
    have aTT := aTT.mono s7
    have aTt := aTt.mono s7
    have sT := sT.trans s7
    walk_at "go"
    intro u7 nu7
    have su7 := same_new (o := .tup []) nu7
    refine same2 (d := .tuple []) (.tup (.inl (.inl (su7 _ _ t7e))) .nil) (.tup (.inl (.inl upd_same)) .nil) rfl ?_
    rw [eqv_same rfl]
    have hf := hf.mono su7
    have hg := hg.mono su7
    have aM := aM.mono su7
    have aT := aT.mono su7
    have aMM := aMM.mono su7
    have aMm := aMm.mono su7
    have aTT := aTT.mono su7
    have aTt := aTt.mono su7
    have sT := sT.trans su7
    walk_at "go"
    obtain ⟨dx8, _, _, e8, _⟩ := id hf.at_
    refine ⟨_, dx8, _, rfl, e8, rfl, ?_⟩
    walk_at "go"
    refine ⟨_, _, _, _, _, _, _, _, rfl, hf.at_, aT.at_, hf.ok, aT.ok, Nat.le_trans hf.len (by decide), Nat.le_trans aT.len (by decide), fun t8 H8 o8 s8 t8e x8 => ?_⟩
    have eo8 : o8 = none := (exc_iff hf.ok aT.ok x8).mpr (fun k hk => theirs_ge hf.ok hk)
    subst eo8
    have hf := hf.mono s8
    have hg := hg.mono s8
    have aM := aM.mono s8
    have aT := aT.mono s8
    have aMM := aMM.mono s8
    have aMm := aMm.mono s8
    have aTT := aTT.mono s8
    have aTt := aTt.mono s8
    have sT := sT.trans s8
    walk_at "go"
    intro u8 nu8
    have su8 := same_new (o := .tup []) nu8
    refine same2 (d := .tuple []) (.tup (.inl (.inl (su8 _ _ t8e))) .nil) (.tup (.inl (.inl upd_same)) .nil) rfl ?_
    rw [eqv_same rfl]
    have hf := hf.mono su8
    have hg := hg.mono su8
    have aM := aM.mono su8
    have aT := aT.mono su8
    have aMM := aMM.mono su8
    have aMm := aMm.mono su8
    have aTT := aTT.mono su8
    have aTt := aTt.mono su8
    have sT := sT.trans su8
    walk_at "go"
    obtain ⟨dx9, _, _, e9, _⟩ := id hf.at_
    refine ⟨_, dx9, _, rfl, e9, rfl, ?_⟩
    walk_at "go"
    refine ⟨_, _, _, _, rfl, hf.at_, hf.ok, fun paE H9 s9 b9 => ?_⟩
    have aE : ND.At C K H9 1 ⟨paE, _, _, _⟩ := ⟨b9, endless_ok hf.ok, (Nat.zero_le _)⟩
    have hf := hf.mono s9
    have hg := hg.mono s9
    have aM := aM.mono s9
    have aT := aT.mono s9
    have aMM := aMM.mono s9
    have aMm := aMm.mono s9
    have aTT := aTT.mono s9
    have aTt := aTt.mono s9
    have sT := sT.trans s9
    walk_at "go"
    refine rd_rsh aE hg (by omega) fun daEg H10 s10 aEg vaEg => ?_
    have hf := hf.mono s10
    have hg := hg.mono s10
    have aM := aM.mono s10
    have aT := aT.mono s10
    have aMM := aMM.mono s10
    have aMm := aMm.mono s10
    have aTT := aTT.mono s10
    have aTt := aTt.mono s10
    have aE := aE.mono s10
    have sT := sT.trans s10
    walk_at "go"
    obtain ⟨dx11, _, _, e11, _⟩ := id hf.at_
    refine ⟨_, dx11, _, rfl, e11, rfl, ?_⟩
    walk_at "go"
    refine ⟨_, _, _, _, rfl, hf.at_, hf.ok, fun paE2 H11 s11 b11 => ?_⟩
    have aE2 : ND.At C K H11 1 ⟨paE2, _, _, _⟩ := ⟨b11, endless_ok hf.ok, (Nat.zero_le _)⟩
    have hf := hf.mono s11
    have hg := hg.mono s11
    have aM := aM.mono s11
    have aT := aT.mono s11
    have aMM := aMM.mono s11
    have aMm := aMm.mono s11
    have aTT := aTT.mono s11
    have aTt := aTt.mono s11
    have aE := aE.mono s11
    have aEg := aEg.mono s11
    have sT := sT.trans s11
    walk_at "go"
    refine ⟨_, _, _, _, rfl, aEg, aE2, (fun k hk => by (rw [vaEg k hk]; exact (val_const _ _).trans (val_const _ _).symm)), ?_⟩
    walk_at "go"
    obtain ⟨dx12, _, _, e12, _⟩ := id hf.at_
    refine ⟨_, dx12, _, rfl, e12, rfl, ?_⟩
    walk_at "go"
    refine ⟨_, _, _, _, rfl, hf.at_, hf.ok, fun paE3 H12 s12 b12 => ?_⟩
    have aE3 : ND.At C K H12 1 ⟨paE3, _, _, _⟩ := ⟨b12, endless_ok hf.ok, (Nat.zero_le _)⟩
    have hf := hf.mono s12
    have hg := hg.mono s12
    have aM := aM.mono s12
    have aT := aT.mono s12
    have aMM := aMM.mono s12
    have aMm := aMm.mono s12
    have aTT := aTT.mono s12
    have aTt := aTt.mono s12
    have aE := aE.mono s12
    have aEg := aEg.mono s12
    have aE2 := aE2.mono s12
    have sT := sT.trans s12
    walk_at "go"
    refine rd_rsh hf aE3 (by omega) fun dafE H13 s13 afE vafE => ?_
    have hf := hf.mono s13
    have hg := hg.mono s13
    have aM := aM.mono s13
    have aT := aT.mono s13
    have aMM := aMM.mono s13
    have aMm := aMm.mono s13
    have aTT := aTT.mono s13
    have aTt := aTt.mono s13
    have aE := aE.mono s13
    have aEg := aEg.mono s13
    have aE2 := aE2.mono s13
    have aE3 := aE3.mono s13
    have sT := sT.trans s13
    walk_at "go"
    obtain ⟨dx14, _, _, e14, _⟩ := id hf.at_
    refine ⟨_, dx14, _, rfl, e14, rfl, ?_⟩
    walk_at "go"
    refine ⟨_, _, _, _, rfl, hf.at_, hf.ok, fun paE4 H14 s14 b14 => ?_⟩
    have aE4 : ND.At C K H14 1 ⟨paE4, _, _, _⟩ := ⟨b14, endless_ok hf.ok, (Nat.zero_le _)⟩
    have hf := hf.mono s14
    have hg := hg.mono s14
    have aM := aM.mono s14
    have aT := aT.mono s14
    have aMM := aMM.mono s14
    have aMm := aMm.mono s14
    have aTT := aTT.mono s14
    have aTt := aTt.mono s14
    have aE := aE.mono s14
    have aEg := aEg.mono s14
    have aE2 := aE2.mono s14
    have aE3 := aE3.mono s14
    have afE := afE.mono s14
    have sT := sT.trans s14
    walk_at "go"
    refine ⟨_, _, _, _, rfl, afE, aE4, (fun k hk => by (rw [vafE k hk]; exact (congrArg (val f.st f.rs f.nv) (val_const _ _)).trans ((endless_fix hf.ok).trans (val_const _ _).symm))), ?_⟩
    walk_at "go"
    exact q _ sT
end
end Z
set_option pp.maxSteps 700
set_option Elab.async false
set_option linter.all false
set_option maxRecDepth 100000
set_option maxHeartbeats 4000000
namespace Z
open Nd
open PySem PySem.Spec PyProof.Rows L2
open C8 (pss_cut tCut)
local macro_rules | `(tactic| walk_at "num") => `(tactic| first | rfl | omega | decide | exact Nat.le_of_lt (small1000 (by simp)) | exact ⟨by omega, by omega⟩ | exact ⟨by omega, by omega, by omega⟩ | exact ⟨by decide, by decide, by decide⟩ | exact Or.inl ⟨by omega, by omega⟩ | exact Or.inr ⟨by omega, by omega⟩)
local macro_rules | `(tactic| walk_at "go") => `(tactic| repeat (first | refine ⟨_, rfl, ?_⟩ | refine ⟨_, _, rfl, rfl, ?_⟩ | refine ⟨_, _, rfl, ?_⟩ | refine ⟨_, _, rfl, rfl, (by walk_at "num"), ?_⟩ | refine Or.inl ⟨_, rfl, ?_⟩ | refine ⟨_, _, _, _, rfl, rfl, (by assumption), (by rfl), ?_⟩ | refine ⟨_, _, _, _, _, rfl, (by assumption), (by assumption), (by assumption), (by rfl), ?_⟩ | refine ⟨rfl, ?_⟩ | refine And.intro (by walk_at "num") ?_))
abbrev s_law : Stmt := topS 30
abbrev N_law : List Str := ["_law_script", "_law_draws_here", "_law_f", "_law_g", "_law_h", "_law_m", "_law_n"]
abbrev P_law : List Str := ["_law_script"]
theorem sc_law : FnScope N_law P_law (defScope s_law) := ⟨rfl, rfl, rfl, by decide +kernel, rfl, by decide +kernel, by decide +kernel⟩
theorem dixI {K : PySem.W.Frag} {H : Hp} {D : Addr} {ds : List Int} {n : Nat} {j : Int} (h0 : 0 ≤ j) (h1 : j < n) (hS : SqL K H D (ds.map V.int)) (hd : Dr n ds) {R : V → Prop} (k : ∀ d : Int, 0 ≤ d → d < 1000000 → R (.int d)) : ∃ (p : Addr) (xs : List V) (i' : Int) (v : V), V.ref D = .ref p ∧ V.int j = .int i' ∧ SqL K H p xs ∧ atI xs i' = some v ∧ R v := by
  obtain ⟨i, rfl⟩ := Int.eq_ofNat_of_zero_le h0
  have h : i < ds.length := by rw [hd.1]; omega
  have z := hd.2 _ (List.getElem_mem h)
  exact ⟨D, _, _, _, rfl, rfl, hS, at_map (List.getElem?_eq_getElem h), k _ z.1 z.2⟩
theorem ND.At.weak {C : Addr} {K : PySem.W.Frag} {H : Hp} {L L' : Nat} {d : ND} (h : d.At C K H L) (hl : L ≤ L') : d.At C K H L' := ⟨h.at_, h.ok, Nat.le_trans h.len hl⟩
theorem itN_add (g : Option Int → Option Int) (a : Nat) (k : Option Int) : ∀ b : Nat, itN g (b + a) k = itN g b (itN g a k)
  | 0 => by rw [Nat.zero_add]; rfl
  | b + 1 => by
    rw [Nat.add_right_comm]
    show g (itN g (b + a) k) = g (itN g b (itN g a k))
    rw [itN_add g a k b]
theorem rd_mul2 {C CB : Addr} {K : PySem.W.Frag} {H : Hp} {d1 : ND} {Q : VK} {E : XK} {c : Int} (h1 : d1.At C K H 5) (h0 : 0 ≤ c) (hn : c ≤ 20) (q : ∀ (d : ND) H', Same H H' → d.At C K H' 200 → (∀ k, okk k → d.v k = itN d1.v c.toNat k) → Q (.ref d.a) H') : ∃ a n dx fs, V.ref d1.a = .ref a ∧ V.int c = .int n ∧ H a = some (.ins C dx fs) ∧ spMul C CB K [.ref a, .int n] H (fun v H' => ∃ p, v = .ref p ∧ Q v H') E := by
  obtain ⟨dx, fs, e1⟩ := h1.ins
  have l1 := h1.len
  have l2 : d1.rs.length * c.toNat ≤ 5 * c.toNat := Nat.mul_le_mul_right _ l1
  refine ⟨d1.a, c, dx, fs, rfl, rfl, e1, d1.a, c, d1.st, d1.nv, d1.rs, rfl, h1.at_, h1.ok, (fun _ _ => ⟨by omega, fun p H' st rs nv s a o v l => ⟨p, rfl, ?_⟩⟩), (fun h => by omega)⟩
  exact q ⟨p, st, rs, nv⟩ H' s ⟨a, o, by dsimp only; omega⟩ v
section
variable {P : Program} {w : World} {K : PySem.W.Frag} {mg : Str → Option Value} {base : Heap} {fo C CB : Addr} {fd : FuncData}
def spLaw (K : PySem.W.Frag) : Sp := fun vs H Q _ => ∃ (a : Addr) (ns : List Int), vs = [.ref a] ∧ SqL K H a (ns.map V.int) ∧ ∀ H', Q (.bl true) H'
theorem ok_law (F : FnP K "law" s_law fo fd) (m_int : mg "int" = none) (m_list : mg "list" = none) (cls : Cls K C) (n_start : NoAttr K C "start") (n_rises : NoAttr K C "rises") (n_never : NoAttr K C "never")
    (c_draws : Cal P w K mg base 1 "_law_draws" spDraws) (c_cell : Cal P w K mg base 1 "_law_cell" (spCell K)) (c_need : Cal P w K mg base 2 "_law_need" (spLN K)) (c_make : Cal P w K mg base 4 "_law_make" (spMake C K)) (k_Need : Mak P w K mg base 2 "Need" (spNeed C K)) (c_alike : Cal P w K mg base 2 "_law_alike" (spAlike C K)) (c_told_equal : Cal P w K mg base 4 "_law_told_equal" (spTold C K)) (c_lattice : Cal P w K mg base 5 "_law_lattice" (spLat C K)) (c_rounds : Cal P w K mg base 5 "_law_rounds" (spRounds C K))
    (o_rshift : Bin2 P w K mg base 4 C "__rshift__" (spRsh C K)) (o_or : Bin2 P w K mg base 4 C "__or__" (spMM true C K)) (o_mul : BinI P w K mg base 5 C .Mult (spMul C CB K)) : FnOk P w K mg base CX0 6 fo fd P_law (spLaw K) := by
  refine F.ok sc_law (fun vs H Q E h => ?_) (fun cdv A outer s H vs Q E hr h => ?_)
  · obtain ⟨a, ns, rfl, _⟩ := h
    rfl
  · obtain ⟨a, ns, rfl, hS, q⟩ := h
    refine ⟨_, PSs.nox (pss_cons (ps_set (i := 1) sc_law.nd rfl (by first | exact .inl rfl | exact .inr rfl) (pe_cl c_draws hr (by decide) (by rfl) (pa_cons (pe_cl c_cell hr (by decide) (by rfl) (pa_cons (pv 0) (pa_cons pe_int pa_nil))) (pa_cons pe_int pa_nil))))
      (pss_cons (ps_set (i := 2) sc_law.nd rfl (by first | exact .inl rfl | exact .inr rfl) (pe_cl c_make hr (by decide) (by rfl) (pa_cons (pe_cl c_need hr (by decide) (by rfl) (pa_cons (pv 1) (pa_cons (pe_lst (pa_cons pe_int pa_nil)) pa_nil))) pa_nil)))
      (pss_cons (ps_set (i := 3) sc_law.nd rfl (by first | exact .inl rfl | exact .inr rfl) (pe_cl c_make hr (by decide) (by rfl) (pa_cons (pe_cl c_need hr (by decide) (by rfl) (pa_cons (pe_cl c_draws hr (by decide) (by rfl) (pa_cons (pe_op op_add (pe_cl c_cell hr (by decide) (by rfl) (pa_cons (pv 0) (pa_cons pe_int pa_nil))) (pe_ix ix_list (pv 1) pe_int (fun _ _ => rfl))) (pa_cons pe_int pa_nil))) (pa_cons (pe_lst (pa_cons pe_int pa_nil)) pa_nil))) pa_nil)))
      (pss_cons (ps_set (i := 4) sc_law.nd rfl (by first | exact .inl rfl | exact .inr rfl) (pe_cl c_make hr (by decide) (by rfl) (pa_cons (pe_cl c_need hr (by decide) (by rfl) (pa_cons (pe_cl c_draws hr (by decide) (by rfl) (pa_cons (pe_op op_add (pe_cl c_cell hr (by decide) (by rfl) (pa_cons (pv 0) (pa_cons pe_int pa_nil))) (pe_ix ix_list (pv 1) pe_int (fun _ _ => rfl))) (pa_cons pe_int pa_nil))) (pa_cons (pe_lst (pa_cons pe_int pa_nil)) pa_nil))) pa_nil)))
      (pss_cut (ps_if (pt_cmpR op_eq (pe_op op_mod (pe_callTy call_int1 (by rfl) m_int (by decide +kernel) (pa_cons (pe_ix ix_list (pv 1) pe_int (fun _ _ => rfl)) pa_nil)) pe_int) pe_int (nomark _)) (pss_one (ps_set (i := 3) sc_law.nd rfl (by first | exact .inl rfl | exact .inr rfl) (pe_mk k_Need hr (by decide) (by rfl) (pa_cons (pe_fld (pv 2) rfl) (pa_cons (pe_callTy call_list_of (by rfl) m_list (by decide +kernel) (pa_cons (pe_fld (pv 2) rfl) pa_nil)) (pa_cons (pe_fld (pv 2) rfl) pa_nil)))))) pss_nil)
      (pss_cons (ps_if (PW.pt (pw_or (pt_not (pt_val (pe_cl c_alike hr (by decide) (by rfl) (pa_cons (pe_op (op_bin o_rshift hr (by decide)) (pe_op (op_bin o_rshift hr (by decide)) (pv 2) (pv 3)) (pv 4)) (pa_cons (pe_op (op_bin o_rshift hr (by decide)) (pv 2) (pe_op (op_bin o_rshift hr (by decide)) (pv 3) (pv 4))) pa_nil))))) (pw_or (pt_not (pt_val (pe_cl c_lattice hr (by decide) (by rfl) (pa_cons (pv 2) (pa_cons (pv 3) (pa_cons (pv 4) pa_nil)))))) (pw_or1 (pt_not (pt_val (pe_cl c_lattice hr (by decide) (by rfl) (pa_cons (pv 3) (pa_cons (pv 4) (pa_cons (pv 2) pa_nil)))))))))) (pss_one (ps_ret pe_bl)) pss_nil)
      (pss_cons (ps_if (PW.pt (pw_or (pt_not (pt_val (pe_cl c_rounds hr (by decide) (by rfl) (pa_cons (pv 2) (pa_cons (pv 3) pa_nil))))) (pw_or (pt_not (pt_val (pe_cl c_rounds hr (by decide) (by rfl) (pa_cons (pv 4) (pa_cons (pv 2) pa_nil))))) (pw_or (pt_not (pt_val (pe_cl c_told_equal hr (by decide) (by rfl) (pa_cons (pv 2) (pa_cons (pv 3) pa_nil))))) (pw_or1 (pt_not (pt_val (pe_cl c_told_equal hr (by decide) (by rfl) (pa_cons (pv 2) (pa_cons (pe_op (op_bin o_or hr (by decide)) (pv 2) (pv 3)) pa_nil)))))))))) (pss_one (ps_ret pe_bl)) pss_nil)
      (pss_cons (ps_set (i := 5) sc_law.nd rfl (by first | exact .inl rfl | exact .inr rfl) (pe_op op_mod (pe_callTy call_int1 (by rfl) m_int (by decide +kernel) (pa_cons (pe_ix ix_list (pv 1) pe_int (fun _ _ => rfl)) pa_nil)) pe_int))
      (pss_cons (ps_set (i := 6) sc_law.nd rfl (by first | exact .inl rfl | exact .inr rfl) (pe_op op_mod (pe_callTy call_int1 (by rfl) m_int (by decide +kernel) (pa_cons (pe_ix ix_list (pv 1) pe_int (fun _ _ => rfl)) pa_nil)) pe_int))
      (pss_one (ps_ret (pe_and (pe_cl c_alike hr (by decide) (by rfl) (pa_cons (pe_opE o_mul (fun _ => passS0) hr (by decide) (pv 2) (pe_op op_add (pv 5) (pv 6))) (pa_cons (pe_op (op_bin o_rshift hr (by decide)) (pe_opE o_mul (fun _ => passS0) hr (by decide) (pv 2) (pv 5)) (pe_opE o_mul (fun _ => passS0) hr (by decide) (pv 2) (pv 6))) pa_nil))) (pe_and (pe_cl c_alike hr (by decide) (by rfl) (pa_cons (pe_opE o_mul (fun _ => passS0) hr (by decide) (pv 2) pe_int) (pa_cons (pv 2) pa_nil))) (pe_one (pe_cl c_told_equal hr (by decide) (by rfl) (pa_cons (pe_opE o_mul (fun _ => passS0) hr (by decide) (pv 2) pe_int) (pa_cons (pe_op (op_bin o_rshift hr (by decide)) (pv 2) (pv 2)) pa_nil))))))))))))))))), ?_⟩
    walk_at "go"
    refine ⟨a, ns, 0, rfl, hS, ?_⟩
    walk_at "go"
    intro D ds nD hds
    have hS := (same_new (o := .lst (ds.map V.int)) nD).seq hS
    have hD := upd_same (H := H) (a := D) (o := .lst (ds.map V.int))
    generalize upd H D (.lst (ds.map V.int)) = H1 at hS hD ⊢
    walk_at "go"
    intro p np
    have sp : Same H1 (upd H1 p (.lst [.int 0])) := same_new np
    have Ep : D ≠ p := ne_of_none hD np
    have hE1 := sp _ _ hD
    have hpp := upd_same (H := H1) (a := p) (o := .lst [.int 0])
    generalize upd H1 p (.lst [.int 0]) = HX at hE1 hpp sp ⊢
    walk_at "go"
    refine ⟨D, p, 40, ds, rfl, ⟨hE1, hds, Ep, Z.Same.sb (Same.refl _), 0, hpp⟩, fun l HY st rs nv sb hN ok => ?_⟩
    have s3 : Same H1 HY := fun b o h => sb b o (ne_of_none h np) (sp b o h)
    clear sp Ep hE1 hpp sb
    walk_at "go"
    refine ⟨st, nv, l, rs, rfl, hN, ok.1, Nat.le_trans ok.2.1 (by decide), fun n H2 s4 hF => ?_⟩
    have s34 := s3.trans s4
    obtain ⟨f, ef, hf⟩ : ∃ d : ND, d.a = n ∧ d.At C K H2 5 := ⟨⟨n, st, rs, nv⟩, rfl, hF, ok.1, ok.2.1⟩
    subst ef
    have hS := s34.seq hS
    have hD := s34 _ _ hD
    clear s3 s4 s34 hF ok hN np
    walk_at "go"
    refine ⟨a, ns, 1, rfl, hS, ?_⟩
    walk_at "go"
    refine dixI (by decide) (by decide) (SqL.of hD) hds fun d39 a1 a2 => ?_
    walk_at "go"
    intro E2 es nE hes
    have sE := same_new (o := .lst (es.map V.int)) nE
    have hS := sE.seq hS
    have hD := sE _ _ hD
    have hf := hf.mono sE
    have hE2 := upd_same (H := H2) (a := E2) (o := .lst (es.map V.int))
    generalize upd H2 E2 (.lst (es.map V.int)) = H3 at hS hD hf hE2 ⊢
    clear sE nE
    walk_at "go"
    intro p np
    have sp : Same H3 (upd H3 p (.lst [.int 0])) := same_new np
    have Ep : E2 ≠ p := ne_of_none hE2 np
    have hE1 := sp _ _ hE2
    have hpp := upd_same (H := H3) (a := p) (o := .lst [.int 0])
    generalize upd H3 p (.lst [.int 0]) = HX at hE1 hpp sp ⊢
    walk_at "go"
    refine ⟨E2, p, 30, es, rfl, ⟨hE1, hes, Ep, Z.Same.sb (Same.refl _), 0, hpp⟩, fun l HY st rs nv sb hN ok => ?_⟩
    have s3 : Same H3 HY := fun b o h => sb b o (ne_of_none h np) (sp b o h)
    clear sp Ep hE1 hpp sb
    walk_at "go"
    refine ⟨st, nv, l, rs, rfl, hN, ok.1, Nat.le_trans ok.2.1 (by decide), fun n H4 s4 hF => ?_⟩
    have s34 := s3.trans s4
    obtain ⟨g, eg, hg⟩ : ∃ d : ND, d.a = n ∧ d.At C K H4 5 := ⟨⟨n, st, rs, nv⟩, rfl, hF, ok.1, ok.2.1⟩
    subst eg
    have hS := s34.seq hS
    have hD := s34 _ _ hD
    have hf := hf.mono s34
    clear s3 s4 s34 hF ok hN np hE2
    walk_at "go"
    refine ⟨a, ns, 2, rfl, hS, ?_⟩
    walk_at "go"
    refine dixI (by decide) (by decide) (SqL.of hD) hds fun d38 a1 a2 => ?_
    walk_at "go"
    intro E3 es3 nE hes3
    have sE := same_new (o := .lst (es3.map V.int)) nE
    have hD := sE _ _ hD
    have hf := hf.mono sE
    have hg := hg.mono sE
    have hE3 := upd_same (H := H4) (a := E3) (o := .lst (es3.map V.int))
    generalize upd H4 E3 (.lst (es3.map V.int)) = H5 at hD hf hg hE3 ⊢
    clear sE nE hS
    walk_at "go"
    intro p np
    have sp : Same H5 (upd H5 p (.lst [.int 0])) := same_new np
    have Ep : E3 ≠ p := ne_of_none hE3 np
    have hE1 := sp _ _ hE3
    have hpp := upd_same (H := H5) (a := p) (o := .lst [.int 0])
    generalize upd H5 p (.lst [.int 0]) = HX at hE1 hpp sp ⊢
    walk_at "go"
    refine ⟨E3, p, 30, es3, rfl, ⟨hE1, hes3, Ep, Z.Same.sb (Same.refl _), 0, hpp⟩, fun l HY st rs nv sb hN ok => ?_⟩
    have s3 : Same H5 HY := fun b o h => sb b o (ne_of_none h np) (sp b o h)
    clear sp Ep hE1 hpp sb
    walk_at "go"
    refine ⟨st, nv, l, rs, rfl, hN, ok.1, Nat.le_trans ok.2.1 (by decide), fun n H6 s4 hF => ?_⟩
    have s34 := s3.trans s4
    obtain ⟨h, eh, hh⟩ : ∃ d : ND, d.a = n ∧ d.At C K H6 5 := ⟨⟨n, st, rs, nv⟩, rfl, hF, ok.1, ok.2.1⟩
    subst eh
    have hD := s34 _ _ hD
    have hf := hf.mono s34
    have hg := hg.mono s34
    clear s3 s4 s34 hF ok hN np hE3
    walk_at "go"
    refine ⟨fun σ' H' => Same H6 H' ∧ ∃ g : ND, g.At C K H' 5 ∧ σ' = [some (.ref a), some (.ref D), some (.ref f.a), some (.ref g.a), some (.ref h.a), none, none], ?_, ?_⟩
    · walk_at "go"
      refine dixI (by decide) (by decide) (SqL.of hD) hds fun d37 a1 a2 => ?_
      walk_at "go"
      refine ite2 (fun e => ?_) (fun e => ?_)
      rotate_left
      · exact ⟨Same.refl _, g, hg, rfl⟩
      obtain ⟨dx, r, ps, e1, hR, er⟩ := id hf.at_
      walk_at "go"
      refine ⟨r, _, rfl, .inr hR.1, fun l nl => ?_⟩
      have s7 := same_new (o := .lst (ps.map V.ref)) nl
      have e1 := s7 _ _ e1
      have hR7 := hR.mono s7
      have hR7 : Ris true false K _ l ps f.rs := ⟨SqL.of upd_same, hR7.2.1, hR7.2.2⟩
      generalize upd H6 l (.lst (ps.map V.ref)) = H7 at s7 e1 hR7 ⊢
      walk_at "go"
      refine ⟨true, false, f.st, f.nv, l, ps, f.rs, rfl, hR7, Nat.le_trans hf.len (by decide), hf.ok, fun n H8 s8 _ hN => ?_⟩
      walk_at "go"
      exact ⟨s7.trans s8, ⟨n, f.st, f.rs, f.nv⟩, ⟨hN, hf.ok, hf.len⟩, rfl⟩
    rintro σ' H7 ⟨s7, g, hg, rfl⟩
    have hD := s7 _ _ hD
    have hf := hf.mono s7
    have hh := hh.mono s7
    clear s7
    walk_at "go"
    refine rd_rsh hf hg (by omega) fun d1 H1 s1 a1 v1 => ?_
    have hf := hf.mono s1
    have hg := hg.mono s1
    have hh := hh.mono s1
    have hD := s1 _ _ hD
    walk_at "go"
    refine rd_rsh a1 hh (by omega) fun d2 H2 s2 a2 v2 => ?_
    have hf := hf.mono s2
    have hg := hg.mono s2
    have hh := hh.mono s2
    have hD := s2 _ _ hD
    walk_at "go"
    refine rd_rsh hg hh (by omega) fun d3 H3 s3 a3 v3 => ?_
    have hf := hf.mono s3
    have hg := hg.mono s3
    have hh := hh.mono s3
    have a2 := a2.mono s3
    have hD := s3 _ _ hD
    walk_at "go"
    refine rd_rsh hf a3 (by omega) fun d4 H4 s4 a4 v4 => ?_
    have hf := hf.mono s4
    have hg := hg.mono s4
    have hh := hh.mono s4
    have a2 := a2.mono s4
    have hD := s4 _ _ hD
    walk_at "go"
    refine ⟨d2, d4, _, _, rfl, a2, a4, (fun k hk => by rw [v2 (k) (hk), v1 (h.v (k)) (hh.okv _), v4 (k) (hk), v3 (k) (hk)]), ?_⟩
    walk_at "go"
    refine ⟨f, g, h, rfl, hf, hg, hh, fun H5 s5 => ?_⟩
    have hf := hf.mono s5
    have hg := hg.mono s5
    have hh := hh.mono s5
    have hD := s5 _ _ hD
    walk_at "go"
    refine ⟨g, h, f, rfl, hg, hh, hf, fun H6 s6 => ?_⟩
    have hf := hf.mono s6
    have hg := hg.mono s6
    have hh := hh.mono s6
    have hD := s6 _ _ hD
    walk_at "go"
    intro H7 s7
    have hf := hf.mono s7
    have hg := hg.mono s7
    have hh := hh.mono s7
    have hD := s7 _ _ hD
    walk_at "go"
    intro H8 s8
    have hf := hf.mono s8
    have hg := hg.mono s8
    have hh := hh.mono s8
    have hD := s8 _ _ hD
    walk_at "go"
    refine ⟨hf.weak (by omega), hg.weak (by omega), ?_⟩
    intro H9 s9
    have hf := hf.mono s9
    have hg := hg.mono s9
    have hh := hh.mono s9
    have hD := s9 _ _ hD
    walk_at "go"
    refine rd_mm hf hg (by omega) fun d10 H10 s10 a10 v10 => ?_
    have hf := hf.mono s10
    have hg := hg.mono s10
    have hh := hh.mono s10
    have hD := s10 _ _ hD
    walk_at "go"
    refine ⟨hf.weak (by omega), a10.weak (by omega), ?_⟩
    intro H11 s11
    have hf := hf.mono s11
    have hg := hg.mono s11
    have hh := hh.mono s11
    have hD := s11 _ _ hD
    walk_at "go"
    refine dixI (by decide) (by decide) (SqL.of hD) hds fun d35 b1 b2 => ?_
    walk_at "go"
    refine dixI (by decide) (by decide) (SqL.of hD) hds fun d36 b3 b4 => ?_
    walk_at "go"
    refine rd_mul2 (c := d35 % 6 + d36 % 6) hf (by omega) (by omega) fun d12 H12 s12 a12 v12 => ?_
    have hf := hf.mono s12
    have hg := hg.mono s12
    have hh := hh.mono s12
    have hD := s12 _ _ hD
    walk_at "go"
    refine rd_mul2 (c := d35 % 6) hf (by omega) (by omega) fun d13 H13 s13 a13 v13 => ?_
    have hf := hf.mono s13
    have hg := hg.mono s13
    have hh := hh.mono s13
    have a12 := a12.mono s13
    have hD := s13 _ _ hD
    walk_at "go"
    refine rd_mul2 (c := d36 % 6) hf (by omega) (by omega) fun d14 H14 s14 a14 v14 => ?_
    have hf := hf.mono s14
    have hg := hg.mono s14
    have hh := hh.mono s14
    have a12 := a12.mono s14
    have a13 := a13.mono s14
    have hD := s14 _ _ hD
    walk_at "go"
    refine rd_rsh a13 a14 (by omega) fun d15 H15 s15 a15 v15 => ?_
    have hf := hf.mono s15
    have hg := hg.mono s15
    have hh := hh.mono s15
    have a12 := a12.mono s15
    have hD := s15 _ _ hD
    walk_at "go"
    refine ⟨_, _, _, _, rfl, a12, a15, (fun k hk => by rw [v12 k hk, v15 k hk, v13 _ (a14.okv _), v14 k hk, ← itN_add]; congr 1; omega), ?_⟩
    walk_at "go"
    refine rd_mul2 (c := 1) hf (by omega) (by omega) fun d16 H16 s16 a16 v16 => ?_
    have hf := hf.mono s16
    have hg := hg.mono s16
    have hh := hh.mono s16
    have hD := s16 _ _ hD
    walk_at "go"
    refine ⟨_, _, _, _, rfl, a16, hf, (fun k hk => by rw [v16 k hk]; rfl), ?_⟩
    walk_at "go"
    refine rd_mul2 (c := 2) hf (by omega) (by omega) fun d17 H17 s17 a17 v17 => ?_
    have hf := hf.mono s17
    have hg := hg.mono s17
    have hh := hh.mono s17
    have hD := s17 _ _ hD
    walk_at "go"
    refine rd_rsh hf hf (by omega) fun d18 H18 s18 a18 v18 => ?_
    have hf := hf.mono s18
    have hg := hg.mono s18
    have hh := hh.mono s18
    have a17 := a17.mono s18
    have hD := s18 _ _ hD
    walk_at "go"
    refine ⟨a17.weak (by omega), a18.weak (by omega), ?_⟩
    intro H19 s19
    have hf := hf.mono s19
    have hg := hg.mono s19
    have hh := hh.mono s19
    have hD := s19 _ _ hD
    walk_at "go"
    exact q _
end
end Z
set_option pp.maxSteps 700
set_option Elab.async false
set_option linter.all false
set_option maxRecDepth 100000
set_option maxHeartbeats 4000000
set_option maxHeartbeats 0
namespace Z
open PySem PySem.Spec PyProof.Rows L2 Nd
def isB (K : PySem.W.Frag) (C : Addr) : Bool := He.eqO (PySem.W.findIn K (.ref C) "__class__") (some (some (.builtin "object.__class__"))) && (He.eqO (PySem.W.specialIn K (.builtin "object.__class__") "__get__") (some (some (.builtin "getset_descriptor.__get__"))) && (decide (PySem.W.takesIn K (.builtin "object.__class__") = some true) && (decide (PySem.W.mroIn K C (.type "object") = some true) && decide (PySem.W.kitOne K (.ref C) (.ref C) = some true))))
theorem isB_ok {K : PySem.W.Frag} {C : Addr} (cl : Cls K C) (h : isB K C = true) : C8.InsC K C := by
  obtain ⟨h1, h⟩ := He.ba h
  obtain ⟨h2, h⟩ := He.ba h
  obtain ⟨h3, h⟩ := He.ba h
  obtain ⟨h4, h5⟩ := He.ba h
  exact ⟨cl, He.eqO_ok h1, He.eqO_ok h2, of_decide_eq_true h3, of_decide_eq_true h4, of_decide_eq_true h5⟩
def spB (K : PySem.W.Frag) (C : Addr) (m : Str) : Bool := He.eqO (PySem.W.findIn K (.ref C) m) (some (some (.ref (He.ma K C m)))) && (PySem.W.isFn K (.ref (He.ma K C m)) && PySem.W.fnIn K (He.ma K C m))
theorem spB_ok {K : PySem.W.Frag} {C : Addr} {m : Str} (h : spB K C m = true) : PySem.W.findIn K (.ref C) m = some (some (.ref (He.ma K C m))) ∧ PySem.W.isFn K (.ref (He.ma K C m)) = true ∧ PySem.W.fnIn K (He.ma K C m) = true := by
  obtain ⟨h1, h⟩ := He.ba h
  obtain ⟨h2, h3⟩ := He.ba h
  exact ⟨He.eqO_ok h1, h2, h3⟩
def d_value_at : He.DefD := ⟨("value_at", none), "value_at", "value_at", defArgs s_value_at, defBody s_value_at, defScope s_value_at, [], []⟩
def d_joined : He.DefD := ⟨("joined", none), "joined", "joined", defArgs s_joined, defBody s_joined, defScope s_joined, [], []⟩
def d_marks_of : He.DefD := ⟨("marks_of", none), "marks_of", "marks_of", defArgs s_marks_of, defBody s_marks_of, defScope s_marks_of, [], []⟩
def d_track : He.DefD := ⟨("track", none), "track", "track", defArgs s_track, defBody s_track, defScope s_track, [], []⟩
def d_rising_part : He.DefD := ⟨("rising_part", none), "rising_part", "rising_part", defArgs s_rising_part, defBody s_rising_part, defScope s_rising_part, [], []⟩
def d_combined : He.DefD := ⟨("combined", none), "combined", "combined", defArgs s_combined, defBody s_combined, defScope s_combined, [], []⟩
def d_composed : He.DefD := ⟨("composed", none), "composed", "composed", defArgs s_composed, defBody s_composed, defScope s_composed, [], []⟩
def d_flat_point : He.DefD := ⟨("flat_point", none), "flat_point", "flat_point", defArgs s_flat_point, defBody s_flat_point, defScope s_flat_point, [], []⟩
def d_first_above : He.DefD := ⟨("first_above", none), "first_above", "first_above", defArgs s_first_above, defBody s_first_above, defScope s_first_above, [], []⟩
def d_greatest_value : He.DefD := ⟨("greatest_value", none), "greatest_value", "greatest_value", defArgs s_greatest_value, defBody s_greatest_value, defScope s_greatest_value, [], []⟩
def d_Need___init__ : He.DefD := ⟨("Need", some "__init__"), "__init__", "Need.__init__", defArgs s_Need___init__, defBody s_Need___init__, defScope s_Need___init__, [], []⟩
def d_Need_value_for : He.DefD := ⟨("Need", some "value_for"), "value_for", "Need.value_for", defArgs s_Need_value_for, defBody s_Need_value_for, defScope s_Need_value_for, [], []⟩
def d_Need___eq__ : He.DefD := ⟨("Need", some "__eq__"), "__eq__", "Need.__eq__", defArgs s_Need___eq__, defBody s_Need___eq__, defScope s_Need___eq__, [], []⟩
def d_Need_excess : He.DefD := ⟨("Need", some "excess"), "excess", "Need.excess", defArgs s_Need_excess, defBody s_Need_excess, defScope s_Need_excess, [], []⟩
def d_Need___rshift__ : He.DefD := ⟨("Need", some "__rshift__"), "__rshift__", "Need.__rshift__", defArgs s_Need___rshift__, defBody s_Need___rshift__, defScope s_Need___rshift__, [], []⟩
def d_Need___or__ : He.DefD := ⟨("Need", some "__or__"), "__or__", "Need.__or__", defArgs s_Need___or__, defBody s_Need___or__, defScope s_Need___or__, [], []⟩
def d_Need___and__ : He.DefD := ⟨("Need", some "__and__"), "__and__", "Need.__and__", defArgs s_Need___and__, defBody s_Need___and__, defScope s_Need___and__, [], []⟩
def d_Need___mul__ : He.DefD := ⟨("Need", some "__mul__"), "__mul__", "Need.__mul__", defArgs s_Need___mul__, defBody s_Need___mul__, defScope s_Need___mul__, [], []⟩
def d_Need_mine : He.DefD := ⟨("Need", some "mine"), "mine", "Need.mine", defArgs s_Need_mine, defBody s_Need_mine, defScope s_Need_mine, [], []⟩
def d_Need_theirs : He.DefD := ⟨("Need", some "theirs"), "theirs", "Need.theirs", defArgs s_Need_theirs, defBody s_Need_theirs, defScope s_Need_theirs, [], []⟩
def d_Need_endless : He.DefD := ⟨("Need", some "endless"), "endless", "Need.endless", defArgs s_Need_endless, defBody s_Need_endless, defScope s_Need_endless, [], []⟩
def d_cell : He.DefD := ⟨("_law_cell", none), "_law_cell", "_law_cell", defArgs s_cell, defBody s_cell, defScope s_cell, [], []⟩
def d_draws : He.DefD := ⟨("_law_draws", none), "_law_draws", "_law_draws", defArgs s_draws, defBody s_draws, defScope s_draws, [], []⟩
def d_take : He.DefD := ⟨("_law_take", none), "_law_take", "_law_take", defArgs s_take, defBody s_take, defScope s_take, [], []⟩
def d_need : He.DefD := ⟨("_law_need", none), "_law_need", "_law_need", defArgs s_need, defBody s_need, defScope s_need, [], []⟩
def d_make : He.DefD := ⟨("_law_make", none), "_law_make", "_law_make", defArgs s_make, defBody s_make, defScope s_make, [], []⟩
def d_alike : He.DefD := ⟨("_law_alike", none), "_law_alike", "_law_alike", defArgs s_alike, defBody s_alike, defScope s_alike, [], []⟩
def d_told_equal : He.DefD := ⟨("_law_told_equal", none), "_law_told_equal", "_law_told_equal", defArgs s_told_equal, defBody s_told_equal, defScope s_told_equal, [], []⟩
def d_lattice : He.DefD := ⟨("_law_lattice", none), "_law_lattice", "_law_lattice", defArgs s_lattice, defBody s_lattice, defScope s_lattice, [], []⟩
def d_rounds : He.DefD := ⟨("_law_rounds", none), "_law_rounds", "_law_rounds", defArgs s_rounds, defBody s_rounds, defScope s_rounds, [], []⟩
def d_law : He.DefD := ⟨("law", none), "law", "law", defArgs s_law, defBody s_law, defScope s_law, [], []⟩
abbrev s_BadCount___init__ : Stmt := inClass (topS 4) 0
theorem xn_BadCount {P : Program} {w : World} {K : PySem.W.Frag} {mg : Str → Option Value} {base : Heap} {fl : Str} (h1 : supObs K "BadCount" = supVal "BadCount.__init__" s_BadCount___init__) (h : ExnF K (He.ga K "BadCount") "BadCount.__init__" "value" fl) (hfl : ((P.main.file : Str) == fl) = true) (htop : (P.main.scope.names.lookup ("super" : Str)).isSome = false) (g : mg "BadCount" = some (.ref (He.ga K "BadCount"))) (m_super : mg "super" = none) : Exn P w K mg base "BadCount" (He.ga K "BadCount") "value" := by
  obtain ⟨c, cc, fd, kV, doc, pm, ct, an, hfd, S, hcd⟩ := sup_of h1 h.sup hfl htop
  refine ⟨S.oex, g, He.ma K _ "__init__", fd, ["self", "value"], h.ini, h.ty, ?_, ?_⟩
  · exact exn_ok (v := "value") (F := ⟨"__init__", "BadCount.__init__", defArgs s_BadCount___init__, defBody s_BadCount___init__, defScope s_BadCount___init__, [("__class__", cc)], c⟩) hfd S hcd (NdefX.nscope_by (sc := defScope s_BadCount___init__) (by decide +kernel)) rfl rfl rfl (show (defScope s_BadCount___init__).names.lookup ("super" : Str) = some .globalImplicit by decide +kernel) m_super h.no (by decide) (by decide) rfl (fun _ _ _ _ _ => rfl) (fun _ _ _ _ _ => rfl) (fun _ _ _ _ _ => rfl) (fun _ _ _ _ _ => rfl)
  · subst hfd
    exact Binds.all fun us hl => match us, hl with | [_, _], _ => rfl
def xns : List Str := ["BadCount"]
def xvs : List SupV := [supVal "BadCount.__init__" s_BadCount___init__]
def exXn (fl : Str) (K : PySem.W.Frag) : List Bool := [exnB fl "BadCount.__init__" "value" K (He.ga K "BadCount")]
def fn : List He.DefD := [d_value_at, d_joined, d_marks_of, d_track, d_rising_part, d_combined, d_composed, d_flat_point, d_first_above, d_greatest_value, d_Need___init__, d_Need_value_for, d_Need___eq__, d_Need_excess, d_Need___rshift__, d_Need___or__, d_Need___and__, d_Need___mul__, d_Need_mine, d_Need_theirs, d_Need_endless, d_cell, d_draws, d_take, d_need, d_make, d_alike, d_told_equal, d_lattice, d_rounds, d_law]
def fa : List He.Fa := [.glo "value_at", .glo "joined", .glo "marks_of", .glo "track", .glo "rising_part", .glo "combined", .glo "composed", .glo "flat_point", .glo "first_above", .glo "greatest_value", .glo "_law_cell", .glo "_law_draws", .glo "_law_take", .glo "_law_need", .glo "_law_make", .glo "_law_alike", .glo "_law_told_equal", .glo "_law_lattice", .glo "_law_rounds", .glo "law", .free "abs", .free "enumerate", .free "int", .free "isinstance", .free "len", .free "list", .free "max", .free "range", .free "sorted", .free "super", .free "tuple", .glo "Need", .cls "Need", .mkr "Need", .noat "Need" "start", .noat "Need" "rises", .noat "Need" "never", .meth "Need" "value_for", .meth "Need" "excess", .meth "Need" "mine", .meth "Need" "theirs", .meth "Need" "endless", .int "MOST_TIMES" 400, .glo "HouseError", .glo "BadCount"]
def loose : List Str := ["_wall", "HouseError", "BadAmount", "BadCount", "BadNeed", "value_at", "joined", "marks_of", "track", "rising_part", "combined", "composed", "flat_point", "first_above", "MOST_TIMES", "greatest_value", "Need", "_law_cell", "_law_draws", "_law_take", "_law_need", "_law_make", "_law_alike", "_law_told_equal", "_law_lattice", "_law_rounds"]
def fl : Str := PySem.Challenge.pw_signedpacts_k21_whole_need_algebra.main.file
def exL (K : PySem.W.Frag) : List Bool := [isB K (He.ga K "Need"), spB K (He.ga K "Need") "__eq__", spB K (He.ga K "Need") "__rshift__", spB K (He.ga K "Need") "__or__", spB K (He.ga K "Need") "__and__", spB K (He.ga K "Need") "__mul__",
  PySem.W.selfFirst K (He.ga K "Need"), He.eqO (PySem.W.findIn K (.ref (He.ga K "Need")) "__rmul__") (some none), (PySem.W.findIn K (.type "int") "__mul__").isSome, (PySem.W.findIn K (.type "int") "__rmul__").isSome, decide (PySem.W.subIn K (.type "int") (.ref (He.ga K "Need")) = some false)]
def ex (K : PySem.W.Frag) : Bool := (exL K).all id && (exXn fl K).all id
theorem all_at {bs : List Bool} (h : bs.all id = true) (i : Nat) {b : Bool} (e : bs[i]? = some b := by rfl) : b = true := List.all_eq_true.mp h b (List.mem_of_getElem? e)
theorem kb_combined {K : PySem.W.Frag} {f : Addr} {fd : FuncData} (F : FnP K "combined" s_combined f fd) : KBn K fd P_combined 2 ["smaller"] (fun us ws => us ++ ws) (fun vs zs => vs ++ zs) := by
  obtain ⟨oc, od, dV, kV, doc, pm, an, cdv, ct, osl, rfl, lk, hcd, hD, hK⟩ := F.ex
  rcases hD with ⟨_, rfl⟩ | ⟨e, _⟩
  · exact ⟨fun s us ws X l1 l2 => .of_eq (match us, l1, ws, l2 with | [_, _], _, [_], _ => rfl), fun r1 r2 => r1.append r2⟩
  · exact absurd rfl e
abbrev R : PySem.W.OpenRow := PySem.W.OpenLaw.row PySem.Challenge.rw_signedpacts_k21_whole_need_algebra
abbrev hk : PySem.W.Hook := hookX 4 fa fn xns xvs ex
def ob (s : PySem.W.SharedT) : He.AlD × (List SupV × Bool) := obX 4 fa fn xns ex (HandSHeadRun.getT s)
theorem ob_eq (s : PySem.W.SharedT) : ob s = hk.obs s.abs := obX_eq (HandSHeadRun.getT_eq s)
theorem run (w : World) : HandSHeadRun.RunEq R (PySem.W.view R.prog [30]) hk ob 8000 loose w := by
  intro os
  kernel_rfl
theorem facts {P : Program} {w : World} {K : PySem.W.Frag} {h : Heap} {mg : Str → Option Value} {f : Addr} (X : K.In h) (G : h.Ns mainGlobals mg) (hfa : mg ("law" : Str) = some (.ref f)) (c : He.SaysD fa fn K) (cs : xns.map (supObs K) = xvs) (cx : ex K = true) (hfl : ((P.main.file : Str) == fl) = true) (htop : (P.main.scope.names.lookup ("super" : Str)).isSome = false) :
    ∃ fd : FuncData, (∀ (s : Shared) (v : Value), BindsTo s fd ⟨[v], []⟩ [("_law_script", v)]) ∧ ∀ base : Heap, K.In base → base.Ns mainGlobals mg → FnOk P w K mg base CX0 6 f fd ["_law_script"] (spLaw K) := by
  obtain ⟨fd_value_at, F_value_at⟩ := c.def_ 0 (d := d_value_at) rfl
  have F_value_at : FnP K "value_at" s_value_at _ fd_value_at := F_value_at
  have g_value_at := He.glo_ok X G (c.fact 0 (f := .glo "value_at") rfl)
  have b_value_at : Binds K fd_value_at P_value_at [] := F_value_at.bindsN fun _ _ _ _ _ _ us hl => match us, hl with | [_, _, _], _ => rfl
  obtain ⟨fd_joined, F_joined⟩ := c.def_ 1 (d := d_joined) rfl
  have F_joined : FnP K "joined" s_joined _ fd_joined := F_joined
  have g_joined := He.glo_ok X G (c.fact 1 (f := .glo "joined") rfl)
  have b_joined : Binds K fd_joined P_joined [] := F_joined.bindsN fun _ _ _ _ _ _ us hl => match us, hl with | [_], _ => rfl
  obtain ⟨fd_marks_of, F_marks_of⟩ := c.def_ 2 (d := d_marks_of) rfl
  have F_marks_of : FnP K "marks_of" s_marks_of _ fd_marks_of := F_marks_of
  have g_marks_of := He.glo_ok X G (c.fact 2 (f := .glo "marks_of") rfl)
  have b_marks_of : Binds K fd_marks_of P_marks_of [] := F_marks_of.bindsN fun _ _ _ _ _ _ us hl => match us, hl with | [_, _], _ => rfl
  obtain ⟨fd_track, F_track⟩ := c.def_ 3 (d := d_track) rfl
  have F_track : FnP K "track" s_track _ fd_track := F_track
  have g_track := He.glo_ok X G (c.fact 3 (f := .glo "track") rfl)
  have b_track : Binds K fd_track P_track [] := F_track.bindsN fun _ _ _ _ _ _ us hl => match us, hl with | [_, _, _], _ => rfl
  obtain ⟨fd_rising_part, F_rising_part⟩ := c.def_ 4 (d := d_rising_part) rfl
  have F_rising_part : FnP K "rising_part" s_rising_part _ fd_rising_part := F_rising_part
  have g_rising_part := He.glo_ok X G (c.fact 4 (f := .glo "rising_part") rfl)
  have b_rising_part : Binds K fd_rising_part P_rising_part [] := F_rising_part.bindsN fun _ _ _ _ _ _ us hl => match us, hl with | [_, _, _, _], _ => rfl
  obtain ⟨fd_combined, F_combined⟩ := c.def_ 5 (d := d_combined) rfl
  have F_combined : FnP K "combined" s_combined _ fd_combined := F_combined
  have g_combined := He.glo_ok X G (c.fact 5 (f := .glo "combined") rfl)
  obtain ⟨fd_composed, F_composed⟩ := c.def_ 6 (d := d_composed) rfl
  have F_composed : FnP K "composed" s_composed _ fd_composed := F_composed
  have g_composed := He.glo_ok X G (c.fact 6 (f := .glo "composed") rfl)
  have b_composed : Binds K fd_composed P_composed [] := F_composed.bindsN fun _ _ _ _ _ _ us hl => match us, hl with | [_, _], _ => rfl
  obtain ⟨fd_flat_point, F_flat_point⟩ := c.def_ 7 (d := d_flat_point) rfl
  have F_flat_point : FnP K "flat_point" s_flat_point _ fd_flat_point := F_flat_point
  have g_flat_point := He.glo_ok X G (c.fact 7 (f := .glo "flat_point") rfl)
  have b_flat_point : Binds K fd_flat_point P_flat_point [] := F_flat_point.bindsN fun _ _ _ _ _ _ us hl => match us, hl with | [_, _], _ => rfl
  obtain ⟨fd_first_above, F_first_above⟩ := c.def_ 8 (d := d_first_above) rfl
  have F_first_above : FnP K "first_above" s_first_above _ fd_first_above := F_first_above
  have g_first_above := He.glo_ok X G (c.fact 8 (f := .glo "first_above") rfl)
  have b_first_above : Binds K fd_first_above P_first_above [] := F_first_above.bindsN fun _ _ _ _ _ _ us hl => match us, hl with | [_, _], _ => rfl
  obtain ⟨fd_greatest_value, F_greatest_value⟩ := c.def_ 9 (d := d_greatest_value) rfl
  have F_greatest_value : FnP K "greatest_value" s_greatest_value _ fd_greatest_value := F_greatest_value
  have g_greatest_value := He.glo_ok X G (c.fact 9 (f := .glo "greatest_value") rfl)
  have b_greatest_value : Binds K fd_greatest_value P_greatest_value [] := F_greatest_value.bindsN fun _ _ _ _ _ _ us hl => match us, hl with | [_, _], _ => rfl
  obtain ⟨fd_Need___init__, F_Need___init__⟩ := c.def_ 10 (d := d_Need___init__) rfl
  have F_Need___init__ : FnM K "__init__" "Need.__init__" s_Need___init__ (He.ma K (He.ga K "Need") "__init__") fd_Need___init__ := F_Need___init__
  have b_Need___init__ : Binds K fd_Need___init__ P_Need___init__ [] := F_Need___init__.bindsN fun _ _ _ _ _ _ us hl => match us, hl with | [_, _, _, _], _ => rfl
  obtain ⟨fd_Need_value_for, F_Need_value_for⟩ := c.def_ 11 (d := d_Need_value_for) rfl
  have F_Need_value_for : FnM K "value_for" "Need.value_for" s_Need_value_for (He.ma K (He.ga K "Need") "value_for") fd_Need_value_for := F_Need_value_for
  have b_Need_value_for : Binds K fd_Need_value_for P_Need_value_for [] := F_Need_value_for.bindsN fun _ _ _ _ _ _ us hl => match us, hl with | [_, _], _ => rfl
  obtain ⟨fd_Need___eq__, F_Need___eq__⟩ := c.def_ 12 (d := d_Need___eq__) rfl
  have F_Need___eq__ : FnM K "__eq__" "Need.__eq__" s_Need___eq__ (He.ma K (He.ga K "Need") "__eq__") fd_Need___eq__ := F_Need___eq__
  have b_Need___eq__ : Binds K fd_Need___eq__ P_Need___eq__ [] := F_Need___eq__.bindsN fun _ _ _ _ _ _ us hl => match us, hl with | [_, _], _ => rfl
  obtain ⟨fd_Need_excess, F_Need_excess⟩ := c.def_ 13 (d := d_Need_excess) rfl
  have F_Need_excess : FnM K "excess" "Need.excess" s_Need_excess (He.ma K (He.ga K "Need") "excess") fd_Need_excess := F_Need_excess
  have b_Need_excess : Binds K fd_Need_excess P_Need_excess [] := F_Need_excess.bindsN fun _ _ _ _ _ _ us hl => match us, hl with | [_, _], _ => rfl
  obtain ⟨fd_Need___rshift__, F_Need___rshift__⟩ := c.def_ 14 (d := d_Need___rshift__) rfl
  have F_Need___rshift__ : FnM K "__rshift__" "Need.__rshift__" s_Need___rshift__ (He.ma K (He.ga K "Need") "__rshift__") fd_Need___rshift__ := F_Need___rshift__
  have b_Need___rshift__ : Binds K fd_Need___rshift__ P_Need___rshift__ [] := F_Need___rshift__.bindsN fun _ _ _ _ _ _ us hl => match us, hl with | [_, _], _ => rfl
  obtain ⟨fd_Need___or__, F_Need___or__⟩ := c.def_ 15 (d := d_Need___or__) rfl
  have F_Need___or__ : FnM K "__or__" "Need.__or__" s_Need___or__ (He.ma K (He.ga K "Need") "__or__") fd_Need___or__ := F_Need___or__
  have b_Need___or__ : Binds K fd_Need___or__ P_Need___or__ [] := F_Need___or__.bindsN fun _ _ _ _ _ _ us hl => match us, hl with | [_, _], _ => rfl
  obtain ⟨fd_Need___and__, F_Need___and__⟩ := c.def_ 16 (d := d_Need___and__) rfl
  have F_Need___and__ : FnM K "__and__" "Need.__and__" s_Need___and__ (He.ma K (He.ga K "Need") "__and__") fd_Need___and__ := F_Need___and__
  have b_Need___and__ : Binds K fd_Need___and__ P_Need___and__ [] := F_Need___and__.bindsN fun _ _ _ _ _ _ us hl => match us, hl with | [_, _], _ => rfl
  obtain ⟨fd_Need___mul__, F_Need___mul__⟩ := c.def_ 17 (d := d_Need___mul__) rfl
  have F_Need___mul__ : FnM K "__mul__" "Need.__mul__" s_Need___mul__ (He.ma K (He.ga K "Need") "__mul__") fd_Need___mul__ := F_Need___mul__
  have b_Need___mul__ : Binds K fd_Need___mul__ P_Need___mul__ [] := F_Need___mul__.bindsN fun _ _ _ _ _ _ us hl => match us, hl with | [_, _], _ => rfl
  obtain ⟨fd_Need_mine, F_Need_mine⟩ := c.def_ 18 (d := d_Need_mine) rfl
  have F_Need_mine : FnM K "mine" "Need.mine" s_Need_mine (He.ma K (He.ga K "Need") "mine") fd_Need_mine := F_Need_mine
  have b_Need_mine : Binds K fd_Need_mine P_Need_mine [] := F_Need_mine.bindsN fun _ _ _ _ _ _ us hl => match us, hl with | [_], _ => rfl
  obtain ⟨fd_Need_theirs, F_Need_theirs⟩ := c.def_ 19 (d := d_Need_theirs) rfl
  have F_Need_theirs : FnM K "theirs" "Need.theirs" s_Need_theirs (He.ma K (He.ga K "Need") "theirs") fd_Need_theirs := F_Need_theirs
  have b_Need_theirs : Binds K fd_Need_theirs P_Need_theirs [] := F_Need_theirs.bindsN fun _ _ _ _ _ _ us hl => match us, hl with | [_], _ => rfl
  obtain ⟨fd_Need_endless, F_Need_endless⟩ := c.def_ 20 (d := d_Need_endless) rfl
  have F_Need_endless : FnM K "endless" "Need.endless" s_Need_endless (He.ma K (He.ga K "Need") "endless") fd_Need_endless := F_Need_endless
  have b_Need_endless : Binds K fd_Need_endless P_Need_endless [] := F_Need_endless.bindsN fun _ _ _ _ _ _ us hl => match us, hl with | [_], _ => rfl
  obtain ⟨fd_cell, F_cell⟩ := c.def_ 21 (d := d_cell) rfl
  have F_cell : FnP K "_law_cell" s_cell _ fd_cell := F_cell
  have g_cell := He.glo_ok X G (c.fact 10 (f := .glo "_law_cell") rfl)
  have b_cell : Binds K fd_cell P_cell [] := F_cell.bindsN fun _ _ _ _ _ _ us hl => match us, hl with | [_, _], _ => rfl
  obtain ⟨fd_draws, F_draws⟩ := c.def_ 22 (d := d_draws) rfl
  have F_draws : FnP K "_law_draws" s_draws _ fd_draws := F_draws
  have g_draws := He.glo_ok X G (c.fact 11 (f := .glo "_law_draws") rfl)
  have b_draws : Binds K fd_draws P_draws [] := F_draws.bindsN fun _ _ _ _ _ _ us hl => match us, hl with | [_, _], _ => rfl
  obtain ⟨fd_take, F_take⟩ := c.def_ 23 (d := d_take) rfl
  have F_take : FnP K "_law_take" s_take _ fd_take := F_take
  have g_take := He.glo_ok X G (c.fact 12 (f := .glo "_law_take") rfl)
  have b_take : Binds K fd_take P_take [] := F_take.bindsN fun _ _ _ _ _ _ us hl => match us, hl with | [_, _], _ => rfl
  obtain ⟨fd_need, F_need⟩ := c.def_ 24 (d := d_need) rfl
  have F_need : FnP K "_law_need" s_need _ fd_need := F_need
  have g_need := He.glo_ok X G (c.fact 13 (f := .glo "_law_need") rfl)
  have b_need : Binds K fd_need P_need [] := F_need.bindsN fun _ _ _ _ _ _ us hl => match us, hl with | [_, _], _ => rfl
  obtain ⟨fd_make, F_make⟩ := c.def_ 25 (d := d_make) rfl
  have F_make : FnP K "_law_make" s_make _ fd_make := F_make
  have g_make := He.glo_ok X G (c.fact 14 (f := .glo "_law_make") rfl)
  have b_make : Binds K fd_make P_make [] := F_make.bindsN fun _ _ _ _ _ _ us hl => match us, hl with | [_], _ => rfl
  obtain ⟨fd_alike, F_alike⟩ := c.def_ 26 (d := d_alike) rfl
  have F_alike : FnP K "_law_alike" s_alike _ fd_alike := F_alike
  have g_alike := He.glo_ok X G (c.fact 15 (f := .glo "_law_alike") rfl)
  have b_alike : Binds K fd_alike P_alike [] := F_alike.bindsN fun _ _ _ _ _ _ us hl => match us, hl with | [_, _], _ => rfl
  obtain ⟨fd_told_equal, F_told_equal⟩ := c.def_ 27 (d := d_told_equal) rfl
  have F_told_equal : FnP K "_law_told_equal" s_told_equal _ fd_told_equal := F_told_equal
  have g_told_equal := He.glo_ok X G (c.fact 16 (f := .glo "_law_told_equal") rfl)
  have b_told_equal : Binds K fd_told_equal P_told_equal [] := F_told_equal.bindsN fun _ _ _ _ _ _ us hl => match us, hl with | [_, _], _ => rfl
  obtain ⟨fd_lattice, F_lattice⟩ := c.def_ 28 (d := d_lattice) rfl
  have F_lattice : FnP K "_law_lattice" s_lattice _ fd_lattice := F_lattice
  have g_lattice := He.glo_ok X G (c.fact 17 (f := .glo "_law_lattice") rfl)
  have b_lattice : Binds K fd_lattice P_lattice [] := F_lattice.bindsN fun _ _ _ _ _ _ us hl => match us, hl with | [_, _, _], _ => rfl
  obtain ⟨fd_rounds, F_rounds⟩ := c.def_ 29 (d := d_rounds) rfl
  have F_rounds : FnP K "_law_rounds" s_rounds _ fd_rounds := F_rounds
  have g_rounds := He.glo_ok X G (c.fact 18 (f := .glo "_law_rounds") rfl)
  have b_rounds : Binds K fd_rounds P_rounds [] := F_rounds.bindsN fun _ _ _ _ _ _ us hl => match us, hl with | [_, _], _ => rfl
  obtain ⟨fd_law, F_law⟩ := c.def_ 30 (d := d_law) rfl
  have F_law : FnP K "law" s_law _ fd_law := F_law
  have g_law := He.glo_ok X G (c.fact 19 (f := .glo "law") rfl)
  have m_abs := He.free_ok X G (c.fact 20 (f := .free "abs") rfl)
  have m_enumerate := He.free_ok X G (c.fact 21 (f := .free "enumerate") rfl)
  have m_int := He.free_ok X G (c.fact 22 (f := .free "int") rfl)
  have m_isinstance := He.free_ok X G (c.fact 23 (f := .free "isinstance") rfl)
  have m_len := He.free_ok X G (c.fact 24 (f := .free "len") rfl)
  have m_list := He.free_ok X G (c.fact 25 (f := .free "list") rfl)
  have m_max := He.free_ok X G (c.fact 26 (f := .free "max") rfl)
  have m_range := He.free_ok X G (c.fact 27 (f := .free "range") rfl)
  have m_sorted := He.free_ok X G (c.fact 28 (f := .free "sorted") rfl)
  have m_super := He.free_ok X G (c.fact 29 (f := .free "super") rfl)
  have m_tuple := He.free_ok X G (c.fact 30 (f := .free "tuple") rfl)
  have g_Need := He.glo_ok X G (c.fact 31 (f := .glo "Need") rfl)
  have cls_Need := He.cls_ok (c.fact 32 (f := .cls "Need") rfl)
  have mk_Need := He.mkr_ok (c.fact 33 (f := .mkr "Need") rfl)
  have n_Need_start := He.noat_ok (c.fact 34 (f := .noat "Need" "start") rfl)
  have n_Need_rises := He.noat_ok (c.fact 35 (f := .noat "Need" "rises") rfl)
  have n_Need_never := He.noat_ok (c.fact 36 (f := .noat "Need" "never") rfl)
  have me_Need_value_for := He.meth_ok (c.fact 37 (f := .meth "Need" "value_for") rfl)
  have me_Need_excess := He.meth_ok (c.fact 38 (f := .meth "Need" "excess") rfl)
  have me_Need_mine := He.meth_ok (c.fact 39 (f := .meth "Need" "mine") rfl)
  have me_Need_theirs := He.meth_ok (c.fact 40 (f := .meth "Need" "theirs") rfl)
  have me_Need_endless := He.meth_ok (c.fact 41 (f := .meth "Need" "endless") rfl)
  have g0_MOST_TIMES := He.int_ok X G (c.fact 42 (f := .int "MOST_TIMES" 400) rfl)
  obtain ⟨tok_MOST_TIMES, g_MOST_TIMES⟩ := g0_MOST_TIMES
  have g_HouseError := He.glo_ok X G (c.fact 43 (f := .glo "HouseError") rfl)
  have g_BadCount := He.glo_ok X G (c.fact 44 (f := .glo "BadCount") rfl)
  obtain ⟨cx, cy⟩ := He.ba cx
  have isC := isB_ok cls_Need (all_at cx 0)
  obtain ⟨z1, z2, z3⟩ := spB_ok (all_at cx 1)
  obtain ⟨r1, r2, r3⟩ := spB_ok (all_at cx 2)
  obtain ⟨o1, o2, o3⟩ := spB_ok (all_at cx 3)
  obtain ⟨a1, a2, a3⟩ := spB_ok (all_at cx 4)
  obtain ⟨u1, u2, u3⟩ := spB_ok (all_at cx 5)
  have sf := all_at cx 6
  have hr0 := He.eqO_ok (all_at cx 7)
  obtain ⟨fo, hfo⟩ := Option.isSome_iff_exists.mp (all_at cx 8)
  obtain ⟨ro, hro⟩ := Option.isSome_iff_exists.mp (all_at cx 9)
  have hsub := of_decide_eq_true (all_at cx 10)
  have fB := exnB_ok (all_at cy 0)
  have e := hfa.symm.trans g_law
  cases e
  have b := FunD.bindsA (ps := ["_law_script"]) F_law fun _ _ _ _ _ _ us hl => match us, hl with | [_], _ => rfl
  refine ⟨fd_law, fun s v => b s [v] rfl, fun base _ _ => ?_⟩
  have x_BadCount : Exn P w K mg base "BadCount" (He.ga K "BadCount") "value" := xn_BadCount (sup_at cs 0) fB hfl htop g_BadCount m_super
  have c_cell : Cal P w K mg base 1 "_law_cell" (spCell K) := cal_of F_cell g_cell b_cell (ok_cell F_cell m_len m_int)
  have c_draws : Cal P w K mg base 1 "_law_draws" spDraws := cal_of F_draws g_draws b_draws (ok_draws F_draws m_int m_abs m_range)
  have c_take : Cal P w K mg base 1 "_law_take" (spTake K) := cal_of F_take g_take b_take (ok_take F_take m_len)
  have c_value_at : Cal P w K mg base 1 "value_at" (spValueAt K) := cal_of F_value_at g_value_at b_value_at (ok_value_at F_value_at)
  have c_greatest_value : Cal P w K mg base 1 "greatest_value" (spGreatest K) := cal_of F_greatest_value g_greatest_value b_greatest_value (ok_greatest_value F_greatest_value m_len)
  have c_joined : Cal P w K mg base 1 "joined" (spJoined K) := cal_of F_joined g_joined b_joined (ok_joined F_joined m_len m_tuple)
  have c_marks_of : Cal P w K mg base 1 "marks_of" (spMarks K) := cal_of F_marks_of g_marks_of b_marks_of (ok_marks_of F_marks_of m_list m_sorted m_int)
  have c_track : Cal P w K mg base 1 "track" (spTrack K) := cal_of F_track g_track b_track (ok_track F_track m_len)
  have c_rising_part : Cal P w K mg base 1 "rising_part" (spRPart K) := cal_of F_rising_part g_rising_part b_rising_part (ok_rising_part F_rising_part m_max)
  have c_combined : CalK P w K mg base 2 "combined" 2 ["smaller"] (fun vs zs => vs ++ zs) (spCombined2 K) := ⟨_, _, _, _, ok_combined F_combined m_len m_enumerate c_marks_of c_track c_rising_part c_joined, g_combined, F_combined.kp, kb_combined F_combined⟩
  have c_composed : Cal P w K mg base 2 "composed" (spComposed K) := cal_of F_composed g_composed b_composed (ok_composed F_composed m_max c_value_at c_joined)
  have k_Need : Mak P w K mg base 2 "Need" (spNeed (He.ga K "Need") K) := mak_need (si := ok_init F_Need___init__ cls_Need n_Need_start n_Need_rises n_Need_never m_tuple c_greatest_value) mk_Need g_Need b_Need___init__
  have me_value_for : Met P w K mg base 2 (He.ga K "Need") "value_for" (spCallN (He.ga K "Need") K) := ⟨_, _, _, cls_Need, me_Need_value_for, ok_value_for F_Need_value_for cls_Need n_Need_start n_Need_rises n_Need_never c_value_at, b_Need_value_for⟩
  have e_Need : Eqo P w K mg base 1 (He.ga K "Need") (spEqG (He.ga K "Need") K) := ⟨_, _, _, ok_eqG F_Need___eq__ isC m_isinstance g_Need cls_Need n_Need_start n_Need_rises n_Need_never, z1, z2, b_Need___eq__⟩
  have c_flat_point : Cal P w K mg base 1 "flat_point" (spFlat K) := cal_of F_flat_point g_flat_point b_flat_point (ok_flat_point F_flat_point)
  have c_first_above : Cal P w K mg base 2 "first_above" (spFA K) := cal_of F_first_above g_first_above b_first_above (ok_first_above F_first_above m_len m_enumerate c_marks_of c_track)
  have me_excess : Met P w K mg base 3 (He.ga K "Need") "excess" (spExcess (He.ga K "Need") K) := ⟨_, _, _, cls_Need, me_Need_excess, ok_excess F_Need_excess cls_Need n_Need_start n_Need_rises n_Need_never c_first_above, b_Need_excess⟩
  have me_mine : Met P w K mg base 4 (He.ga K "Need") "mine" (spMine (He.ga K "Need") K) := ⟨_, _, _, cls_Need, me_Need_mine, ok_mine F_Need_mine cls_Need n_Need_start n_Need_rises n_Need_never c_flat_point k_Need, b_Need_mine⟩
  have me_theirs : Met P w K mg base 4 (He.ga K "Need") "theirs" (spTheirs (He.ga K "Need") K) := ⟨_, _, _, cls_Need, me_Need_theirs, ok_theirs F_Need_theirs cls_Need n_Need_start n_Need_rises n_Need_never c_flat_point k_Need, b_Need_theirs⟩
  have me_endless : Met P w K mg base 4 (He.ga K "Need") "endless" (spEndless (He.ga K "Need") K) := ⟨_, _, _, cls_Need, me_Need_endless, ok_endless F_Need_endless cls_Need n_Need_start n_Need_rises n_Need_never c_flat_point k_Need, b_Need_endless⟩
  have o_rshift : Bin2 P w K mg base 4 (He.ga K "Need") "__rshift__" (spRsh (He.ga K "Need") K) := ⟨_, _, _, ok_rshift F_Need___rshift__ cls_Need n_Need_start n_Need_rises n_Need_never k_Need me_value_for c_composed, r1, r2, b_Need___rshift__, sf⟩
  have o_or : Bin2 P w K mg base 4 (He.ga K "Need") "__or__" (spMM true (He.ga K "Need") K) := ⟨_, _, _, ok_or F_Need___or__ cls_Need n_Need_start n_Need_rises n_Need_never k_Need c_combined, o1, o2, b_Need___or__, sf⟩
  have o_and : Bin2 P w K mg base 4 (He.ga K "Need") "__and__" (spMM false (He.ga K "Need") K) := ⟨_, _, _, ok_and F_Need___and__ cls_Need n_Need_start n_Need_rises n_Need_never k_Need c_combined, a1, a2, b_Need___and__, sf⟩
  have o_mul : BinI P w K mg base 5 (He.ga K "Need") .Mult (spMul (He.ga K "Need") (He.ga K "BadCount") K) := ⟨_, _, _, fo, ro, ok_mul F_Need___mul__ g_MOST_TIMES m_range x_BadCount k_Need o_rshift, u1, u2, b_Need___mul__, sf, hr0, hfo, hro, hsub⟩
  have c_need : Cal P w K mg base 2 "_law_need" (spLN K) := cal_of F_need g_need b_need (ok_need F_need m_int m_range m_len m_tuple c_take)
  have c_make : Cal P w K mg base 4 "_law_make" (spMake (He.ga K "Need") K) := cal_of F_make g_make b_make (ok_make F_make k_Need)
  have c_alike : Cal P w K mg base 2 "_law_alike" (spAlike (He.ga K "Need") K) := cal_of F_alike g_alike b_alike (ok_alike F_alike isC m_isinstance g_Need cls_Need n_Need_start n_Need_rises n_Need_never e_Need)
  have c_told_equal : Cal P w K mg base 4 "_law_told_equal" (spTold (He.ga K "Need") K) := cal_of F_told_equal g_told_equal b_told_equal (ok_told_equal F_told_equal cls_Need n_Need_start n_Need_rises n_Need_never e_Need me_excess)
  have c_lattice : Cal P w K mg base 5 "_law_lattice" (spLat (He.ga K "Need") K) := cal_of F_lattice g_lattice b_lattice (ok_lattice F_lattice c_alike o_rshift o_or o_and)
  have c_rounds : Cal P w K mg base 5 "_law_rounds" (spRounds (He.ga K "Need") K) := cal_of F_rounds g_rounds b_rounds (ok_rounds F_rounds c_alike o_rshift me_mine me_theirs me_endless me_excess)
  exact ok_law F_law m_int m_list cls_Need n_Need_start n_Need_rises n_Need_never c_draws c_cell c_need c_make k_Need c_alike c_told_equal c_lattice c_rounds o_rshift o_or o_mul
end Z
open PySem PySem.W PySem.Calls PyProof.Rows
theorem PySem.Challenge.cw_signedpacts_k21_whole_need_algebra_holds : PySem.Challenge.rw_signedpacts_k21_whole_need_algebra.Holds := by
  w_on; o_law
  refine HandSHeadRun.head_any (r := OpenLaw.row PySem.Challenge.rw_signedpacts_k21_whole_need_algebra) (q := view (OpenLaw.row PySem.Challenge.rw_signedpacts_k21_whole_need_algebra).prog [30]) (H := Z.hk) (ob := Z.ob) (M := 8000) (loose := Z.loose) (d := HandSHeadRun.topDef (OpenLaw.row PySem.Challenge.rw_signedpacts_k21_whole_need_algebra).prog 30) (kwd := []) Z.ob_eq
    (by kernel_rfl) (fun s => by kernel_rfl) Z.run (by kernel_rfl) (by kernel_rfl) (by kernel_rfl) (by rfl) (by first | assumption | decide +kernel) (by decide +kernel) ⟨rfl, rfl, rfl, rfl, rfl, by decide +kernel⟩ ?hw ?hc
  case hw => w_witness2
  case hc =>
    refine L2.walk_ofE (l := PySem.Challenge.rw_signedpacts_k21_whole_need_algebra) (n := 63) (k := 6) (x := "_law_script") (CX := L2.CX0) rfl (by decide) (by kernel_rfl) ⟨rfl, by decide, by decide⟩ ?F (fun _ _ _ _ z => z)
    intro w mg fa h Y G hmg0
    obtain ⟨K, KX, c, cs, cx⟩ := Y
    have hmg : mg ("law" : PySem.Str) = some (.ref fa) := by
      have e : (HandSHeadRun.topDef (OpenLaw.row PySem.Challenge.rw_signedpacts_k21_whole_need_algebra).prog 30).name = ("law" : PySem.Str) := by kernel_rfl
      rw [← e]
      exact hmg0
    obtain ⟨fd, hb, hF⟩ := Z.facts (P := (PySem.Challenge.rw_signedpacts_k21_whole_need_algebra).prog) (w := w) KX G hmg c cs cx (by kernel_rfl) (by kernel_rfl)
    exact ⟨K, fd, Z.spLaw K, KX, hb, fun H a ns hl _ hS => ⟨a, ns, rfl, hS, fun _ => rfl⟩, hF⟩
