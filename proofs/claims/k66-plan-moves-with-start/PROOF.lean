import PyProof.Rows.All
import Wide.All
import OpenK.AllK
import Wide.FinOn
import HandS.ForMost
import HandS.Zip
import HandS.TupMul
import HandS.Codes
import KE.GoesMore
import KE.GoesEnum
import HandS.Defaults
import HandS.IsInst
import HandS.Wide
import HandS.WideBits
import HandS.NoneIn
import HandS.OwnEq
import HandS.Star
import HandS.SetTxtIn
import HandS.ExcInit
import HandS.ExcField
import HandS.ExcIs
import HandS.Nested
import HandS.ClsMeth
import HandS.HeadHook1
import KE.KSuper
import KE.KExcSuper
import HandS.WordsExc
import HandS.ExcInitHot
import KE.KExcIs
import HandS.HeadHook2
import HandS.Property
import HandS.TupAny
import KE.KEqDeep
import HandS.Comp
import HandS.Conv
import HandS.Style
import HandS.Dict
import HandS.Head0
import HandS.Head1
import HandS.Head2
import HandS.HeadEnd
import PySem.Challenge.RW_signedpacts_k66_plan_moves_with_start
set_option Elab.async false
set_option linter.all false
set_option maxRecDepth 100000
set_option maxHeartbeats 4000000
namespace Z
open PySem PySem.Spec PyProof.Rows L2
/-! ### zip over two sequences, each a list (true) or a tuple (false) -/
def SqK (b : Bool) (K : PySem.W.Frag) (H : Hp) (a : Addr) (xs : List V) : Prop := match b with
  | true => SqL K H a xs
  | false => SqT K H a xs
def ItK (b : Bool) (h : Heap) (it l : Addr) (i : Nat) : Prop := match b with
  | true => h.IsListIter it l i
  | false => h.IsTupleIter it l i
def IsK (b : Bool) (h : Heap) (l : Addr) (xs : Array Value) : Prop := match b with
  | true => h.IsList l xs
  | false => h.IsTuple l xs
theorem ItK.at' {b : Bool} {h h' : Heap} {it l : Addr} {i : Nat} (x : ItK b h it l i) (k : ∀ o, h.get? it = some o → h'.get? it = some o) : ItK b h' it l i := by
  cases b
  · exact Heap.IsTupleIter.at x k
  · exact Heap.IsListIter.at x k
theorem ItK.obj {b : Bool} {h : Heap} {it l : Addr} {i : Nat} (x : ItK b h it l i) : ∃ o, h.get? it = some o ∧ ∀ v, o.data ≠ .cell v := by
  cases b
  · obtain ⟨o, e, _, d⟩ := (show h.IsTupleIter it l i from x)
    exact ⟨o, e, fun v q => by rw [d] at q; cases q⟩
  · obtain ⟨o, e, _, d⟩ := (show h.IsListIter it l i from x)
    exact ⟨o, e, fun v q => by rw [d] at q; cases q⟩
theorem sqk_is {X : Cx} {pins : List (Addr × Obj)} {σ : L2.St} {H : Hp} {s : Shared} {b : Bool} {a : Addr} {xs : List V} (I : Inv X pins σ H s) (h : SqK b X.K H a xs) :
    ∃ its : List Value, Vals xs its ∧ IsK b s.heap a its.toArray ∧ a < s.heap.objs.size := by
  cases b
  · obtain ⟨its, r, p, _⟩ := I.tuple h
    obtain ⟨o, ho, _⟩ := id p
    exact ⟨its, r, p, Heap.lt_size ho⟩
  · obtain ⟨its, r, p, _⟩ := I.list h
    exact ⟨its, r, p.isList, p.lt⟩
theorem sqk_inj {X : Cx} {pins : List (Addr × Obj)} {σ : L2.St} {H : Hp} {s : Shared} {b : Bool} {a : Addr} {xs ys : List V} (I : Inv X pins σ H s) (h : SqK b X.K H a xs) (h' : SqK b X.K H a ys) : xs = ys := by
  cases b
  · exact I.tuple_inj h h'
  · exact I.list_inj h h'
theorem drawsK {prog : Program} {w : World} {A : Around} (b : Bool) (hh : A.handled = none) (it l : Addr) (hne : l ≠ it) (items : Array Value) :
    Draws prog w A it [it, l] items.size (fun i v => items[i]? = some v) (fun i h => ItK b h it l i ∧ IsK b h l items) := by
  cases b
  · exact Draws.tuple hh it l hne items
  · exact Draws.list hh it l hne items
def ItzM (p q : Bool) (K : PySem.W.Frag) (a b : Addr) : It :=
  ⟨fun i H => ∃ (xs ys : List V) (x y : V), SqK p K H a xs ∧ SqK q K H b ys ∧ xs[i]? = some x ∧ ys[i]? = some y,
   fun i H v H' => ∃ T x y, v = .ref T ∧ H T = none ∧ H' = upd H T (.tup [x, y]) ∧ (∀ xs, SqK p K H a xs → xs[i]? = some x) ∧ (∀ ys, SqK q K H b ys → ys[i]? = some y),
   fun i H => ∃ xs ys : List V, SqK p K H a xs ∧ SqK q K H b ys ∧ (xs.length ≤ i ∨ ys.length ≤ i) ∧ i ≤ xs.length ∧ i ≤ ys.length⟩
theorem zsep {z TI TO i1 i2 a b : Addr} (D : ZipApart z TI TO i1 i2 a b) : ZipSep2 z TI TO i1 i2 [i1, a] [i2, b] where
  TIz := D.TIz
  TOz := D.TOz
  TITO := D.TITO
  TIi1 := D.TIi1
  mem1 := List.mem_cons_self
  zf1 := fun h => by rcases List.mem_cons.mp h with e | h; exact D.i1z e.symm; exact D.l1z (List.mem_singleton.mp h).symm
  Tf1 := fun h => by rcases List.mem_cons.mp h with e | h; exact D.TOi1 e; exact D.l1TO (List.mem_singleton.mp h).symm
  TIi2 := D.TIi2
  mem2 := List.mem_cons_self
  zf2 := fun h => by rcases List.mem_cons.mp h with e | h; exact D.i2z e.symm; exact D.l2z (List.mem_singleton.mp h).symm
  Tf2 := fun h => by rcases List.mem_cons.mp h with e | h; exact D.TOi2 e; exact D.l2TO (List.mem_singleton.mp h).symm
  sep1_2 := fun h => by rcases List.mem_cons.mp h with e | h; exact D.i12 e; exact D.l2i1 (List.mem_singleton.mp h).symm
  sep2_1 := fun h => by rcases List.mem_cons.mp h with e | h; exact D.i12 e.symm; exact D.l1i2 (List.mem_singleton.mp h).symm
theorem five {c z TI TO i1 i2 : Addr} {Pr : Addr → Prop} (hc : c ∈ [z, TI, TO, i1, i2]) (a : Pr z) (b : Pr TI) (d : Pr TO) (e : Pr i1) (f : Pr i2) : Pr c := by
  have q : c = z ∨ c = TI ∨ c = TO ∨ c = i1 ∨ c = i2 := by simpa using hc
  rcases q with rfl | rfl | rfl | rfl | rfl <;> assumption
theorem turn_zipM {p q : Bool} {P : Program} {w : World} {K : PySem.W.Frag} {elts : List Expr} {kk : Nat} {tpos : Pos} {a b z TI TO i1 i2 : Addr} (D : ZipApart z TI TO i1 i2 a b) :
    Turn P w K (.Tuple elts kk tpos) (ItzM p q K a b) [z, TI, TO, i1, i2] z (fun i h => IsZip h z TI TO .none ∧ IsTupOf2 h TI (.ref i1) (.ref i2) ∧ (∃ x y, IsTupOf2 h TO x y) ∧ ItK p h i1 a i ∧ ItK q h i2 b i) where
  mem := by simp
  obj := fun i h st c hc => by
    obtain ⟨hz, hI, ⟨x, y, hO⟩, h1, h2⟩ := st
    exact five (Pr := fun c => ∃ o, h.get? c = some o ∧ ∀ v, o.data ≠ .cell v) hc ⟨_, hz, fun v q => nomatch q⟩ ⟨_, hI, fun v q => nomatch q⟩ ⟨_, hO, fun v q => nomatch q⟩ h1.obj h2.obj
  keep := fun i h h' st k => by
    obtain ⟨hz, hI, ⟨x, y, hO⟩, h1, h2⟩ := st
    exact ⟨k z (by simp) _ hz, k TI (by simp) _ hI, ⟨x, y, k TO (by simp) _ hO⟩, h1.at' (fun o e => k i1 (by simp) o e), h2.at' (fun o e => k i2 (by simp) o e)⟩
  item := by
    intro X hP hw hK hc i pins s σ H E I hf st hg
    subst hP hw hK
    obtain ⟨hz, hI, ⟨x0, y0, hO⟩, h1, h2⟩ := st
    obtain ⟨xs, ys, x, y, qx, qy, ex, ey⟩ := hg
    obtain ⟨us, rx, kx, _⟩ := sqk_is I qx
    obtain ⟨vs, ry, ky, _⟩ := sqk_is I qy
    obtain ⟨u, eu, ru⟩ := rx.get ex
    obtain ⟨v, ev, rv⟩ := ry.get ey
    have hzl : z < s.heap.objs.size := Heap.lt_size hz
    have lu : i < us.toArray.size := by simpa using (List.getElem?_eq_some_iff.mp eu).1
    have lv : i < vs.toArray.size := by simpa using (List.getElem?_eq_some_iff.mp ev).1
    have hh : X.A.in1.handled = none := I.ok.hd hc
    refine wpAny_pyNext_zipD2_item (zsep D) (drawsK p hh i1 a D.l1i1 us.toArray) (drawsK q hh i2 b D.l2i2 vs.toArray) hz hI hO ⟨h1, kx⟩ ⟨h2, ky⟩ lu lv fun m1 m2 g tk p1 p2 gz gO g1 g2 gT gs gk => ?_
    have e1 : m1 = u := by
      have t1 : us.toArray[i]? = some u := by simpa using eu
      exact Option.some.inj (p1.symm.trans t1)
    have e2 : m2 = v := by
      have t1 : vs.toArray[i]? = some v := by simpa using ev
      exact Option.some.inj (p2.symm.trans t1)
    subst e1 e2
    refine ⟨_, rfl, wpAny_letOwnedTupleGo_zip (s := { s with heap := g, toks := tk }) gz fun g' gz' sb => ?_⟩
    have gT' : g'.get? s.heap.objs.size = some { cls := .type "tuple", data := .seq #[m1, m2] } := (sb.2 _ (Nat.ne_of_gt hzl)).trans gT
    have nw : ObjOk X.prog X.w (upd H s.heap.objs.size (.tup [x, y])) g' s.heap.objs.size (.tup [x, y]) := ⟨by show 2 ≤ sizeLine; decide, [m1, m2], .cons ru (.cons rv .nil), ⟨_, gT', rfl, _, rfl⟩⟩
    have I1 : Inv X pins σ (upd H s.heap.objs.size (.tup [x, y])) { s with heap := g', toks := tk } :=
      I.turnedNew (t' := tk) (ch := [z, TI, TO, i1, i2]) (fun c o nb e => (sb.2 c (fun w => nb (by simp [w]))).trans (gk c o (fun w => nb (by simp [w])) (fun w => nb (by simp [w])) (fun w => nb (by simp [w])) (fun w => nb (by simp [w])) e)) hf (Nat.le_refl _) nw
    refine ⟨.ref s.heap.objs.size, _, I1, rfl, ⟨_, x, y, rfl, I.hok.fresh (Nat.le_refl _), rfl, fun l hl => by rw [sqk_inj I hl qx]; exact ex, fun l hl => by rw [sqk_inj I hl qy]; exact ey⟩, ⟨gz', ?_, ⟨m1, m2, ?_⟩, ?_, ?_⟩, fun c hcm => ?_⟩
    · exact (sb.2 _ D.TIz).trans (gk _ _ D.TIz D.TITO D.TIi1 D.TIi2 hI)
    · exact (sb.2 _ D.TOz).trans gO
    · exact ItK.at' g1.1 (fun o e => (sb.2 _ D.i1z).trans e)
    · exact ItK.at' g2.1 (fun o e => (sb.2 _ D.i2z).trans e)
    · have lt : c < s.heap.objs.size := by
        obtain ⟨o1, q1, _⟩ := h1.obj
        obtain ⟨o2, q2, _⟩ := h2.obj
        exact five (Pr := fun c => c < s.heap.objs.size) hcm hzl (Heap.lt_size hI) (Heap.lt_size hO) (Heap.lt_size q1) (Heap.lt_size q2)
      rw [upd_ne (Nat.ne_of_lt lt)]
      exact (hf c hcm).1
  done := by
    intro X hP hw hK hc i pins s σ H E I hf st hg
    subst hP hw hK
    obtain ⟨hz, hI, ⟨x0, y0, hO⟩, h1, h2⟩ := st
    obtain ⟨xs, ys, qx, qy, hend, le1, le2⟩ := hg
    obtain ⟨us, rx, kx, _⟩ := sqk_is I qx
    obtain ⟨vs, ry, ky, _⟩ := sqk_is I qy
    have l1 := rx.length
    have l2 := ry.length
    have n1 : us.toArray.size = us.length := by simp
    have n2 : vs.toArray.size = vs.length := by simp
    have hh : X.A.in1.handled = none := I.ok.hd hc
    refine wpAny_pyNext_zipD2_end (i := i) (zsep D) (drawsK p hh i1 a D.l1i1 us.toArray) (drawsK q hh i2 b D.l2i2 vs.toArray) hz hI hO ⟨h1, kx⟩ ⟨h2, ky⟩ (by omega) (by omega) (by omega) fun g tk gk => ?_
    exact ⟨rfl, I.turnedL (t' := tk) (ch := [z, TI, TO, i1, i2]) (fun c o nb e => gk c o (fun w => nb (by simp [w])) (fun w => nb (by simp [w])) (fun w => nb (by simp [w])) (fun w => nb (by simp [w])) e) hf⟩
  self := fun A i s Q E st h => wpAny_pyIter_zip st.1 h
def iZipM (K : PySem.W.Frag) (ta : TA) : TI := fun σ H R => ta σ H fun vs H1 => ∃ p q a b xs ys, vs = [.ref a, .ref b] ∧ SqK p K H1 a xs ∧ SqK q K H1 b ys ∧ R (ItzM p q K a b) H1
theorem begK {p : Bool} {h : Heap} {a : Addr} {xs : Array Value} (k : IsK p h a xs) : ∃ o Hp', Begins (.ref a) o Hp' ∧ Hp' h ∧ ∀ h' it, h'.get? it = some o → ItK p h' it a 0 := by
  cases p
  · exact ⟨_, _, begins_tuple a xs, k, fun h' it e => ⟨_, e, rfl, rfl⟩⟩
  · exact ⟨_, _, begins_list a xs, k, fun h' it e => ⟨_, e, rfl, rfl⟩⟩
theorem pi_zipM {X : Cx} {e e2 : Expr} {ta : TA} {p pos tpos : Pos} {elts : List Expr} {kk : Nat} (hg : Gl X "zip") (hm : X.mg "zip" = none) (ha : PA X [e, e2] ta)
    (hs : starEach [e, e2] X.env = (false, eval e X.env) :: starEach [e2] X.env := by rfl) (hpl : (backTo pos (starEach [e2] X.env)).any (·.1) = false := by rfl) :
    PI X (.Tuple elts kk tpos) (.Call (.Name "zip" p) [e, e2] [] pos) (iZipM X.K ta) := by
  constructor
  intro pins s σ H R I h
  refine Call_ (ld_blt I hg hm PyProof.Rows.boot_zip (PyProof.Rows.callWith_type1 (thn (ha.run pos pins s σ H _ I h) fun us s1 ⟨vs, H1, I1, r1, q1⟩ => ?_) hs hpl))
  obtain ⟨k1, k2, a, b, xs, ys, ex, qx, qy, q⟩ := q1
  subst ex
  obtain ⟨u, v, rfl, ru, rv⟩ := Vals.two r1
  cases ru
  cases rv
  obtain ⟨i1, _, p1, lt1⟩ := sqk_is I1 qx
  obtain ⟨i2, _, p2, lt2⟩ := sqk_is I1 qy
  obtain ⟨o1, G1, B1, g1, w1⟩ := begK p1
  obtain ⟨o2, G2, B2, g2, w2⟩ := begK p2
  refine zip_begins2 B1 B2 g1 g2 fun h' hz hI hO e1 e2 hsz hk => wpAny_pyIter_zip hz ?_
  have I2 : Inv X pins σ H1 { s1 with heap := h' } := I1.kept (t' := s1.toks) hk
  refine ⟨s1.heap.objs.size + 4, [s1.heap.objs.size + 4, s1.heap.objs.size + 2, s1.heap.objs.size + 3, s1.heap.objs.size, s1.heap.objs.size + 1], _, _, H1, rfl, I2, turn_zipM (PySem.W.ktu_apart s1.heap.objs.size a b lt1 lt2), ⟨hz, hI, ⟨_, _, hO⟩, w1 _ _ e1, w2 _ _ e2⟩, fun c hcm => ?_, q⟩
  have hle : s1.heap.objs.size ≤ c := five (Pr := fun c => s1.heap.objs.size ≤ c) hcm (Nat.le_add_right _ _) (Nat.le_add_right _ _) (Nat.le_add_right _ _) (Nat.le_refl _) (Nat.le_add_right _ _)
  exact I1.fpOk hle (I1.hok.fresh hle)
end Z
set_option Elab.async false
set_option linter.all false
set_option maxRecDepth 100000
set_option maxHeartbeats 4000000
namespace Z
open PySem PySem.Spec PyProof.Rows L2
/-! ### (v,) * k for 0 ≤ k -/
theorem tmul0 (l : Addr) (v : Value) (n : Nat) (dd : Option Addr) (sl : Array (Option Value)) (u : Tok) :
    Meets (Builtin.«tuple.__mul__» ⟨[.ref l, .int 0 u], []⟩) (fun _ R s => s.heap.get? l = some { cls := .type "tuple", dict := dd, data := .seq #[v] n, slots := sl } ∧
      R (.ok (.ret (Value.ref s.heap.objs.size))) { s with heap := s.heap.push { cls := Value.type "tuple", data := Data.seq #[] }, toks := s.toks }) :=
  .of_wp fun prog w A R s h => by
    obtain ⟨hp, g, d, tk, os⟩ := s
    obtain ⟨hl, h⟩ := h
    have f1 := AutoSeq1.idx_int
    wp_walk using AutoSeq1.wpAny_loadPart' hl
    exact ⟨_, rfl, h⟩
theorem tmul1 (l : Addr) (items : Array Value) (n : Nat) (dd : Option Addr) (sl : Array (Option Value)) (u : Tok) :
    Meets (Builtin.«tuple.__mul__» ⟨[.ref l, .int 1 u], []⟩) (fun _ R s => s.heap.get? l = some { cls := .type "tuple", dict := dd, data := .seq items n, slots := sl } ∧ R (.ok (.ret (Value.ref l))) s) :=
  .of_wp fun prog w A R s h => by
    obtain ⟨hp, g, d, tk, os⟩ := s
    obtain ⟨hl, h⟩ := h
    have f1 := AutoSeq1.idx_int
    wp_walk using AutoSeq1.wpAny_loadPart' hl
    exact ⟨_, rfl, h⟩
theorem same_new {H : Hp} {p : Addr} {o : HO} (h : H p = none) : Same H (upd H p o) := fun b x e => by
  rw [upd_ne (ne_of_none e h)]
  exact e
def rRepU : R2 := fun x y H Q => ∃ l k v, x = .ref l ∧ y = .int k ∧ H l = some (.tup [v]) ∧ 0 ≤ k ∧ k ≤ 1000 ∧ ∀ p H', Same H H' → H' p = some (.tup (List.replicate k.toNat v)) → Q (.ref p) H'
theorem op_repU {X : Cx} : OpR X (binaryOp .Mult) rRepU := by
  intro pins s σ H x y vv uu Q I rx ry h
  obtain ⟨l, k, v, rfl, rfl, hT, h0, h1, q⟩ := id h
  by_cases k2 : 2 ≤ k
  · refine op_repT pins s σ H _ _ vv uu Q I rx ry ⟨l, k, [v], rfl, rfl, .inl (.inl hT), by simp, k2, h1, by simp, fun p np => q p _ (same_new np) ?_⟩
    rw [upd_same]
    congr 2
    generalize k.toNat = m
    induction m with
    | zero => rfl
    | succ m ih => rw [List.replicate_succ, List.flatten_cons, ih, List.replicate_succ]; rfl
  · cases rx
    obtain ⟨t, rfl⟩ := ry
    obtain ⟨its, r, ⟨⟨cls, dd, data, sl⟩, ho, hc, n, hd⟩, hs⟩ := I.tuple (.inl (.inl hT) : SqT X.K H l [v])
    simp only at hc hd
    subst hc hd
    obtain ⟨u, rfl, ru⟩ := Vals.one r
    by_cases k1 : k = 1
    · subst k1
      refine wpAny_binaryOp_repeat_ref (T := "tuple") (U := "int") (by decide) ⟨_, ho, rfl⟩ (fun s' => typeIs_int s' 1 t) noFill_tuple_mul F.fills_int_mul F.slot_int_rmul repeat_tuple F.slot_int_index.lookup
        (call_meets F.slot_int_rmul (typeIs_int s 1 t) F.entry_int_rmul (F.args_int_rmul_2 _ _) (int_rmul_tuple 1 t l [u].toArray n dd sl)
          ⟨ho, rfl, ⟨_, ho, rfl⟩, call_meets F.slot_tuple_mul ⟨_, ho, rfl⟩ F.entry_tuple_mul (F.args_tuple_mul_2 _ _) (tmul1 l [u].toArray n dd sl t) ⟨ho, ?_⟩⟩)
      exact ⟨.ref l, H, I, rfl, q l H (Same.refl H) hT⟩
    · have k0 : k = 0 := by omega
      subst k0
      refine wpAny_binaryOp_repeat_ref (T := "tuple") (U := "int") (by decide) ⟨_, ho, rfl⟩ (fun s' => typeIs_int s' 0 t) noFill_tuple_mul F.fills_int_mul F.slot_int_rmul repeat_tuple F.slot_int_index.lookup
        (call_meets F.slot_int_rmul (typeIs_int s 0 t) F.entry_int_rmul (F.args_int_rmul_2 _ _) (int_rmul_tuple 0 t l [u].toArray n dd sl)
          ⟨ho, rfl, ⟨_, ho, rfl⟩, call_meets F.slot_tuple_mul ⟨_, ho, rfl⟩ F.entry_tuple_mul (F.args_tuple_mul_2 _ _) (tmul0 l u n dd sl t) ⟨ho, ?_⟩⟩)
      refine ⟨.ref s.heap.objs.size, _, I.laid (t' := s.toks) (o := .tup []) (fun b ob z => Heap.get?_push_of_some _ z) (Nat.le_refl _) ?_, rfl, q _ _ (same_new (I.hok.fresh (Nat.le_refl _))) upd_same⟩
      exact ⟨Nat.zero_le _, [], .nil, IsTup.new _ _⟩
/-! ### loops and comprehensions over any iterator -/
def forW (J : It) (g : TG) (tb : TS) (D : Ends) (σ : L2.St) (H : Hp) : Prop := ∃ W : Nat → Nat → L2.St → Hp → Prop, (∃ m, W 0 m σ H) ∧ ∀ i m σ H, W i m σ H →
  (J.stop i H ∧ D.nx σ H) ∨ (J.go i H ∧ ∃ N : L2.St → Hp → Prop, (∀ σ' H', N σ' H' → ∃ m', m' < m ∧ W (i + 1) m' σ' H') ∧ ∀ x H', J.yld i H x H' → g x σ H' fun σ2 H2 => tb { D with nx := N, ct := N, bk := D.nx } σ2 H2)
theorem for_gen {J : It} {n : Nat} {g : TG} {tb : TS} {D : Ends} {σ : L2.St} {H : Hp} (Pv : Nat → L2.St → Hp → Prop) (h0 : Pv 0 σ H) (hgo : ∀ i σ H, i < n → Pv i σ H → J.go i H) (hst : ∀ σ H, Pv n σ H → J.stop n H)
    (hs : ∀ i σ H x H', i < n → Pv i σ H → J.yld i H x H' → g x σ H' fun σ2 H2 => tb { D with nx := Pv (i + 1), ct := Pv (i + 1), bk := D.nx } σ2 H2) (hd : ∀ σ H, Pv n σ H → D.nx σ H) : forW J g tb D σ H := by
  refine ⟨fun i m σ H => m = n - i ∧ i ≤ n ∧ Pv i σ H, ⟨n, by omega, Nat.zero_le _, h0⟩, fun i m σ H w => ?_⟩
  obtain ⟨rfl, hi, p⟩ := w
  by_cases hlt : i < n
  · exact .inr ⟨hgo i σ H hlt p, Pv (i + 1), fun σ' H' z => ⟨n - (i + 1), by omega, rfl, hlt, z⟩, fun x H' y => hs i σ H x H' hlt p y⟩
  · have e : i = n := by omega
    subst e
    exact .inl ⟨hst σ H p, hd σ H p⟩
def lcW (J : It) (g : TG) (tt : TT) (te : TE) (vs : List Nat) (σ : L2.St) (D : Addr) (Qd : Hp → Prop) (H1 : Hp) : Prop := ∃ W : Nat → Nat → Hp → Prop, (∃ m, W 0 m (upd H1 D (.lst []))) ∧ ∀ i m H, W i m H →
  (J.stop i H ∧ Qd H) ∨ (J.go i H ∧ ∃ Nx : Hp → Prop, (∀ H', Nx H' → ∃ m', m' < m ∧ W (i + 1) m' H') ∧ ∀ x H', J.yld i H x H' → g x (wipe σ vs) H' fun σ2 H2 => wipe σ2 vs = wipe σ vs ∧ tt σ2 H2 fun b H3 =>
    if b = true then te σ2 H3 fun y H4 => ∃ acc, H4 D = some (.lst acc) ∧ acc.length < sizeLine ∧ Nx (upd H4 D (.lst (acc ++ [y]))) else Nx H3)
theorem lc_gen {J : It} {n : Nat} {g : TG} {tt : TT} {te : TE} {vs : List Nat} {σ : L2.St} {H1 : Hp} {D : Addr} {Qd : Hp → Prop} (Pv : Nat → Hp → Prop) (h0 : Pv 0 (upd H1 D (.lst []))) (hgo : ∀ i H, i < n → Pv i H → J.go i H) (hst : ∀ H, Pv n H → J.stop n H)
    (hs : ∀ i H x H', i < n → Pv i H → J.yld i H x H' → g x (wipe σ vs) H' fun σ2 H2 => wipe σ2 vs = wipe σ vs ∧ tt σ2 H2 fun b H3 =>
      if b = true then te σ2 H3 fun y H4 => ∃ acc, H4 D = some (.lst acc) ∧ acc.length < sizeLine ∧ Pv (i + 1) (upd H4 D (.lst (acc ++ [y]))) else Pv (i + 1) H3) (hd : ∀ H, Pv n H → Qd H) : lcW J g tt te vs σ D Qd H1 := by
  refine ⟨fun i m H => m = n - i ∧ i ≤ n ∧ Pv i H, ⟨n, by omega, Nat.zero_le _, h0⟩, fun i m H w => ?_⟩
  obtain ⟨rfl, hi, p⟩ := w
  by_cases hlt : i < n
  · exact .inr ⟨hgo i H hlt p, Pv (i + 1), fun H' z => ⟨n - (i + 1), by omega, rfl, hlt, z⟩, fun x H' y => hs i H x H' hlt p y⟩
  · have e : i = n := by omega
    subst e
    exact .inl ⟨hst H p, hd H p⟩
/-! ### a def of the module that may be called by its name -/
structure Cal (P : Program) (w : World) (K : PySem.W.Frag) (mg : Str → Option Value) (base : Heap) (k : Nat) (x : Str) (sp : Sp) : Prop where
  ex : ∃ (f : Addr) (fd : FuncData) (ps : List Str), FnOk P w K mg base CX0 k f fd ps sp ∧ mg x = some (.ref f) ∧ PySem.W.keepIn K (.ref f) = true ∧ Binds K fd ps []
section
variable {X : Cx} {k j : Nat} {x : Str} {sp : Sp} {p pos : Pos} {e : Expr} {es : List Expr} {t : TA}
theorem pe_cl (c : Cal X.prog X.w X.K X.mg X.base k x sp) (hr : Room j X.A) (hk : k ≤ j) (hg : Gl X x) (ha : PA X (e :: es) t)
    (hdb : (x == ("__debug__" : Str)) = false := by decide) (he : starEach (e :: es) X.env = (false, eval e X.env) :: starEach es X.env := by rfl) (hpl : (backTo pos (starEach es X.env)).any (·.1) = false := by rfl) : PE X (.Call (.Name x p) (e :: es) [] pos) (tCall sp [] E0 t) := by
  obtain ⟨f, fd, ps, F, hm, kp, b⟩ := c.ex
  exact pe_call F (hr.mono hk) hg hm kp b .nil pass0 ha hdb he hpl
end
structure CalK (P : Program) (w : World) (K : PySem.W.Frag) (mg : Str → Option Value) (base : Heap) (k : Nat) (x : Str) (n : Nat) (ks : List Str) (gV : List V → List V → List V) (sp : Sp) : Prop where
  ex : ∃ (f : Addr) (fd : FuncData) (ps : List Str) (g : List Value → List Value → List Value), FnOk P w K mg base CX0 k f fd ps sp ∧ mg x = some (.ref f) ∧ PySem.W.keepIn K (.ref f) = true ∧ KBn K fd ps n ks g gV
section
variable {X : Cx} {k j n : Nat} {x : Str} {sp : Sp} {ks : List Str} {gV : List V → List V → List V} {p pos : Pos} {e : Expr} {es : List Expr} {kws : List Keyword} {t tk : TA}
theorem pe_clK (c : CalK X.prog X.w X.K X.mg X.base k x n ks gV sp) (hr : Room j X.A) (hk : k ≤ j) (hg : Gl X x) (ha : PA X (e :: es) t) (hkw : PK X kws tk)
    (hall : (backToKw pos (keywordEach kws X.env)).all (·.1.isSome) = true := by rfl) (hks : (backToKw pos (keywordEach kws X.env)).filterMap (·.1) = ks := by rfl) (hdb : (x == ("__debug__" : Str)) = false := by decide)
    (he : starEach (e :: es) X.env = (false, eval e X.env) :: starEach es X.env := by rfl) (hpl : ((backTo pos (starEach (e :: es) X.env)).any (·.1) || (backToKw pos (keywordEach kws X.env)).any (·.1.isNone)) = false := by rfl) :
    PE X (.Call (.Name x p) (e :: es) kws pos) (tCallN n ks.length sp gV E0 t tk) := by
  obtain ⟨f, fd, ps, g, F, hm, kp, b⟩ := c.ex
  exact pe_callN F (hr.mono hk) hg hm kp b pass0 ha hkw hall hks hdb he hpl
end
/-! ### heaps -/
/-- all but p stands -/
def SB (p : Addr) (H H' : Hp) : Prop := ∀ b o, b ≠ p → H b = some o → H' b = some o
theorem Same.sb {p : Addr} {H H' : Hp} (s : Same H H') : SB p H H' := fun b o _ h => s b o h
theorem SB.trans {p : Addr} {H H1 H2 : Hp} (a : SB p H H1) (b : SB p H1 H2) : SB p H H2 := fun c o n h => b c o n (a c o n h)
theorem SB.upd {p : Addr} {H H' : Hp} {o : HO} (s : SB p H H') : SB p H (upd H' p o) := fun b u n h => by
  rw [upd_ne n]
  exact s b u n h
theorem SB.same {p : Addr} {H H' : Hp} (s : SB p H H') (n : H p = none) : Same H H' := fun b o h => s b o (ne_of_none h n) h
theorem Same.mut {p : Addr} {H H' : Hp} {o : HO} (s : Same H H') (n : H p = none) : Same H (L2.upd H' p o) := fun b u h => by
  rw [upd_ne (ne_of_none h n)]
  exact s b u h
theorem SB.sq {K : PySem.W.Frag} {p a : Addr} {H H' : Hp} {xs : List V} (s : SB p H H') (n : a ≠ p) (h : SqL K H a xs) : SqL K H' a xs := by
  rcases h with (h | ⟨o, h⟩) | h
  · exact .inl (.inl (s _ _ n h))
  · exact .inl (.inr ⟨o, s _ _ n h⟩)
  · exact .inr h
theorem Same.sqT {K : PySem.W.Frag} {a : Addr} {H H' : Hp} {xs : List V} (s : Same H H') (h : SqT K H a xs) : SqT K H' a xs := by
  rcases h with (h | ⟨o, h⟩) | h
  · exact .inl (.inl (s _ _ h))
  · exact .inl (.inr ⟨o, s _ _ h⟩)
  · exact .inr h
theorem Same.sqK {b : Bool} {K : PySem.W.Frag} {a : Addr} {H H' : Hp} {xs : List V} (s : Same H H') (h : SqK b K H a xs) : SqK b K H' a xs := by
  cases b
  · exact Z.Same.sqT s h
  · exact s.seq h
theorem at_map {α : Type} {f : α → V} {xs : List α} {i : Nat} {x : α} (h : xs[i]? = some x) : atI (xs.map f) (i : Int) = some (f x) := atI_nat (by rw [List.getElem?_map, h]; rfl)
theorem of_map {α : Type} {f : α → V} {xs : List α} {i : Nat} {v : V} (h : (xs.map f)[i]? = some v) : ∃ x, xs[i]? = some x ∧ v = f x := by
  rw [List.getElem?_map] at h
  cases e : xs[i]? with
  | none => rw [e] at h; cases h
  | some x => rw [e] at h; exact ⟨x, rfl, (Option.some.inj h).symm⟩
end Z
set_option Elab.async false
set_option linter.all false
set_option maxRecDepth 100000
set_option maxHeartbeats 4000000
namespace Z
open PySem PySem.Spec PyProof.Rows L2
/-! ### data -/
def sqD (b : Bool) (ds : List PyData) : PyData := match b with
  | true => .list ds
  | false => .tuple ds
def intsD (b : Bool) (ns : List Int) : PyData := sqD b (ns.map PyData.int)
def matD (b : Bool) (rs : List (List Int)) : PyData := sqD b (rs.map (intsD b))
theorem dp_sq {b : Bool} {K : PySem.W.Frag} {H : Hp} {a : Addr} {xs : List V} {ds : List PyData} (h : SqK b K H a xs) (d : DpAll K H xs ds) : Dp K H (.ref a) (sqD b ds) := by
  cases b
  · exact .tup h d
  · exact .lst h d
theorem dpa_ints {K : PySem.W.Frag} {H : Hp} : ∀ ns : List Int, DpAll K H (ns.map V.int) (ns.map PyData.int)
  | [] => .nil
  | n :: r => .cons (.int n) (dpa_ints r)
theorem dp_ints {b : Bool} {K : PySem.W.Frag} {H : Hp} {a : Addr} {ns : List Int} (h : SqK b K H a (ns.map V.int)) : Dp K H (.ref a) (intsD b ns) := dp_sq h (dpa_ints ns)
/-- a matrix: a list (or tuple) of lists (or tuples) of ints, at ps -/
def Mat (b : Bool) (K : PySem.W.Frag) (H : Hp) (a : Addr) (ps : List Addr) (rs : List (List Int)) : Prop := SqK b K H a (ps.map V.ref) ∧ ps.length = rs.length ∧ ∀ (i : Nat) (p : Addr) (r : List Int), ps[i]? = some p → rs[i]? = some r → SqK b K H p (r.map V.int)
theorem Mat.mono {b : Bool} {K : PySem.W.Frag} {H H' : Hp} {a : Addr} {ps : List Addr} {rs : List (List Int)} (s : Same H H') (m : Mat b K H a ps rs) : Mat b K H' a ps rs := ⟨Z.Same.sqK s m.1, m.2.1, fun i p r h1 h2 => Z.Same.sqK s (m.2.2 i p r h1 h2)⟩
theorem dpa_mat {b : Bool} {K : PySem.W.Frag} {H : Hp} : ∀ (ps : List Addr) (rs : List (List Int)), ps.length = rs.length → (∀ (i : Nat) (p : Addr) (r : List Int), ps[i]? = some p → rs[i]? = some r → SqK b K H p (r.map V.int)) → DpAll K H (ps.map V.ref) (rs.map (intsD b))
  | [], [], _, _ => .nil
  | p :: ps, r :: rs, hl, h => .cons (dp_ints (h 0 p r rfl rfl)) (dpa_mat ps rs (by simpa using hl) fun i q s h1 h2 => h (i + 1) q s h1 h2)
theorem Mat.dp {b : Bool} {K : PySem.W.Frag} {H : Hp} {a : Addr} {ps : List Addr} {rs : List (List Int)} (m : Mat b K H a ps rs) : Dp K H (.ref a) (matD b rs) := dp_sq m.1 (dpa_mat ps rs m.2.1 m.2.2)
theorem lay_ints : ∀ ns : List Int, PyData.canLayAll0 (ns.map PyData.int) = true
  | [] => rfl
  | n :: r => by
    rw [List.map_cons, PyData.canLayAll0, lay_ints r]
    rfl
theorem dep_ints : ∀ ns : List Int, PyData.depthAll (ns.map PyData.int) = 0
  | [] => rfl
  | n :: r => by
    rw [List.map_cons, PyData.depthAll, dep_ints r]
    rfl
theorem shaped_ints (b : Bool) (ns : List Int) : SeqAt.shaped (intsD b ns) = true := by
  unfold SeqAt.shaped intsD
  cases b
  · show (PyData.canLayAll0 (ns.map PyData.int) && decide (PyData.depthAll (ns.map PyData.int) + 1 ≤ 64)) = true
    rw [lay_ints, dep_ints]
    rfl
  · show (PyData.canLayAll0 (ns.map PyData.int) && decide (PyData.depthAll (ns.map PyData.int) + 1 ≤ 64)) = true
    rw [lay_ints, dep_ints]
    rfl
theorem lay_mat (b : Bool) : ∀ rs : List (List Int), PyData.canLayAll0 (rs.map (intsD b)) = true
  | [] => rfl
  | n :: r => by
    rw [List.map_cons, PyData.canLayAll0, lay_mat b r, SeqAt.canLay_of_shaped (shaped_ints b n)]
    rfl
theorem dep_mat (b : Bool) : ∀ rs : List (List Int), PyData.depthAll (rs.map (intsD b)) ≤ 1
  | [] => Nat.zero_le _
  | n :: r => by
    rw [List.map_cons, PyData.depthAll]
    have h := dep_mat b r
    have h2 : (intsD b n).depth = 1 := by
      cases b
      · show PyData.depthAll (n.map PyData.int) + 1 = 1
        rw [dep_ints]
      · show PyData.depthAll (n.map PyData.int) + 1 = 1
        rw [dep_ints]
    omega
theorem shaped_mat (b : Bool) (rs : List (List Int)) : SeqAt.shaped (matD b rs) = true := by
  have h := dep_mat b rs
  unfold SeqAt.shaped matD
  cases b
  · show (PyData.canLayAll0 (rs.map (intsD false)) && decide (PyData.depthAll (rs.map (intsD false)) + 1 ≤ 64)) = true
    rw [lay_mat, decide_eq_true (by omega)]
    rfl
  · show (PyData.canLayAll0 (rs.map (intsD true)) && decide (PyData.depthAll (rs.map (intsD true)) + 1 ≤ 64)) = true
    rw [lay_mat, decide_eq_true (by omega)]
    rfl
theorem same2 {K : PySem.W.Frag} {H : Hp} {x y : V} {d : PyData} {R : PyData → PyData → Prop} (hx : Dp K H x d) (hy : Dp K H y d) (hs : SeqAt.shaped d = true) (q : R d d) : ∃ d' e', Dp K H x d' ∧ Dp K H y e' ∧ SeqAt.shaped d' = true ∧ SeqAt.shaped e' = true ∧ R d' e' := ⟨d, d, hx, hy, hs, hs, q⟩
theorem eqv_same {d : PyData} (hs : SeqAt.shaped d = true) : PyData.eqv d d = true := SeqAt.eqv_refl d (SeqAt.canLay_of_shaped hs)
/-! ### a target that is one of two kinds -/
def gOr (t u : TG) : TG := fun v σ H Q => t v σ H Q ∨ u v σ H Q
theorem pg_or {X : Cx} {e : Expr} {t u : TG} (h1 : PG X e t) (h2 : PG X e u) : PG X e (gOr t u) := by
  refine ⟨fun pins s σ H v uu Q I r hw => ?_⟩
  rcases hw with h | h
  · exact h1.run pins s σ H v uu Q I r h
  · exact h2.run pins s σ H v uu Q I r h
/-! ### isinstance of built-in kinds -/
theorem isi {K : PySem.W.Frag} {H : Hp} {x : V} {T c : String} {b : Bool} {R : Bool → Prop} (t : TyOf K H x (.type T)) (h : kitB T c = some b) (q : R b) : ∃ (x' c' : V) (t' u' : Value) (b' : Bool), [x, .ty c] = [x', c'] ∧ ClsV c' u' ∧ TyX K H x' t' ∧ PySem.W.kitOne K t' u' = some b' ∧ R b' :=
  ⟨x, .ty c, .type T, .type c, b, rfl, .ty c, .base t, kit_ty h, q⟩
/-! ### rules by the written part itself (within a comprehension's block) -/
section
variable {X : Cx} {K : PySem.W.Frag}
theorem ix_list_K (h : X.K = K) : IxR X (rIxL K) := by subst h; exact ix_list
theorem ix_tup_K (h : X.K = K) : IxR X (rIxT K) := by subst h; exact ix_tup
theorem ix_seq_K (h : X.K = K) : IxR X (rIx K) := by subst h; exact ix_seq
theorem call_len_seq_K (h : X.K = K) : CallR X (.builtin "len") (fun xs H Q => ∃ p ys, xs = [.ref p] ∧ (SqL K H p ys ∨ SqT K H p ys) ∧ Q (.int ys.length) H) := by subst h; exact call_len_seq
theorem call_list_of_K (h : X.K = K) : CallR X (.type "list") (fun xs H Q => ∃ p ys, xs = [.ref p] ∧ (SqL K H p ys ∨ SqT K H p ys) ∧ ∀ l, H l = none → Q (.ref l) (upd H l (.lst ys))) := by subst h; exact call_list_of
theorem call_tuple_of_K (h : X.K = K) : CallR X (.type "tuple") (fun xs H Q => ∃ p ys, xs = [.ref p] ∧ ((SqL K H p ys ∧ ∀ l, H l = none → Q (.ref l) (upd H l (.tup ys))) ∨ (SqT K H p ys ∧ Q (.ref p) H))) := by subst h; exact call_tuple_of
theorem op_in_seq_K (h : X.K = K) : OpR X (compareOp .In) (rIn K false) := by subst h; exact op_in_seq
theorem op_notIn_seq_K (h : X.K = K) : OpR X (compareOp .NotIn) (rIn K true) := by subst h; exact op_notIn_seq
theorem op_eqD_K (h : X.K = K) (hu : X.A.units + 64 < cLine) : OpR X (compareOp .Eq) (rEqD K) := by subst h; exact op_eqD hu
theorem op_neD_K (h : X.K = K) (hu : X.A.units + 64 < cLine) : OpR X (compareOp .NotEq) (rNeD K) := by subst h; exact op_neD hu
theorem call_isi_K (h : X.K = K) : CallR X (.builtin "isinstance") (rIsi K) := by subst h; exact call_isi
end
/-! ### great products -/
theorem big_mul {i j : Int} (hi : i.natAbs < 2 ^ 4000) (hj : j.natAbs < 2 ^ 4000) : CMulX i j := mulx_ok hi hj (by decide)
/-! ### sums of multiples of rows -/
def combN (rs : List (List Int)) (fs : List Int) (w : Nat) : Nat → List Int
  | 0 => List.replicate w 0
  | n + 1 => List.zipWith (fun a b => a + fs.getD n 0 * b) (combN rs fs w n) (rs.getD n [])
theorem combN_len {rs : List (List Int)} {fs : List Int} {w : Nat} (h : ∀ r ∈ rs, r.length = w) : ∀ n, n ≤ rs.length → (combN rs fs w n).length = w
  | 0, _ => List.length_replicate
  | n + 1, hn => by
    rw [combN, List.length_zipWith, combN_len h n (by omega), List.getD_eq_getElem?_getD, List.getElem?_eq_getElem (by omega), Option.getD_some, h _ (List.getElem_mem _)]
    omega
theorem combN_at {rs : List (List Int)} {fs : List Int} {w i c : Nat} (hi : i < rs.length) (hf : i < fs.length) (c1 : c < (combN rs fs w i).length) (c2 : c < rs[i].length) : (combN rs fs w (i + 1))[c]? = some ((combN rs fs w i)[c] + fs[i] * rs[i][c]) := by
  have g1 : fs.getD i 0 = fs[i] := by rw [List.getD_eq_getElem?_getD, List.getElem?_eq_getElem hf]; rfl
  have g2 : rs.getD i [] = rs[i] := by rw [List.getD_eq_getElem?_getD, List.getElem?_eq_getElem hi]; rfl
  rw [combN, List.getElem?_zipWith, g1, g2, List.getElem?_eq_getElem c1, List.getElem?_eq_getElem c2]
end Z
set_option Elab.async false
set_option linter.all false
set_option maxRecDepth 100000
set_option maxHeartbeats 4000000
namespace Z
open PySem PySem.Spec PyProof.Rows L2
open C8 (pss_cut tCut)
local macro_rules | `(tactic| walk_at "num") => `(tactic| first | omega | decide | exact ⟨by omega, by omega⟩ | exact ⟨by omega, by omega, by omega⟩ | exact ⟨by decide, by decide, by decide⟩ | exact Or.inl ⟨by omega, by omega⟩ | exact Or.inr ⟨by omega, by omega⟩)
local macro_rules | `(tactic| walk_at "go") => `(tactic| repeat (first | refine ⟨_, rfl, ?_⟩ | refine ⟨_, _, rfl, rfl, ?_⟩ | refine ⟨_, _, rfl, rfl, (by walk_at "num"), ?_⟩ | refine Or.inl ⟨_, rfl, ?_⟩ | refine ⟨rfl, ?_⟩ | refine And.intro (by walk_at "num") ?_))
def topS (i : Nat) : Stmt := PySem.Challenge.pw_signedpacts_k66_plan_moves_with_start.main.body.getD i (.Pass ⟨0, 0, 0, 0⟩)
abbrev s_cell : Stmt := topS 24
abbrev N_cell : List Str := ["_law_script", "_law_k"]
abbrev P_cell : List Str := ["_law_script", "_law_k"]
theorem sc_cell : FnScope N_cell P_cell (defScope s_cell) := ⟨rfl, rfl, rfl, by decide +kernel, rfl, by decide +kernel, by decide +kernel⟩
abbrev s_draws : Stmt := topS 25
abbrev N_draws : List Str := ["_law_cell_here", "_law_many", "_law_rest", "_law_large", "_law_seed", "_law_found", "_law_k"]
abbrev P_draws : List Str := ["_law_cell_here", "_law_many"]
theorem sc_draws : FnScope N_draws P_draws (defScope s_draws) := ⟨rfl, rfl, rfl, by decide +kernel, rfl, by decide +kernel, by decide +kernel⟩
abbrev s_take : Stmt := topS 26
abbrev N_take : List Str := ["_law_draws_here", "_law_place"]
abbrev P_take : List Str := ["_law_draws_here", "_law_place"]
theorem sc_take : FnScope N_take P_take (defScope s_take) := ⟨rfl, rfl, rfl, by decide +kernel, rfl, by decide +kernel, by decide +kernel⟩
abbrev FnP (K : PySem.W.Frag) (x : Str) (st : Stmt) (f : Addr) (fd : FuncData) : Prop := FunD K x x (defArgs st) (defBody st) (defScope st) [] [] f fd
section
variable {P : Program} {w : World} {K : PySem.W.Frag} {mg : Str → Option Value} {base : Heap} {f : Addr} {fd : FuncData}
theorem cal_of {k : Nat} {x : Str} {st : Stmt} {ps : List Str} {sp : Sp} (F : FnP K x st f fd) (g : mg x = some (.ref f)) (b : Binds K fd ps []) (h : FnOk P w K mg base CX0 k f fd ps sp) : Cal P w K mg base k x sp := ⟨f, fd, ps, h, g, F.kp, b⟩
/-! ### _law_cell -/
def spCell (K : PySem.W.Frag) : Sp := fun vs H Q _ => ∃ (a : Addr) (ns : List Int) (k : Nat), vs = [.ref a, .int (k : Int)] ∧ SqL K H a (ns.map V.int) ∧ Q (.int (ns.getD k 0)) H
theorem ok_cell (F : FnP K "_law_cell" s_cell f fd) (m_len : mg "len" = none) (m_int : mg "int" = none) : FnOk P w K mg base CX0 1 f fd P_cell (spCell K) := by
  refine F.ok sc_cell (fun vs H Q E h => ?_) (fun cdv A outer s H vs Q E hr h => ?_)
  · obtain ⟨a, ns, k, rfl, _⟩ := h
    rfl
  · obtain ⟨a, ns, k, rfl, hS, q⟩ := h
    refine ⟨_, PSs.nox (pss_cons (ps_if (pt_cmpR op_lt (pv 1) (pe_callB call_len_seq (by rfl) m_len PySem.boot_len (pa_cons (pv 0) pa_nil)) (nomark _)) (pss_one (ps_ret (pe_callTy call_int1 (by rfl) m_int (by decide +kernel) (pa_cons (pe_ix ix_list (pv 0) (pv 1) (fun _ _ => rfl)) pa_nil)))) pss_nil)
      (pss_one (ps_ret pe_int))), ?_⟩
    walk_at "go"
    refine ⟨a, _, rfl, .inl hS, ?_⟩
    walk_at "go"
    rw [List.length_map]
    refine ite2 (fun e => ?_) (fun e => ?_)
    · have hk : k < ns.length := by have := of_decide_eq_true e; omega
      walk_at "go"
      refine ⟨a, _, _, _, rfl, rfl, hS, at_map (List.getElem?_eq_getElem hk), ?_⟩
      walk_at "go"
      rw [List.getD_eq_getElem?_getD, List.getElem?_eq_getElem hk] at q
      exact q
    · have hk : ¬ k < ns.length := fun z => e (decide_eq_true (by omega))
      rw [List.getD_eq_getElem?_getD, List.getElem?_eq_none (by omega)] at q
      exact q
/-! ### _law_draws -/
def Dr (n : Nat) (ds : List Int) : Prop := ds.length = n ∧ ∀ d ∈ ds, 0 ≤ d ∧ d < 1000000
def spDraws : Sp := fun vs H Q _ => ∃ (c : Int) (n : Nat), vs = [.int c, .int (n : Int)] ∧ n ≤ 100000 ∧ ∀ p ds, H p = none → Dr n ds → Q (.ref p) (upd H p (.lst (ds.map V.int)))
theorem ok_draws (F : FnP K "_law_draws" s_draws f fd) (m_int : mg "int" = none) (m_abs : mg "abs" = none) (m_range : mg "range" = none) : FnOk P w K mg base CX0 1 f fd P_draws spDraws := by
  refine F.ok sc_draws (fun vs H Q E h => ?_) (fun cdv A outer s H vs Q E hr h => ?_)
  · obtain ⟨c, n, rfl, _⟩ := h
    rfl
  · obtain ⟨c, n, rfl, hn, q⟩ := h
    refine ⟨_, PSs.nox (pss_cons (ps_set (i := 2) sc_draws.nd rfl (by first | exact .inl rfl | exact .inr rfl) (pe_callB call_abs (by rfl) m_abs (by decide +kernel) (pa_cons (pe_callTy call_int1 (by rfl) m_int (by decide +kernel) (pa_cons (pv 0) pa_nil)) pa_nil)))
      (pss_cons (ps_set (i := 3) sc_draws.nd rfl (by first | exact .inl rfl | exact .inr rfl) (pe_cmpR op_ge (pv 2) (pe_op op_pow pe_int pe_int) (nomark _)))
      (pss_cons (ps_set (i := 4) sc_draws.nd rfl (by first | exact .inl rfl | exact .inr rfl) (pe_op op_mod (pe_callTy call_int1 (by rfl) m_int (by decide +kernel) (pa_cons (pv 2) pa_nil)) pe_int))
      (pss_cons (ps_set (i := 5) sc_draws.nd rfl (by first | exact .inl rfl | exact .inr rfl) (pe_lst pa_nil))
      (pss_cons (ps_for PassesOwn.never rfl (pi_range1 (by rfl) m_range (pa_cons (pv 1) pa_nil)) (pg_name (i := 6) sc_draws.nd rfl (by first | exact .inl rfl | exact .inr rfl))
        (pss_cons (ps_set (i := 4) sc_draws.nd rfl (by first | exact .inl rfl | exact .inr rfl) (pe_op op_mod (pe_callTy call_int1 (by rfl) m_int (by decide +kernel) (pa_cons (pe_op op_add (pe_op op_add (pe_op op_mul (pv 4) pe_int) (pe_op op_mul pe_int (pv 6))) pe_int) pa_nil)) pe_int))
      (pss_one (ps_if (PW.pt (pw_and (pt_val (pv 3)) (pw_and1 (pt_cmpR op_gt (pv 2) pe_int (nomark _))))) (pss_cons (ps_expr (pe_bm PySem.F.plainAttrs_list PySem.F.slot_list_append PySem.F.type_list_append mt_append (pv 5) (pa_cons (pe_op op_mod (pe_callTy call_int1 (by rfl) m_int (by decide +kernel) (pa_cons (pv 2) pa_nil)) pe_int) pa_nil)))
      (pss_one (ps_set (i := 2) sc_draws.nd rfl (by first | exact .inl rfl | exact .inr rfl) (pe_op op_fdiv (pv 2) pe_int)))) (pss_one (ps_expr (pe_bm PySem.F.plainAttrs_list PySem.F.slot_list_append PySem.F.type_list_append mt_append (pv 5) (pa_cons (pe_op op_mod (pe_callTy call_int1 (by rfl) m_int (by decide +kernel) (pa_cons (pe_op op_fdiv (pe_op op_mod (pe_callTy call_int1 (by rfl) m_int (by decide +kernel) (pa_cons (pe_op op_add (pe_op op_mul (pv 4) pe_int) (pe_op op_mul pe_int (pv 6))) pa_nil)) pe_int) pe_int) pa_nil)) pe_int) pa_nil))))))))
      (pss_one (ps_ret (pv 5)))))))), ?_⟩
    walk_at "go"
    intro p np
    walk_at "go"
    refine for_gen (n := n) (fun i σ H1 => ∃ (r : Int) (z : Int) (ds : List Int) (v : Option V), 0 ≤ r ∧ 0 ≤ z ∧ z < 2147483647 ∧ Dr i ds ∧ H1 = upd H p (.lst (ds.map V.int)) ∧
      σ = [some (.int c), some (.int (n : Int)), some (.int r), some (.bl (decide ((10 : Int) ^ 18 ≤ (if c < 0 then -c else c)))), some (.int z), some (.ref p), v]) ?_ ?_ ?_ ?_ ?_
    · refine ⟨_, _, [], none, ?_, ?_, ?_, ⟨rfl, fun d hd => nomatch hd⟩, rfl, rfl⟩
      · split <;> omega
      · omega
      · omega
    · intro i σ H1 hi _
      show i < (n : Int).toNat
      omega
    · intro σ H1 _
      show (n : Int).toNat ≤ n
      omega
    · rintro i σ H1 x H' hi ⟨r, z, ds, v, hr0, hz0, hz1, hd, rfl, rfl⟩ ⟨rfl, rfl⟩
      have hlen : (ds.map V.int).length < sizeLine := by
        rw [List.length_map, hd.1]
        exact Nat.lt_of_lt_of_le hi (Nat.le_trans hn (by decide))
      have fin : ∀ (r' z' d : Int) (u : Option V), 0 ≤ r' → 0 ≤ z' → z' < 2147483647 → 0 ≤ d → d < 1000000 → ∃ (r : Int) (z : Int) (es : List Int) (v : Option V), 0 ≤ r ∧ 0 ≤ z ∧ z < 2147483647 ∧ Dr (i + 1) es ∧ upd (upd H p (.lst (ds.map V.int))) p (.lst (ds.map V.int ++ [.int d])) = upd H p (.lst (es.map V.int)) ∧
          [some (.int c), some (.int (n : Int)), some (.int r'), some (.bl (decide ((10 : Int) ^ 18 ≤ (if c < 0 then -c else c)))), some (.int z'), some (.ref p), u] = [some (.int c), some (.int (n : Int)), some (.int r), some (.bl (decide ((10 : Int) ^ 18 ≤ (if c < 0 then -c else c)))), some (.int z), some (.ref p), v] := by
        intro r' z' d u a1 a2 a3 a4 a5
        refine ⟨r', z', ds ++ [d], u, a1, a2, a3, ⟨by rw [List.length_append, hd.1]; rfl, fun x hx => ?_⟩, ?_, rfl⟩
        · rcases List.mem_append.mp hx with h | h
          · exact hd.2 x h
          · rw [List.mem_singleton.mp h]
            exact ⟨a4, a5⟩
        · rw [upd_upd, List.map_append]
          rfl
      walk_at "go"
      refine ite2 (fun e => ?_) (fun e => ?_)
      · walk_at "go"
        refine ite2 (fun e2 => ?_) (fun e2 => ?_)
        · walk_at "go"
          refine ⟨.inl ⟨rfl, _, .inl (.inl upd_same)⟩, ?_⟩
          walk_at "go"
          refine ⟨_, _, _, rfl, rfl, upd_same, hlen, ?_⟩
          walk_at "go"
          exact fin _ _ _ _ (by omega) (by omega) (by omega) (by omega) (by omega)
        · walk_at "go"
          refine ⟨.inl ⟨rfl, _, .inl (.inl upd_same)⟩, ?_⟩
          walk_at "go"
          refine ⟨_, _, _, rfl, rfl, upd_same, hlen, ?_⟩
          walk_at "go"
          exact fin _ _ _ _ (by omega) (by omega) (by omega) (by omega) (by omega)
      · walk_at "go"
        refine ⟨.inl ⟨rfl, _, .inl (.inl upd_same)⟩, ?_⟩
        walk_at "go"
        refine ⟨_, _, _, rfl, rfl, upd_same, hlen, ?_⟩
        walk_at "go"
        exact fin _ _ _ _ (by omega) (by omega) (by omega) (by omega) (by omega)
    · rintro σ H1 ⟨r, z, ds, v, hr0, hz0, hz1, hd, rfl, rfl⟩
      walk_at "go"
      exact q p ds np hd
/-! ### _law_take -/
def spTake (K : PySem.W.Frag) : Sp := fun vs H Q _ => ∃ (a p : Addr) (n m : Nat) (ds : List Int), vs = [.ref a, .ref p] ∧ SqL K H a (ds.map V.int) ∧ Dr n ds ∧ H p = some (.lst [.int (m : Int)]) ∧ a ≠ p ∧ ∀ r : Int, 0 ≤ r → r < 1000000 → Q (.int r) (upd H p (.lst [.int ((m + 1 : Nat) : Int)]))
theorem ok_take (F : FnP K "_law_take" s_take f fd) (m_len : mg "len" = none) : FnOk P w K mg base CX0 1 f fd P_take (spTake K) := by
  refine F.ok sc_take (fun vs H Q E h => ?_) (fun cdv A outer s H vs Q E hr h => ?_)
  · obtain ⟨a, p, n, m, ds, rfl, _⟩ := h
    rfl
  · obtain ⟨a, p, n, m, ds, rfl, hS, hd, hp, ne, q⟩ := h
    refine ⟨_, PSs.nox (pss_cons (ps_asg (pe_op op_add (pe_ix ix_list (pv 1) pe_int (fun _ _ => rfl)) pe_int) (pg_sub (pv 1) pe_int set_list))
      (pss_cons (ps_if (pt_cmpR op_gt (pe_ix ix_list (pv 1) pe_int (fun _ _ => rfl)) (pe_callB call_len_seq (by rfl) m_len PySem.boot_len (pa_cons (pv 0) pa_nil)) (nomark _)) (pss_one (ps_ret pe_int)) pss_nil)
      (pss_one (ps_ret (pe_ix ix_list (pv 0) (pe_op op_sub (pe_ix ix_list (pv 1) pe_int (fun _ _ => rfl)) pe_int) (fun _ _ => rfl)))))), ?_⟩
    have sb : SB p H (upd H p (.lst [.int ((m + 1 : Nat) : Int)])) := SB.upd (Z.Same.sb (Same.refl H))
    have hS' := sb.sq ne hS
    walk_at "go"
    refine ⟨p, _, 0, _, rfl, rfl, SqL.of hp, rfl, ?_⟩
    walk_at "go"
    refine ⟨p, _, 0, 0, rfl, rfl, hp, rfl, ?_⟩
    show tSeq _ _ _ _ (upd H p (.lst [.int ((m : Int) + 1)]))
    rw [show ((m : Int) + 1) = ((m + 1 : Nat) : Int) by omega]
    walk_at "go"
    refine ⟨p, _, 0, _, rfl, rfl, SqL.of upd_same, rfl, ?_⟩
    walk_at "go"
    refine ⟨a, _, rfl, .inl hS', ?_⟩
    walk_at "go"
    rw [List.length_map]
    refine ite2 (fun e => ?_) (fun e => ?_)
    · exact q 0 (by omega) (by omega)
    · have hk : m < ds.length := by
        apply Decidable.byContradiction
        intro z
        exact e (decide_eq_true (by omega))
      walk_at "go"
      refine ⟨p, _, 0, _, rfl, rfl, SqL.of upd_same, rfl, ?_⟩
      walk_at "go"
      refine ⟨a, _, _, _, rfl, rfl, hS', at_of (by omega) (show (ds.map V.int)[m]? = some (.int ds[m]) by rw [List.getElem?_map, List.getElem?_eq_getElem hk]; rfl), ?_⟩
      have h1 := hd.2 ds[m] (List.getElem_mem hk)
      exact q _ h1.1 h1.2
end
end Z
set_option Elab.async false
set_option linter.all false
set_option maxRecDepth 100000
set_option maxHeartbeats 4000000
namespace Z
open PySem PySem.Spec PyProof.Rows L2
/-! ### own classes: making, methods, calls of instances, == -/
structure Mak (P : Program) (w : World) (K : PySem.W.Frag) (mg : Str → Option Value) (base : Heap) (k : Nat) (x : Str) (sp : Sp) : Prop where
  ex : ∃ (C f : Addr) (fd : FuncData) (ps : List Str) (si : Sp), Mk K C f ∧ FnOk P w K mg base CX0 k f fd ps si ∧ mg x = some (.ref C) ∧ Binds K fd ps [] ∧
    ∀ vs H Q E, sp vs H Q E → ∀ n dx, H n = none → H dx = none → dx ≠ n → si (.ref n :: vs) (upd (upd H dx (.own n)) n (.ins C dx [])) (fun v H2 => v = .non ∧ Q (.ref n) H2) E
structure Met (P : Program) (w : World) (K : PySem.W.Frag) (mg : Str → Option Value) (base : Heap) (k : Nat) (C : Addr) (m : Str) (sp : Sp) : Prop where
  ex : ∃ (f : Addr) (fd : FuncData) (ps : List Str), Cls K C ∧ Meth K C m f ∧ FnOk P w K mg base CX0 k f fd ps sp ∧ Binds K fd ps []
section
variable {X : Cx} {k j : Nat} {x m : Str} {sp : Sp} {C : Addr} {p pos apos : Pos} {e o : Expr} {es : List Expr} {t : TA} {ta : TE}
theorem pe_mk (c : Mak X.prog X.w X.K X.mg X.base k x sp) (hr : Room j X.A) (hk : k + 1 ≤ j) (hg : Gl X x) (ha : PA X (e :: es) t)
    (hdb : (x == ("__debug__" : Str)) = false := by decide) (he : starEach (e :: es) X.env = (false, eval e X.env) :: starEach es X.env := by rfl) (hpl : (backTo pos (starEach es X.env)).any (·.1) = false := by rfl) : PE X (.Call (.Name x p) (e :: es) [] pos) (tCall sp [] E0 t) := by
  obtain ⟨C, f, fd, ps, si, M, F, hm, b, imp⟩ := c.ex
  constructor
  intro pins s σ H Q I h
  refine wpAny_Call_Name_kw (ld_glob I hg hm ?_ hdb)
  refine PySem.W.callWith_K (h₀ := X.base) I.ok.mod.kin M.kp (thn (ha.run pos pins s σ H _ I h) fun us s1 ⟨vs, H1, I1, r, q⟩ => ⟨I1.kIn, ?_⟩) he hpl
  have q2 : sp vs H1 Q E0 := by
    have z : sp (vs ++ []) H1 Q E0 := q
    rw [List.append_nil] at z
    exact z
  refine run_make (dvs := []) M F (hr.mono hk) b .nil pass0 I1 r (fun n dx n1 n2 n3 => ?_)
  rw [List.append_nil]
  exact imp _ _ _ _ q2 n dx n1 n2 n3
theorem pe_me {pl : Sem Bool} (c : Met X.prog X.w X.K X.mg X.base k C m sp) (he : PE X o ta) (hr : Room j X.A) (hk : k ≤ j) (ha : PA X (e :: es) t)
    (hst : starEach (e :: es) X.env = (false, eval e X.env) :: starEach es X.env := by rfl) (hpl : (backTo pos (starEach es X.env)).any (·.1) = false := by rfl)
    (ht : eval (.Call (.Attribute o m apos) (e :: es) [] pos) X.env = (do
      let ov ← eval o X.env
      standAt apos.atName
      let (f, first) ← holding [ov] (getMethod ov m pl)
      callWith pos f first (backTo pos (starEach (e :: es) X.env)) (backToKw pos (keywordEach [] X.env))) := by rfl) : PE X (.Call (.Attribute o m apos) (e :: es) [] pos) (tMeth C m sp [] E0 ta t) := by
  obtain ⟨f, fd, ps, cl, me, F, b⟩ := c.ex
  exact pe_meth he cl me F (hr.mono hk) b .nil pass0 ha hst hpl ht
theorem pe_me0 {pl : Sem Bool} (c : Met X.prog X.w X.K X.mg X.base k C m sp) (he : PE X o ta) (hr : Room j X.A) (hk : k ≤ j)
    (ht : eval (.Call (.Attribute o m apos) [] [] pos) X.env = (do
      let ov ← eval o X.env
      standAt apos.atName
      let (f, first) ← holding [ov] (getMethod ov m pl)
      callWith pos f first (backTo pos (starEach [] X.env)) (backToKw pos (keywordEach [] X.env))) := by rfl) : PE X (.Call (.Attribute o m apos) [] [] pos) (tMeth C m sp [] E0 ta tNil) := by
  obtain ⟨f, fd, ps, cl, me, F, b⟩ := c.ex
  exact pe_meth0 he cl me F (hr.mono hk) b .nil pass0 ht
end
/-! ### f(e, ..), f an instance of C -/
structure Cob (P : Program) (w : World) (K : PySem.W.Frag) (mg : Str → Option Value) (base : Heap) (k : Nat) (C : Addr) (sp : Sp) : Prop where
  ex : ∃ g : Addr, StX.CallO K C g ∧ FnR P w K mg base CX0 k g sp
def tCo (C : Addr) (sp : Sp) (tf : TE) (t : TA) : TE := fun σ H Q => tf σ H fun y H1 => ∃ a, y = V.ref a ∧ t σ H1 fun vs H2 => (∃ dx fs, H2 a = some (.ins C dx fs)) ∧ sp (V.ref a :: vs) H2 Q E0
section
variable {X : Cx} {k j : Nat} {sp : Sp} {C : Addr} {pos : Pos} {e fe : Expr} {es : List Expr} {t : TA} {tf : TE}
theorem pe_co (c : Cob X.prog X.w X.K X.mg X.base k C sp) (hf : PE X fe tf) (hr : Room j X.A) (hk : k ≤ j) (ha : PA X (e :: es) t)
    (ht : eval (.Call fe (e :: es) [] pos) X.env = (do callWith pos (← eval fe X.env) [] (backTo pos (starEach (e :: es) X.env)) (backToKw pos (keywordEach [] X.env))) := by rfl)
    (he : starEach (e :: es) X.env = (false, eval e X.env) :: starEach es X.env := by rfl) (hpl : (backTo pos (starEach es X.env)).any (·.1) = false := by rfl) : PE X (.Call fe (e :: es) [] pos) (tCo C sp tf t) := by
  obtain ⟨g, co, F⟩ := c.ex
  constructor
  intro pins s σ H Q I h
  refine Call_ (thn (hf.run pins s σ H _ I h) fun u s1 ⟨y, H1, I1, ry, a, ey, q⟩ => ?_) ht
  subst ey
  obtain rfl : u = Value.ref a := ry
  refine StX.callO_with (thn (ha.run pos pins s1 σ H1 _ I1 q) fun us s2 ⟨vs, H2, I2, r, hi, q2⟩ => ?_) he hpl
  have hi2 : StX.InsC X H2 a C := .inr hi
  obtain ⟨ox, od, J, hd⟩ := StX.insC_at I2 hi2
  exact ⟨⟨C, ox, od, J, hd⟩, StX.run_callO co F (hr.mono hk) pass0 I2 hi2 r q2⟩
end
/-! ### a == b by the class's own __eq__ -/
structure Eqo (P : Program) (w : World) (K : PySem.W.Frag) (mg : Str → Option Value) (base : Heap) (k : Nat) (C : Addr) (sp : Sp) : Prop where
  ex : ∃ (f : Addr) (fd : FuncData) (ps : List Str), FnOk P w K mg base CX0 k f fd ps sp ∧ PySem.W.findIn K (.ref C) "__eq__" = some (some (.ref f)) ∧ PySem.W.isFn K (.ref f) = true ∧ Binds K fd ps []
def rOwn (C : Addr) (sp : Sp) : R2 := fun x y H Q => ∃ a b dx dy fs gs, x = .ref a ∧ y = .ref b ∧ H a = some (.ins C dx fs) ∧ H b = some (.ins C dy gs) ∧ sp [.ref a, .ref b] H (fun v H' => ∃ r, v = .bl r ∧ Q v H') E0
theorem op_own {X : Cx} {k j : Nat} {C : Addr} {sp : Sp} (c : Eqo X.prog X.w X.K X.mg X.base k C sp) (hr : Room j X.A) (hk : k ≤ j) : OpR X (compareOp .Eq) (rOwn C sp) := by
  intro pins s σ H x y v u Q I rx ry hq
  obtain ⟨f, fd, ps, F, hs, hf, hb⟩ := c.ex
  obtain ⟨a, b, dx, dy, fs, gs, rfl, rfl, ha, hb', q⟩ := hq
  cases rx
  cases ry
  obtain ⟨mA, J, _⟩ := ins_get I.hok ha
  obtain ⟨mB, J', _⟩ := ins_get I.hok hb'
  obtain ⟨od, J, _⟩ := J.look
  obtain ⟨od', J', _⟩ := J'.look
  obtain ⟨m, hF⟩ := I.fr
  show wpAny (model X.prog X.w) X.A (richCompare .Eq (Value.ref a) (Value.ref b)) (EP X pins σ Q) X.xe s
  refine PySem.W.cmp_K (op := .Eq) (tb := .ref C) (hr.mono hk).units0 hF I.ok.mod.kin J J'.type (by simp [PySem.W.notFirst]) hs hf ?_
  have r2 : Vals [V.ref a, V.ref b] [Value.ref a, Value.ref b] := .cons rfl (.cons rfl .nil)
  refine thn (run_fn (dvs := []) F (hr.mono hk) hb .nil pass0 I r2 q) fun r s' z => ?_
  obtain ⟨v, H', I', rv, b', rfl, q'⟩ := z
  cases rv
  exact ⟨.bl b', H', I', rfl, q'⟩
end Z
set_option Elab.async false
set_option linter.all false
set_option maxRecDepth 100000
set_option maxHeartbeats 4000000
namespace Z
open PySem PySem.Spec PyProof.Rows L2 NdefX
/-! ### an own exception whose __init__ begins with super().__init__(..) -/
/-- what the written part says of it: the function f of the class C (cell cc, code c) -/
structure SupK (P : Program) (K : PySem.W.Frag) (C f c cc : Addr) (fd : FuncData) : Prop where
  lk : ∃ oc od osl, K.lookup f = some ⟨oc, od, .func fd, osl⟩
  code : ∃ (ccl : Value) (cdd : Option Addr) (vs : Array Value) (ccs : Array (Option Value)) (file : Str) (tf : Tok), K.lookup c = some ⟨ccl, cdd, .fields vs, ccs⟩ ∧ vs[2]? = some (.str file tf) ∧ ((P.main.file : Str) == file) = true
  cell : ∃ cl cld csl, K.lookup cc = some ⟨cl, cld, .cell (some (.ref C)), csl⟩
  top : (P.main.scope.names.lookup ("super" : Str)).isSome = false
  mro : PySem.W.mroIn K C (.ref C) = some true
  opq : PySem.W.nsIn K cStatics "thirdparty.any" = some none
  ini : PySem.W.ks_superIn K C C "__init__" = some (some (.builtin "ValueError.__init__"))
  sub : PySem.W.subIn K (.ref C) (.type "ValueError") = some true
  exi : PySem.W.excInitIn K C He.veBase "ValueError.__new__" = true
  oex : OexC K C
section
variable {CX : CXT} {P : Program} {w : World} {K : PySem.W.Frag} {mg : Str → Option Value} {base : Heap} {N ps : List Str} {F : NF} {f C a cc : Addr} {A : Around} {outer : List Env} {s0 s : Shared} {H0 H : Hp} {E : XK} {σ : L2.St}
/-- the bound __init__ called -/
theorem call_mw {X : Cx} {pins : List (Addr × Obj)} {u : Addr} {us : List Value} {Q : Value → Shared → Prop} {E : Value → Shared → Prop} {A : Around} (S : SupK X.prog X.K C f c cc fd) (I : Inv X ((u, PySem.W.kxs_mw "ValueError.__init__" a) :: pins) σ H s) (e : H a = some (exo a C none)) (hz : us.length ≤ sizeLine)
    (h : ∀ s', Inv X ((u, PySem.W.kxs_mw "ValueError.__init__" a) :: pins) σ H s' → Q .none s') : wpAny (model X.prog X.w) A (call (.ref u) us) Q E s := by
  have FB := F.excBase_ValueError
  obtain ⟨nm, N', qn, bs, bm, hdct, sn, sub, ab, col, dd, k0, k1, k2, k3, k5, hC, hT⟩ := PySem.W.excInit_of I.kIn S.exi
  have hu := (I.pin (u, PySem.W.kxs_mw "ValueError.__init__" a) (List.mem_append_right _ (List.mem_cons_self ..))).1
  obtain ⟨t1, he⟩ := exo_at I.hok e
  obtain ⟨hh, g, d, tk, os⟩ := s
  refine wpAny_call (codeAny_of_tree ?_)
  show wpAny _ A.in1 (callAny (.ref u) ⟨us, []⟩) _ _ _
  simp only [callAny]
  refine wpAny_bind (wpAny_load hu ?_)
  simp only [PySem.W.kxs_mw, show (Value.type "method-wrapper" == Value.type "method" || Value.type "method-wrapper" == Value.type "builtin_function_or_method" || Value.type "method-wrapper" == Value.type "method-wrapper") = true by decide, if_true]
  refine PySem.W.KFB.if_so (by decide) ?_
  refine wpAny_bind (PySem.W.check_bound_init FB.toExcCallFacts hC he rfl ?_)
  refine wpAny_bind (wpAny_pure (wpAny_pure ?_))
  refine ⟨plainId_quiet FB.init.plain _, codeAny_builtin FB.initEntry ?_⟩
  refine PySem.W.exc_init_tree (cls := .ref C) (t0 := t1) (dv := none) (c2 := .none) (c3 := .none) (b4 := .bool false) he hz fun h' k hx _ => ?_
  have J := I.write (t' := tk) (x := a) (e := a) (o := exo a C none) (by rw [e]; exact True.intro) (.inl rfl) k ⟨_, hx⟩ (exo_ok hx)
  have eu : upd H a (exo a C none) = H := by
    funext b
    by_cases hb : b = a
    · rw [hb, upd_same, e]
    · rw [upd_ne hb]
  rw [eu] at J
  exact h _ J
/-- super().__init__(e, ..), the first statement -/
theorem super_first {pl : Sem Bool} {fd : FuncData} {ar : Arg} {t : TA} {e : Expr} {es : List Expr} {p0 p1 p2 pos pos2 : Pos} {Qn : Hp → Prop} (S : SupK P K C f F.c cc fd) (hcl : F.cl = [(("__class__" : Str), cc)]) (hp : (fd.params.posonlyargs ++ fd.params.args).head? = some ar)
    (hks : F.scope.names.lookup ("super" : Str) = some .globalImplicit) (hkc : F.scope.names.lookup ("__class__" : Str) = some .free) (hka : F.scope.names.lookup ar.arg = some .local) (hk : F.scope.kind = .function) (m_super : mg "super" = none)
    (hN : N[0]? = some ar.arg) (ha : PA (ncx CX P w K mg base N F f A outer s0 H0 E) (e :: es) t) (I : Inv (ncx CX P w K mg base N F f A outer s0 H0 E) [] σ H s) (hs : σ[0]? = some (some (.ref a))) (hx : H a = some (exo a C none))
    (ht : t σ H fun vs H1 => vs.length ≤ 1000 ∧ H1 a = some (exo a C none) ∧ Qn H1)
    (hint : interactive (ncx CX P w K mg base N F f A outer s0 H0 E).env = false := by rfl) (hsw : swapsWith (.Call (.Attribute (.Call (.Name "super" p0) [] [] p1) "__init__" p2) (e :: es) [] pos) none pos2.line (ncx CX P w K mg base N F f A outer s0 H0 E).env = pure false := by rfl)
    (hev : eval (.Call (.Attribute (.Call (.Name "super" p0) [] [] p1) "__init__" p2) (e :: es) [] pos) (ncx CX P w K mg base N F f A outer s0 H0 E).env = (do
      let ov ← attributeBase (.Call (.Name "super" p0) [] [] p1) "__init__" (ncx CX P w K mg base N F f A outer s0 H0 E).env (eval (.Call (.Name "super" p0) [] [] p1) (ncx CX P w K mg base N F f A outer s0 H0 E).env)
      standAt p2.atName
      let (g, first) ← holding [ov] (getMethod ov "__init__" pl)
      callWith pos g first (backTo pos (starEach (e :: es) (ncx CX P w K mg base N F f A outer s0 H0 E).env)) []) := by rfl)
    (he : starEach (e :: es) (ncx CX P w K mg base N F f A outer s0 H0 E).env = (false, eval e (ncx CX P w K mg base N F f A outer s0 H0 E).env) :: starEach es (ncx CX P w K mg base N F f A outer s0 H0 E).env := by rfl) (hpl : (backTo pos (starEach es (ncx CX P w K mg base N F f A outer s0 H0 E).env)).any (·.1) = false := by rfl) :
    _root_.PySem.wpAt (model P w) (ncx CX P w K mg base N F f A outer s0 H0 E).A (.func F.body (ncx CX P w K mg base N F f A outer s0 H0 E).env) (exec (.Expr (.Call (.Attribute (.Call (.Name "super" p0) [] [] p1) "__init__" p2) (e :: es) [] pos) pos2) (ncx CX P w K mg base N F f A outer s0 H0 E).env)
      (fun fl s' => fl = .next ∧ ∃ H1, Inv (ncx CX P w K mg base N F f A outer s0 H0 E) [] σ H1 s' ∧ H1 a = some (exo a C none) ∧ Qn H1) (ncx CX P w K mg base N F f A outer s0 H0 E).xe s := by
  obtain ⟨oc, od, osl, lkf⟩ := S.lk
  obtain ⟨ccl, cdd, vs, ccs, file, tf, lkc, hvs, hfile⟩ := S.code
  obtain ⟨cl, cld, csl, lkcc⟩ := S.cell
  have KX : K.In s.heap := I.kIn
  obtain ⟨m, hn, hl⟩ := I.loc
  obtain ⟨u, ru, lu⟩ := hl 0 ar.arg (.ref a) hN hs (.inl hka)
  obtain rfl : u = .ref a := ru
  have hma : m ar.arg = some (.ref a) := by
    rcases lu with ⟨_, z⟩ | ⟨z, _⟩
    · exact z
    · rcases z with z | z
      · rw [show (ncx CX P w K mg base N F f A outer s0 H0 E).env.kindOf ar.arg = some .local from hka] at z; cases z
      · rw [show (ncx CX P w K mg base N F f A outer s0 H0 E).env.kindOf ar.arg = some .local from hka] at z; cases z
  obtain ⟨nm, q, NN, bs, bm, sn, sub, ab, col, dd, k0, k1, k2, k3, k5, hC, hbm⟩ := S.oex.cls
  obtain ⟨t1, hox⟩ := exo_at I.hok hx
  refine ks_wpAt_Expr_any (ks_wpAt_MethodCall ?_ hev) hint hsw
  refine ks_wpAt_super_base (env := (ncx CX P w K mg base N F f A outer s0 H0 E).env) (cc := F.c) hks hkc (by decide) rfl (KX _ _ lkf) rfl hp rfl (KX _ _ lkc) rfl hvs hfile S.top ?_
  obtain ⟨mb, h1, h2⟩ := I.mod.blt
  refine PySem.W.ks_loadName_global hk hks (Calls.loadGlobal_builtin (by rw [I.ok.glob]; exact I.mod.glob.keeps I.bk) m_super (by rw [I.ok.blt]; exact h1.keeps I.bk) ((h2 "super" (by decide)).trans (by decide +kernel)) ⟨rfl, ?_⟩)
  refine wpAny_loadName_free hk hkc (c := cc) (by show F.cl.lookup _ = _; rw [hcl]; rfl) ⟨_, KX _ _ lkcc, rfl⟩ ?_
  refine wpAny_loadName_local hk hka hn hma ?_
  refine ks_wpAny_isType_cls (KX _ _ hC) rfl ⟨rfl, ?_⟩
  obtain ⟨hh, g, d, tk, os⟩ := s
  refine ks_wpAny_call_super (KX _ _ hC) rfl hox rfl (fun c z => by cases z) (PySem.W.looks_mroIn KX S.mro) (fun h' eso kso => ?_)
  have I2 : Inv (ncx CX P w K mg base N F f A outer s0 H0 E) [] σ H ⟨h', g, d, tk, os⟩ := I.kept kso
  have KX2 : K.In h' := I2.kIn
  have hox2 := kso _ _ hox
  have IA : PySem.W.InstAt h' a _ C none := ⟨hox2, rfl, rfl, trivial⟩
  have hI : PySem.W.Looks (model P w) h' (isInstance (.ref a) (.type "ValueError")) true := IA.type.andThen (PySem.W.looks_subIn KX2 S.sub)
  have hm := S.ini
  cases hc : PySem.W.clsIn K C with
  | none =>
    unfold PySem.W.ks_superIn at hm
    rw [hc] at hm
    cases hm
  | some cd =>
    unfold PySem.W.ks_superIn at hm
    rw [hc] at hm
    refine PySem.W.kxs_getMethod PySem.W.kxs_ValueError eso (PySem.W.looks_opaque KX2 S.opq) (l₀ := cd.mro) ?_ rfl KX2 hm hI (PySem.W.ks_ne KX2 IA hc) (by decide) ?_
    · exact fun A Q E s k q => wpAny_bind ((PySem.W.looks_clsIn KX2 hc) A _ E s k (wpAny_pure q))
    · have I3 : Inv (ncx CX P w K mg base N F f A outer s0 H0 E) [(h'.objs.size, PySem.W.kxs_mw "ValueError.__init__" a)] σ H ⟨h'.push (PySem.W.kxs_mw "ValueError.__init__" a), g, d, tk + 1, os⟩ := ClX.pin_new I2 (fun b o e => Heap.get?_push_of_some _ e) (Nat.le_refl _) (Heap.get?_push_at rfl rfl) (fun v z => by cases z)
      rw [he]
      refine PySem.W.kxs_callWith (i := "ValueError.__init__") (x := a) (by show (false || (backTo pos (starEach es _)).any (·.1)) = false; rw [hpl]; rfl) ?_
      refine PySem.Calls.evalArgs_plain ?_
      have hrun := ha.run pos _ _ σ H _ I3 ht
      rw [he] at hrun
      refine thn hrun fun us s3 ⟨ws, H3, I4, r, q1, q2, q3⟩ => ?_
      refine ⟨ClX.pin_at I4, ?_⟩
      refine call_mw (X := ncx CX P w K mg base N F f A outer s0 H0 E) S I4 q2 (by show us.length ≤ sizeLine; rw [← r.length]; exact Nat.le_trans q1 (by decide)) fun s' I5 => ⟨rfl, H3, ClX.unpin I5, q2, q3⟩
theorem wpAt_to {M : Model} {A : Around} {c : Code} {α : Type} {m : Sem α} {Q Q' : α → Shared → Prop} {E : Value → Shared → Prop} {s : Shared} (h : _root_.PySem.wpAt M A c m Q E s) (hq : ∀ a s', Q a s' → Q' a s') : _root_.PySem.wpAt M A c m Q' E s := ks_wpAt_mono h hq fun _ _ z => z
/-- THE RULE: such an __init__, the rest of its body by its readings -/
theorem sup_ok {pl : Sem Bool} {fd : FuncData} {dV kV doc pm ct : Value} {an : Option Addr} {ar : Arg} {k : Nat} {sp : Sp} {txt : Str} {j : Nat} {p0 p1 p2 p3 pos pos2 : Pos} {rest : List Stmt} (hfd : fd = PySem.W.fnX F.name F.qual F.params F.body F.scope F.cl dV kV doc pm an (.ref F.c) ct)
    (S : SupK P K C f F.c cc fd) (hcd : PySem.W.codeIn K (.ref F.c) F.qual = true) (NS : NScope N ps ["__class__"] F.scope) (hcl : F.cl = [(("__class__" : Str), cc)]) (hp : (F.params.posonlyargs ++ F.params.args).head? = some ar) (hks : F.scope.names.lookup ("super" : Str) = some .globalImplicit) (m_super : mg "super" = none)
    (hN : N[0]? = some ar.arg) (hka : F.scope.names.lookup ar.arg = some .local)
    (hb : F.body = .Expr (.Call (.Attribute (.Call (.Name "super" p0) [] [] p1) "__init__" p2) [.Constant (.str txt) j p3] [] pos) pos2 :: rest)
    (len : ∀ vs H Q E, sp vs H Q E → vs.length = ps.length) (hself : ∀ vs H Q E, sp vs H Q E → ∃ a vs', vs = .ref a :: vs' ∧ H a = some (exo a C none))
    (hint : ∀ (A : Around) (outer : List Env) (s : Shared) (H : Hp) (E : XK), interactive (ncx CX P w K mg base N F f A outer s H E).env = false)
    (hsw : ∀ (A : Around) (outer : List Env) (s : Shared) (H : Hp) (E : XK), swapsWith (.Call (.Attribute (.Call (.Name "super" p0) [] [] p1) "__init__" p2) [.Constant (.str txt) j p3] [] pos) none pos2.line (ncx CX P w K mg base N F f A outer s H E).env = pure false)
    (hev : ∀ (A : Around) (outer : List Env) (s : Shared) (H : Hp) (E : XK), eval (.Call (.Attribute (.Call (.Name "super" p0) [] [] p1) "__init__" p2) [.Constant (.str txt) j p3] [] pos) (ncx CX P w K mg base N F f A outer s H E).env = (do
      let ov ← attributeBase (.Call (.Name "super" p0) [] [] p1) "__init__" (ncx CX P w K mg base N F f A outer s H E).env (eval (.Call (.Name "super" p0) [] [] p1) (ncx CX P w K mg base N F f A outer s H E).env)
      standAt p2.atName
      let (g, first) ← holding [ov] (getMethod ov "__init__" pl)
      callWith pos g first (backTo pos (starEach [.Constant (.str txt) j p3] (ncx CX P w K mg base N F f A outer s H E).env)) []))
    (hrest : ∀ (A : Around) (outer : List Env) (s : Shared) (H : Hp) (vs : List V) (Q : VK) (E : XK), sp vs H Q E → ∃ t, PSs (ncx CX P w K mg base N F f A outer s H E) rest t ∧ t { nx := fun _ H' => Q .non H', rt := Q } (startF N vs [some (.ref C)]) H) : FnOk P w K mg base CX (k + 1) f fd ps sp := by
  refine ⟨len, fun A outer s H args us vs Q E hr e0 hbn r hsp => ?_⟩
  have hl := len _ _ _ _ hsp
  have KX : K.In s.heap := e0.mod.kin.keeps fun b o e => (e0.bs b o e).1
  have lim : s.heap.NoLimit := e0.mod.nolimit.keeps fun b o e => (e0.bs b o e).1
  obtain ⟨oc, od, osl, lkf⟩ := S.lk
  obtain ⟨cl, cld, csl, lkcc⟩ := S.cell
  have CA : CellsAt F.cl ["__class__"] [some (.ref C)] s.heap H := by
    refine ⟨rfl, fun y c e => ?_, fun x y c e1 e2 => ?_, fun i y e => ?_⟩
    · rw [hcl] at e
      have ec : c = cc := by
        unfold List.lookup at e
        split at e
        · exact (Option.some.inj e).symm
        · cases e
      subst ec
      exact ⟨(e0.bs _ _ (e0.mod.kin _ _ lkcc)).2, _, _, KX _ _ lkcc, rfl⟩
    · rw [hcl] at e1 e2
      have k : ∀ z : Str, ([(("__class__" : Str), cc)] : List (Str × Addr)).lookup z = some c → z = "__class__" := fun z e => by
        unfold List.lookup at e
        split at e
        · next h => exact beq_iff_eq.mp h
        · cases e
      rw [k x e1, k y e2]
    · have ey : y = "__class__" := by
        cases i with
        | zero => exact (Option.some.inj e).symm
        | succ i => cases e
      subst ey
      refine ⟨cc, by rw [hcl]; rfl, fun v hv => ?_⟩
      have ei : i = 0 := by
        cases i with
        | zero => rfl
        | succ i => cases e
      subst ei
      obtain rfl : V.ref C = v := Option.some.inj (Option.some.inj hv)
      exact ⟨.ref C, rfl, _, KX _ _ lkcc, rfl⟩
  subst hfd
  refine ks_codeAny_call_defAt hr.depth (KX _ _ lkf) rfl lim (PySem.W.codeRec_of KX hcd) rfl hbn NS.nocell (fun ⟨n, _⟩ hy => NS.par n (List.of_mem_zip hy).1) (fun h₁ hns kp => ?_) NS.co NS.gen NS.kind
  show _root_.PySem.wpAt _ (ncx CX P w K mg base N F f A outer s H E).A (.func F.body (ncx CX P w K mg base N F f A outer s H E).env) (execs F.body (ncx CX P w K mg base N F f A outer s H E).env) _ (ncx CX P w K mg base N F f A outer s H E).xe _
  have I : Inv (ncx CX P w K mg base N F f A outer s H E) [] (startF N vs [some (.ref C)]) H { s with heap := h₁, toks := s.toks + (ps.zip us).length } := inv_startN NS hr.hd e0 hl r CA hns kp
  obtain ⟨a, vs', rfl, hx⟩ := hself _ _ _ _ hsp
  have hexe : execs F.body (ncx CX P w K mg base N F f A outer s H E).env = execs (.Expr (.Call (.Attribute (.Call (.Name "super" p0) [] [] p1) "__init__" p2) [.Constant (.str txt) j p3] [] pos) pos2 :: rest) (ncx CX P w K mg base N F f A outer s H E).env := by rw [hb]
  rw [hexe]
  refine ks_wpAt_execs_cons (wpAt_to (super_first (Qn := fun H1 => H1 = H) S hcl hp hks (NS.frk _ (List.mem_cons_self ..)) hka NS.kind m_super hN (pa_cons pe_str pa_nil) I rfl hx ⟨by simp, hx, rfl⟩ (hint A outer s H E) (hsw A outer s H E) (hev A outer s H E)) ?_)
  rintro fl s1 ⟨rfl, H1, I1, _, rfl⟩
  obtain ⟨t, ht, hq⟩ := hrest A outer s H1 _ Q E hsp
  refine wpAt_of_wpAny (wpAny_mono (ht.run [] _ _ H1 _ I1 hq) (fun fl s' hs => ?_) fun e s' hs => hs)
  have fin : ∀ {σ' : L2.St} {H' : Hp} {v : V} {u : Value}, Inv (ncx CX P w K mg base N F f A outer s H1 E) [] σ' H' s' → L2.RelV v u → Q v H' → CE outer P w H1 s Q u s' :=
    fun {σ' H' v u} J rv q => ⟨v, H', J.os, J.bare, J.base, J.hok, rv, q⟩
  cases fl with
  | ret u =>
    obtain ⟨v, σ', H', J, rv, q⟩ := hs
    exact fin J rv q
  | next =>
    obtain ⟨σ', H', J, q⟩ := hs
    exact fin (v := V.non) (u := Value.none) J rfl q
  | brk =>
    obtain ⟨_, _, _, q⟩ := hs
    exact False.elim q
  | cont =>
    obtain ⟨_, _, _, q⟩ := hs
    exact False.elim q
end
end Z
set_option Elab.async false
set_option linter.all false
set_option maxRecDepth 100000
set_option maxHeartbeats 4000000
namespace Z
open PySem PySem.Spec PyProof.Rows L2 NdefX
/-! ### class X(..): def __init__(self, v): super().__init__("text"); self.field = v -/
def spEx (C : Addr) (field : Str) : Sp := fun vs H Q _ => ∃ (a : Addr) (v : V), vs = [.ref a, v] ∧ H a = some (exo a C none) ∧ ∀ dx, H dx = none → dx ≠ a → Q .non (upd (upd H dx (exd dx [(field, v)])) a (exo a C (some dx)))
theorem exn_ok {P : Program} {w : World} {K : PySem.W.Frag} {mg : Str → Option Value} {base : Heap} {F : NF} {f C cc : Addr} {pl : Sem Bool} {fd : FuncData} {dV kV doc pm ct : Value} {an : Option Addr} {ar : Arg} {txt v field : Str} {j : Nat} {p0 p1 p2 p3 pos pos2 q1 q2 q3 q4 : Pos} (hfd : fd = PySem.W.fnX F.name F.qual F.params F.body F.scope F.cl dV kV doc pm an (.ref F.c) ct)
    (S : SupK P K C f F.c cc fd) (hcd : PySem.W.codeIn K (.ref F.c) F.qual = true) (NS : NScope ["self", v, "__class__"] ["self", v] ["__class__"] F.scope) (hcl : F.cl = [(("__class__" : Str), cc)]) (hp : (F.params.posonlyargs ++ F.params.args).head? = some ar) (har : ar.arg = "self") (hks : F.scope.names.lookup ("super" : Str) = some .globalImplicit) (m_super : mg "super" = none)
    (hno : PySem.W.findIn K (.ref C) field = some none) (hvd : (v == ("__debug__" : Str)) = false) (hvc : (v == ("__classdict__" : Str)) = false)
    (hb : F.body = [.Expr (.Call (.Attribute (.Call (.Name "super" p0) [] [] p1) "__init__" p2) [.Constant (.str txt) j p3] [] pos) pos2, .Assign [.Attribute (.Name "self" q1) field q2] (.Name v q3) q4])
    (hint : ∀ (A : Around) (outer : List Env) (s : Shared) (H : Hp) (E : XK), interactive (ncx CX0 P w K mg base ["self", v, "__class__"] F f A outer s H E).env = false)
    (hsw : ∀ (A : Around) (outer : List Env) (s : Shared) (H : Hp) (E : XK), swapsWith (.Call (.Attribute (.Call (.Name "super" p0) [] [] p1) "__init__" p2) [.Constant (.str txt) j p3] [] pos) none pos2.line (ncx CX0 P w K mg base ["self", v, "__class__"] F f A outer s H E).env = pure false)
    (hev : ∀ (A : Around) (outer : List Env) (s : Shared) (H : Hp) (E : XK), eval (.Call (.Attribute (.Call (.Name "super" p0) [] [] p1) "__init__" p2) [.Constant (.str txt) j p3] [] pos) (ncx CX0 P w K mg base ["self", v, "__class__"] F f A outer s H E).env = (do
      let ov ← attributeBase (.Call (.Name "super" p0) [] [] p1) "__init__" (ncx CX0 P w K mg base ["self", v, "__class__"] F f A outer s H E).env (eval (.Call (.Name "super" p0) [] [] p1) (ncx CX0 P w K mg base ["self", v, "__class__"] F f A outer s H E).env)
      standAt p2.atName
      let (g, first) ← holding [ov] (getMethod ov "__init__" pl)
      callWith pos g first (backTo pos (starEach [.Constant (.str txt) j p3] (ncx CX0 P w K mg base ["self", v, "__class__"] F f A outer s H E).env)) []))
    (hs2 : ∀ (A : Around) (outer : List Env) (s : Shared) (H : Hp) (E : XK), swapsWith (.Name v q3) (some (.Attribute (.Name "self" q1) field q2)) q4.line (ncx CX0 P w K mg base ["self", v, "__class__"] F f A outer s H E).env = pure false) : FnOk P w K mg base CX0 1 f fd ["self", v] (spEx C field) := by
  refine sup_ok (k := 0) (rest := [.Assign [.Attribute (.Name "self" q1) field q2] (.Name v q3) q4]) hfd S hcd NS hcl hp hks m_super (by rw [har]; rfl) (by rw [har]; exact NS.par _ (List.mem_cons_self ..)) hb (fun vs H Q E h => ?_) (fun vs H Q E h => ?_) hint hsw hev (fun A outer s H vs Q E h => ?_)
  · obtain ⟨a, y, rfl, _⟩ := h
    rfl
  · obtain ⟨a, y, rfl, hx, _⟩ := h
    exact ⟨a, [y], rfl, hx⟩
  · obtain ⟨a, y, rfl, hx, q⟩ := h
    refine ⟨_, pss_one (ps_ost (pe_var (i := 0) rfl (.inl (NS.par _ (List.mem_cons_self ..)))) (pe_var (i := 1) rfl (.inl (NS.par _ (List.mem_cons_of_mem _ (List.mem_cons_self ..)))) hvd hvc) (hs2 A outer s H E)), ?_⟩
    refine ⟨y, rfl, .ref a, rfl, a, C, rfl, S.oex, hno, .inl ⟨hx, fun dx n1 n2 => ?_⟩⟩
    exact q dx n1 n2
/-! ### raise X(e) -/
structure Exn (P : Program) (w : World) (K : PySem.W.Frag) (mg : Str → Option Value) (base : Heap) (x : Str) (C : Addr) (field : Str) : Prop where
  oex : OexC K C
  gl : mg x = some (.ref C)
  ini : ∃ fI fd ps, PySem.W.findIn K (.ref C) "__init__" = some (some (.ref fI)) ∧ PySem.W.typeIn K (.ref fI) = some (.type "function") ∧ FnOk P w K mg base CX0 1 fI fd ps (spEx C field) ∧ Binds K fd ps []
/-! ### C(e): the exception's object has no context -/
section
variable {X : Cx} {x : Str} {C g : Addr} {k : Nat} {fd : FuncData} {ps : List Str} {sp : Sp} {e : Expr} {ta : TA} {p pos : Pos}
/-- the two objects that type.__call__ lays -/
abbrev hp2 (h : Heap) (C : Addr) (us : List Value) : Heap :=
  (h.push (PySem.W.kdv_tup us)).push (PySem.HandSPX.excO C h.objs.size)
theorem hp2_keep {h : Heap} {us : List Value} (b : Addr) (o : Obj) (z : h.get? b = some o) :
    (hp2 h C us).get? b = some o := Heap.get?_push_of_some _ (Heap.get?_push_of_some _ z)
theorem hp2_at {h : Heap} {us : List Value} :
    (hp2 h C us).get? (h.objs.size + 1) = some (PySem.HandSPX.excO C h.objs.size) := by heap_get
theorem inv2 {pins : List (Addr × Obj)} {σ : L2.St} {H : Hp} {h : Heap} {gs : Array GenState} {dr : Drawn} {tk : Nat} {os : OsState} {us : List Value}
    (I : Inv X pins σ H ⟨h, gs, dr, tk, os⟩) :
    Inv X pins σ (upd H (h.objs.size + 1) (exo (h.objs.size + 1) C none)) ⟨hp2 h C us, gs, dr, tk, os⟩ :=
  I.laid (t' := tk) (a := h.objs.size + 1) (o := exo (h.objs.size + 1) C none) (h' := hp2 h C us)
    hp2_keep (Nat.le_succ _) (exo_ok hp2_at)
theorem pmkN (T : OexC X.K C)
    (iC : PySem.W.findIn X.K (.ref C) "__init__" = some (some (.ref g)))
    (tI : PySem.W.typeIn X.K (.ref g) = some (.type "function"))
    (F : FnOk X.prog X.w X.K X.mg X.base CX0 k g fd ps sp) (hr : Room (k + 1) X.A) (hb : Binds X.K fd ps [])
    (hg : Gl X x) (hm : X.mg x = some (.ref C)) (ha : PA X [e] ta)
    (hdb : (x == ("__debug__" : Str)) = false := by decide)
    (he : starEach [e] X.env = (false, eval e X.env) :: starEach [] X.env := by rfl)
    (hpl : (backTo pos (starEach [] X.env)).any (·.1) = false := by rfl) :
    L2N.PMk X (.Call (.Name x p) [e] [] pos) (tMkO C sp [] ta) := by
  intro pins s σ H Q I h
  obtain ⟨_, _, _, _, vm, _, _, _, _, _, _, _, _, _, _, atC, inM⟩ := T.cls
  refine wpAny_Call_Name_kw (ld_glob I hg hm ?_ hdb)
  refine PySem.W.callWith_K (h₀ := X.base) I.ok.mod.kin T.kC ?_ he hpl
  refine thn (ha.run pos pins s σ H _ I h) fun us s1 hh => ?_
  obtain ⟨vs, H1, J, r, few, q⟩ := hh
  refine ⟨J.kIn, ?_⟩
  obtain ⟨hp, gs, dr, tk, os⟩ := s1
  have q := q (hp.objs.size + 1) (J.hok.fresh (Nat.le_succ _))
  rw [List.append_nil] at q
  have J2 := inv2 (C := C) (us := us) J
  have r2 : Vals (V.ref (hp.objs.size + 1) :: vs) (Value.ref (hp.objs.size + 1) :: us) := .cons rfl r
  have len2 : (Value.ref (hp.objs.size + 1) :: us ++ []).length = ps.length := by
    rw [List.append_nil, ← r2.length]
    exact F.len _ _ _ _ q
  have b2 := hb _ (Value.ref (hp.objs.size + 1) :: us) J2.kIn len2
  rw [List.append_nil] at b2
  have few2 : us.length ≤ sizeLine := by
    have := Paired.length r
    rw [sizeLine_eq]
    omega
  have run := F.run _ X.stack _ _ _ _ _ _ _ (hr.make C us []) (J2.env0.make C us []) b2 r2 q
  refine wpAny_call (PySem.HandSPX.call_own PySem.F.excBase_ValueError (fun Y => PySem.HandSPX.refsVE_contains Y vm inM)
    (J.kIn _ _ atC) (PySem.W.looks_findIn J.kIn iC) (fun self => PySem.W.bind_fn J.kIn self tI) few2
    (codeAny_mono run fun res s' z => ?_))
  match res, z with
  | .error er, z => exact z.elim
  | .ok (.ret u), z =>
    obtain ⟨v, H2, eo, bare, un, ok2, rv, ev, d, fs, ea, ed, nd, q2⟩ := z
    subst ev
    obtain ⟨h2, g2, d2, t2, os'⟩ := s'
    obtain ⟨t0, G, J3, kG, ge, hoe, na⟩ := mk_end0 (d2 := d2) (t2 := t2) J (Nat.le_succ _) hp2_keep un ok2 eo bare ea ed nd
    refine ⟨rv, hp.objs.size + 1, _, _, ⟨G, g2, d2, t2, os'⟩, _, .ref C, some d, rfl, J3, kG, ge, hoe, ⟨rfl, rfl, fun ws ew => ?_⟩, rfl, rfl, na, rfl, bare, raises_own T.exC T.tyC, q2⟩
    cases ew
    rfl
end
section
variable {X : Cx} {x field : Str} {C : Addr} {j : Nat} {e : Expr} {ta : TA} {p pos pos2 : Pos} {W : WX}
theorem pmk_exn (c : Exn X.prog X.w X.K X.mg X.base x C field) (hr : Room j X.A) (hk : 2 ≤ j) (hg : Gl X x) (ha : PA X [e] ta) (hdb : (x == ("__debug__" : Str)) = false := by decide) (he : starEach [e] X.env = (false, eval e X.env) :: starEach [] X.env := by rfl) (hpl : (backTo pos (starEach [] X.env)).any (·.1) = false := by rfl) :
    L2N.PMk X (.Call (.Name x p) [e] [] pos) (tMkO C (spEx C field) [] ta) := by
  obtain ⟨fI, fd, ps, iC, tI, F1, b⟩ := c.ini
  exact pmkN (X := X) (pos := pos) (p := p) c.oex iC tI F1 (hr.mono hk) b hg c.gl ha hdb he hpl
/-- raise X(e) -/
theorem ps_exn (hc : X.calm = true) (tk : L2N.Takes X W) (c : Exn X.prog X.w X.K X.mg X.base x C field) (hr : Room j X.A) (hk : 2 ≤ j) (hg : Gl X x) (ha : PA X [e] ta) (hdb : (x == ("__debug__" : Str)) = false := by decide) (he : starEach [e] X.env = (false, eval e X.env) :: starEach [] X.env := by rfl) (hpl : (backTo pos (starEach [] X.env)).any (·.1) = false := by rfl) :
    PS X (.Raise (some (.Call (.Name x p) [e] [] pos)) none pos2) (fun _ σ H => tMkO C (spEx C field) [] ta σ H fun cls d H' => W cls d σ H') := L2N.ps_raise hc tk (pmk_exn c hr hk hg ha hdb he hpl)
end
/-- what is left to show of X(v) -/
theorem mkx_of {C : Addr} {field : Str} {v : V} {H1 : Hp} {Q : XK} (q : ∀ d, H1 d = none → Q (.ref C) (some d) (upd H1 d (.xd [(field, v)]))) :
    [v].length ≤ 1000 ∧ ∀ a, H1 a = none → spEx C field (.ref a :: ([v] ++ [])) (upd H1 a (exo a C none)) (fun v H2 => v = .non ∧ ∃ (d : Addr) (fs : List (Str × V)), H2 a = some (exo a C (some d)) ∧ H2 d = some (exd d fs) ∧ H1 d = none ∧ Q (.ref C) (some d) (upd (del H2 a) d (.xd fs))) (fun _ _ _ => False) := by
  refine ⟨by simp, fun a na => ⟨a, v, rfl, upd_same, fun dx n1 n2 => ⟨rfl, dx, [(field, v)], upd_same, ?_, ?_, ?_⟩⟩⟩
  · rw [upd_ne n2, upd_same]
  · rw [← n1, upd_ne n2]
  · have n3 : H1 dx = none := by rw [← n1, upd_ne n2]
    have e1 : upd (del (upd (upd (upd H1 a (exo a C none)) dx (exd dx [(field, v)])) a (exo a C (some dx))) a) dx (.xd [(field, v)]) = upd H1 dx (.xd [(field, v)]) := by
      funext b
      by_cases hb : b = dx
      · rw [hb, upd_same, upd_same]
      · rw [upd_ne hb, upd_ne hb]
        by_cases ha2 : b = a
        · rw [ha2, del_same, na]
        · rw [del_ne ha2, upd_ne ha2, upd_ne hb, upd_ne ha2]
    rw [e1]
    exact q dx n3
/-! ### calls that may raise -/
structure CalX (P : Program) (w : World) (K : PySem.W.Frag) (mg : Str → Option Value) (base : Heap) (k : Nat) (x : Str) (sp : Sp) : Prop where
  ex : ∃ (f : Addr) (fd : FuncData) (ps : List Str), FnOk P w K mg base (L2N.CX P w) k f fd ps sp ∧ mg x = some (.ref f) ∧ PySem.W.keepIn K (.ref f) = true ∧ Binds K fd ps []
structure MakX (P : Program) (w : World) (K : PySem.W.Frag) (mg : Str → Option Value) (base : Heap) (k : Nat) (x : Str) (C : Addr) (sp : Sp) : Prop where
  ex : ∃ (f : Addr) (fd : FuncData) (ps : List Str), Mk K C f ∧ FnOk P w K mg base (L2N.CX P w) k f fd ps sp ∧ mg x = some (.ref C) ∧ Binds K fd ps []
structure MetX (P : Program) (w : World) (K : PySem.W.Frag) (mg : Str → Option Value) (base : Heap) (k : Nat) (C : Addr) (m : Str) (sp : Sp) : Prop where
  ex : ∃ (f : Addr) (fd : FuncData) (ps : List Str), Cls K C ∧ Meth K C m f ∧ FnOk P w K mg base (L2N.CX P w) k f fd ps sp ∧ Binds K fd ps []
structure CobX (P : Program) (w : World) (K : PySem.W.Frag) (mg : Str → Option Value) (base : Heap) (k : Nat) (C : Addr) (sp : Sp) : Prop where
  ex : ∃ (g : Addr) (fd : FuncData) (ps : List Str), StX.CallO K C g ∧ FnOk P w K mg base (L2N.CX P w) k g fd ps sp ∧ Binds K fd ps []
/-- C(e, ..) by its __init__'s promise; what is raised at the slots -/
def tMkW (C : Addr) (sp : Sp) (E : L2.St → XK) (t : TA) : TE := fun σ H Q => t σ H fun vs H1 => ∀ n dx, H1 n = none → H1 dx = none → dx ≠ n → sp (.ref n :: vs) (upd (upd H1 dx (.own n)) n (.ins C dx [])) (fun v H2 => v = .non ∧ Q (.ref n) H2) (E σ)
def tCoW (C : Addr) (sp : Sp) (E : L2.St → XK) (tf : TE) (t : TA) : TE := fun σ H Q => tf σ H fun y H1 => ∃ a, y = V.ref a ∧ t σ H1 fun vs H2 => (∃ dx fs, H2 a = some (.ins C dx fs)) ∧ sp (V.ref a :: vs) H2 Q (E σ)
def tMeW (C : Addr) (m : Str) (sp : Sp) (E : L2.St → XK) (ta : TE) (t : TA) : TE := fun σ H Q => ta σ H fun x H1 => ∃ a dx fs, x = V.ref a ∧ H1 a = some (.ins C dx fs) ∧ List.lookup m fs = none ∧ t σ H1 fun vs H2 => sp (x :: vs) H2 Q (E σ)
section
variable {X : Cx} {k j : Nat} {x m : Str} {sp : Sp} {C : Addr} {p pos apos : Pos} {e o fe : Expr} {es : List Expr} {t : TA} {ta tf : TE} {W : WX} {E : L2.St → XK}
theorem passS0 {σ : L2.St} : PassesAt (L2N.CX X.prog X.w) X σ E0 := fun _ _ _ _ _ _ h => by
  obtain ⟨_, _, _, _, _, _, _, _, _, _, _, _, z⟩ := h
  exact z.elim
/-- any result of a promise, at the slots -/
theorem back_at {σ : L2.St} {H : Hp} {s : Shared} {pins : List (Addr × Obj)} {Q : VK} {E : XK} {CX : CXT} (hx : PassesAt CX X σ E) (I : Inv X pins σ H s) : ∀ (r : Result) (s' : Shared), CR CX X.stack X.prog X.w H s Q E r s' → match r with
    | .ok (.ret v) => EP X pins σ Q v s'
    | .ok _ => False
    | .error e => X.xe e s'
  | .error e, s', h => hx pins H s e s' I h
  | .ok (.ret u), s', h => I.after h
  | .ok .next, s', h => h
  | .ok .brk, s', h => h
  | .ok .cont, s', h => h
theorem pe_clE (c : CalX X.prog X.w X.K X.mg X.base k x sp) (hx : ∀ σ, PassesAt (L2N.CX X.prog X.w) X σ (E σ)) (hr : Room j X.A) (hk : k ≤ j) (hg : Gl X x) (ha : PA X (e :: es) t) (hdb : (x == ("__debug__" : Str)) = false := by decide) (he : starEach (e :: es) X.env = (false, eval e X.env) :: starEach es X.env := by rfl) (hpl : (backTo pos (starEach es X.env)).any (·.1) = false := by rfl) :
    PE X (.Call (.Name x p) (e :: es) [] pos) (tCallS sp E t) := by
  obtain ⟨f, fd, ps, F, hm, kp, b⟩ := c.ex
  exact pe_callS F (hr.mono hk) hg hm kp b hx ha hdb he hpl
theorem pe_mkE (c : MakX X.prog X.w X.K X.mg X.base k x C sp) (hx : ∀ σ, PassesAt (L2N.CX X.prog X.w) X σ (E σ)) (hr : Room j X.A) (hk : k + 1 ≤ j) (hg : Gl X x) (ha : PA X (e :: es) t) (hdb : (x == ("__debug__" : Str)) = false := by decide) (he : starEach (e :: es) X.env = (false, eval e X.env) :: starEach es X.env := by rfl) (hpl : (backTo pos (starEach es X.env)).any (·.1) = false := by rfl) :
    PE X (.Call (.Name x p) (e :: es) [] pos) (tMkW C sp E t) := by
  obtain ⟨f, fd, ps, M, F, hm, b⟩ := c.ex
  constructor
  intro pins s σ H Q I h
  refine wpAny_Call_Name_kw (ld_glob I hg hm ?_ hdb)
  refine PySem.W.callWith_K (h₀ := X.base) I.ok.mod.kin M.kp (thn (ha.run pos pins s σ H _ I h) fun us s1 z => ?_) he hpl
  obtain ⟨vs, H1, I1, rr, q⟩ := z
  refine ⟨I1.kIn, ?_⟩
  obtain ⟨n, hn⟩ : ∃ n, n = s1.heap.objs.size := ⟨_, rfl⟩
  have q1 := q (n + 1) n (I1.hok.fresh (by rw [hn]; exact Nat.le_succ _)) (I1.hok.fresh (by rw [hn]; exact Nat.le_refl _)) (Nat.ne_of_lt (Nat.lt_succ_self _))
  subst hn
  have J := Inv.made (C := C) I1
  have r3 : Vals (V.ref (s1.heap.objs.size + 1) :: vs) (Value.ref (s1.heap.objs.size + 1) :: us) := .cons rfl rr
  have b3 := b { s1 with heap := (s1.heap.push PySem.W.emptyDict).push (PySem.W.instObj C s1.heap.objs.size) } (Value.ref (s1.heap.objs.size + 1) :: us) J.kIn (by rw [List.append_nil, ← r3.length]; exact F.len _ _ _ _ q1)
  rw [List.append_nil] at b3
  have run := F.run _ X.stack _ _ _ _ _ _ _ ((hr.mono hk).make C us []) (J.env0.make C us []) b3 r3 q1
  refine wpAny_call (make_map (f := f) I1.kIn M.makes M.init (beq_iff_eq.mp M.fn) (codeAny_mono run fun r s' hq => ?_))
  have z := back_at (hx σ) J r s' hq
  match r, z with
  | .error e, z => exact z
  | .ok (.ret u), ⟨v, H', J', rv, ev, q3⟩ =>
    subst ev
    exact ⟨rv, V.ref (s1.heap.objs.size + 1), H', J', rfl, q3⟩
theorem run_atE {f : Addr} {fd : FuncData} {ps : List Str} {σ : L2.St} {H : Hp} {s : Shared} {pins : List (Addr × Obj)} {Q : VK} {us : List Value} {vs : List V} (F : FnOk X.prog X.w X.K X.mg X.base (L2N.CX X.prog X.w) k f fd ps sp) (b : Binds X.K fd ps []) (hx : PassesAt (L2N.CX X.prog X.w) X σ (E σ)) (hr : Room k X.A) (I : Inv X pins σ H s) (r : Vals vs us) (h : sp vs H Q (E σ)) :
    codeAny (model X.prog X.w) X.A (.call (.ref f) ⟨us, []⟩) (fun r s' => match r with | .ok (.ret v) => EP X pins σ Q v s' | .ok _ => False | .error e => X.xe e s') s := by
  have b3 := b s us I.kIn (by rw [List.append_nil, ← r.length]; exact F.len _ _ _ _ h)
  rw [List.append_nil] at b3
  exact codeAny_mono (F.run _ X.stack _ _ _ _ _ _ _ hr I.env0 b3 r h) (back_at hx I)
theorem pe_coE (c : CobX X.prog X.w X.K X.mg X.base k C sp) (hf : PE X fe tf) (hx : ∀ σ, PassesAt (L2N.CX X.prog X.w) X σ (E σ)) (hr : Room j X.A) (hk : k ≤ j) (ha : PA X (e :: es) t)
    (ht : eval (.Call fe (e :: es) [] pos) X.env = (do callWith pos (← eval fe X.env) [] (backTo pos (starEach (e :: es) X.env)) (backToKw pos (keywordEach [] X.env))) := by rfl)
    (he : starEach (e :: es) X.env = (false, eval e X.env) :: starEach es X.env := by rfl) (hpl : (backTo pos (starEach es X.env)).any (·.1) = false := by rfl) : PE X (.Call fe (e :: es) [] pos) (tCoW C sp E tf t) := by
  obtain ⟨g, fd, ps, co, F, b⟩ := c.ex
  constructor
  intro pins s σ H Q I h
  refine Call_ (thn (hf.run pins s σ H _ I h) fun u s1 ⟨y, H1, I1, ry, a, ey, q⟩ => ?_) ht
  subst ey
  obtain rfl : u = Value.ref a := ry
  refine StX.callO_with (thn (ha.run pos pins s1 σ H1 _ I1 q) fun us s2 z => ?_) he hpl
  obtain ⟨vs, H2, I2, r, hi, q2⟩ := z
  have hi2 : StX.InsC X H2 a C := .inr hi
  obtain ⟨ox, od, J, hd⟩ := StX.insC_at I2 hi2
  exact ⟨⟨C, ox, od, J, hd⟩, wpAny_call (PySem.W.kco_code I2.kIn J hd co.at_ co.fn co.fi (run_atE (vs := .ref a :: vs) (us := .ref a :: us) F b (hx σ) (hr.mono hk) I2 (.cons rfl r) q2))⟩
theorem pe_meE {pl : Sem Bool} (c : MetX X.prog X.w X.K X.mg X.base k C m sp) (ho : PE X o ta) (hx : ∀ σ, PassesAt (L2N.CX X.prog X.w) X σ (E σ)) (hr : Room j X.A) (hk : k ≤ j) (ha : PA X (e :: es) t)
    (hst : starEach (e :: es) X.env = (false, eval e X.env) :: starEach es X.env := by rfl) (hpl : (backTo pos (starEach es X.env)).any (·.1) = false := by rfl)
    (ht : eval (.Call (.Attribute o m apos) (e :: es) [] pos) X.env = (do
      let ov ← eval o X.env
      standAt apos.atName
      let (g, first) ← holding [ov] (getMethod ov m pl)
      callWith pos g first (backTo pos (starEach (e :: es) X.env)) (backToKw pos (keywordEach [] X.env))) := by rfl) : PE X (.Call (.Attribute o m apos) (e :: es) [] pos) (tMeW C m sp E ta t) := by
  obtain ⟨f, fd, ps, cl, me, F, b⟩ := c.ex
  constructor
  intro pins s σ H Q I h
  refine PySem.W.methodCall_KW (pl := pl) (thn (ho.run pins s σ H _ I h) fun u s1 z => ?_) ht
  obtain ⟨y, H1, I1, ry, a, dx, fs, ey, ea, l, q⟩ := z
  subst ey
  obtain rfl : u = Value.ref a := ry
  refine getmeth_ok I1 ea cl me l ?_
  refine PySem.W.callWith_K (first := [.ref a]) (h₀ := X.base) I.ok.mod.kin me.kp (thn (ha.run pos pins s1 σ H1 _ I1 q) fun us s2 z => ?_) hst hpl
  obtain ⟨vs, H2, I2, r, q2⟩ := z
  exact ⟨I2.kIn, wpAny_call (run_atE (vs := .ref a :: vs) (us := .ref a :: us) F b (hx σ) (hr.mono hk) I2 (.cons rfl r) q2)⟩
theorem takes_fn {P : Program} {w : World} {K : PySem.W.Frag} {mg : Str → Option Value} {base : Heap} {N : List Str} {qual : Str} {scope : Scope} {f : Addr} {cd : Value} {A : Around} {outer : List Env} {s : Shared} {H : Hp} {E : XK} : L2N.Takes (cxOf (L2N.CX P w) P w K mg base N qual scope f cd A outer s H E) (fun cls d _ H' => E cls d H') := L2N.takes_of rfl rfl rfl rfl
end
end Z
set_option Elab.async false
set_option linter.all false
set_option maxRecDepth 100000
set_option maxHeartbeats 4000000
namespace Z
open PySem PySem.Spec PyProof.Rows L2 L2H
/-! ### calls within an except suite -/
section
variable {P : Program} {w : World} {K : PySem.W.Frag} {mg : Str → Option Value} {base : Heap} {x qual : Str} {params : Arguments} {body : List Stmt} {scope : Scope} {dvs : List V} {kws : List (Str × V)} {f : Addr} {fd : FuncData}
theorem fund_okH {N ps : List Str} {k : Nat} {sp : Sp} (F : FunD K x qual params body scope dvs kws f fd) (S : FnScope N ps scope) (len : ∀ vs H Q E, sp vs H Q E → vs.length = ps.length)
    (hbody : ∀ (cdv : Value) (A : Around) (outer : List Env) (s : Shared) (H : Hp) (vs : List V) (Q : VK) (E : XK) (p : Addr × Obj), Hot1 A p → RoomH k (A.deeper (envOfC qual scope s.heap.objs.size f cdv)) → sp vs H Q E →
      ∃ t, PSs (cxH CX0 P w K mg base N qual scope f cdv A outer s H E p) body t ∧ t { nx := fun _ H' => Q .non H', rt := Q } (L2.start N vs) H) : FnH P w K mg base CX0 (k + 1) f fd ps sp := by
  obtain ⟨oc, od, dV, kV, doc, pm, an, cdv, ct, osl, rfl, lk, hcd, _, _⟩ := F.ex
  exact fn_ofH lk hcd S len (hbody cdv)
structure CalH (P : Program) (w : World) (K : PySem.W.Frag) (mg : Str → Option Value) (base : Heap) (k : Nat) (x : Str) (sp : Sp) : Prop where
  ex : ∃ (f : Addr) (fd : FuncData) (ps : List Str), FnH P w K mg base CX0 k f fd ps sp ∧ mg x = some (.ref f) ∧ PySem.W.keepIn K (.ref f) = true ∧ Binds K fd ps []
end
section
variable {X : Cx} {k j : Nat} {x : Str} {sp : Sp} {p pos : Pos} {e : Expr} {es : List Expr} {t : TA}
theorem pe_clH (c : CalH X.prog X.w X.K X.mg X.base k x sp) (hr : RoomH j X.A) (hk : k ≤ j) (hc : HotC X) (hg : Gl X x) (ha : PA X (e :: es) t) (hdb : (x == ("__debug__" : Str)) = false := by decide) (he : starEach (e :: es) X.env = (false, eval e X.env) :: starEach es X.env := by rfl) (hpl : (backTo pos (starEach es X.env)).any (·.1) = false := by rfl) :
    PE X (.Call (.Name x p) (e :: es) [] pos) (tCallS sp (fun _ => E0) t) := by
  obtain ⟨f, fd, ps, F, hm, kp, b⟩ := c.ex
  exact pe_callH F (hr.mono hk) hc hg hm kp b (fun σ _ _ _ _ _ _ h => h.elim) ha hdb he hpl
theorem hotC_suite {a : Addr} {cls : Value} {d : Option Addr} {oe : Obj} {pn : List (Addr × Obj)} (hz : L2N.Zn cls d oe) (hf : ∃ vs, oe.data = .fields vs) : HotC (X.suite a ((a, oe) :: pn)) := by
  obtain ⟨vs, e⟩ := hf
  exact ⟨(a, oe), ⟨rfl, vs, e, hz.2.2 vs e⟩, List.mem_cons_self⟩
theorem room_mark {v : Option Value} {A : Around} (r : Room j A) : RoomH j (A.mark v) := roomH_mark r v
theorem takes0N : L2N.Takes X (fun _ _ _ _ => False) := fun _ _ x => by
  obtain ⟨_, _, _, _, _, _, _, _, _, _, _, _, _, _, _, _, z⟩ := x
  exact z.elim
end
theorem hotC_fn {P : Program} {w : World} {K : PySem.W.Frag} {mg : Str → Option Value} {base : Heap} {CX : CXT} {N : List Str} {qual : Str} {scope : Scope} {f : Addr} {cd : Value} {A : Around} {outer : List Env} {s : Shared} {H : Hp} {E : XK} {p : Addr × Obj} (h : Hot1 A p) : HotC (cxH CX P w K mg base N qual scope f cd A outer s H E p) :=
  ⟨p, ⟨h.1, h.2⟩, List.mem_cons_self⟩
end Z
set_option Elab.async false
set_option linter.all false
set_option maxRecDepth 100000
set_option maxHeartbeats 4000000
namespace Z
open PySem PySem.Spec PyProof.Rows L2 NdefX
/-! ### what the head tells of such a class -/
def oexB (K : PySem.W.Frag) (C : Addr) : Bool := (match K.lookup C with
  | some ⟨.type t, _, .cls cd, sl⟩ => (match cd.mro, sl.toList with
    | .ref D :: bm, [_, _, _, _, some (.builtin n), _] => decide (t = "type") && (decide (D = C) && (decide (n = "ValueError.__new__") && (!cd.hasDel && (cd.hasDict && PySem.HandSPX.refsVE bm))))
    | _, _ => false)
  | _ => false) && (He.eqO (PySem.W.findIn K (.ref C) "__setattr__") (some (some (.builtin "object.__setattr__"))) && (decide (PySem.W.subIn K (.ref C) (.type "BaseException") = some true) && (decide (PySem.W.typeIn K (.ref C) = some (.type "type")) && PySem.W.keepIn K (.ref C))))
theorem oexB_ok {K : PySem.W.Frag} {C : Addr} (h : oexB K C = true) : OexC K C := by
  obtain ⟨h0, h⟩ := He.ba h
  obtain ⟨h1, h⟩ := He.ba h
  obtain ⟨h2, h⟩ := He.ba h
  obtain ⟨h3, h4⟩ := He.ba h
  refine ⟨?_, He.eqO_ok h1, of_decide_eq_true h2, of_decide_eq_true h3, h4⟩
  split at h0
  · next t dd cd sl lk =>
    split at h0
    · next D bm a0 a1 a2 a3 n a5 em es =>
      obtain ⟨g1, h0⟩ := He.ba h0
      obtain ⟨g2, h0⟩ := He.ba h0
      obtain ⟨g3, h0⟩ := He.ba h0
      obtain ⟨g4, h0⟩ := He.ba h0
      obtain ⟨g5, g6⟩ := He.ba h0
      have g1 := of_decide_eq_true g1
      have g2 := of_decide_eq_true g2
      have g3 := of_decide_eq_true g3
      subst g1 g2 g3
      obtain ⟨c1, c2, c3, c4, c5, c6, c7, c8, c9, c10, c11⟩ := cd
      have k3 : c3 = .ref D :: bm := em
      have k4 : c11 = false := by
        have z : (!c11) = true := g4
        cases c11
        · rfl
        · cases z
      have k5 : c6 = true := g5
      clear em g4 g5
      subst k3 k4 k5
      refine ⟨c1, c5, c4, c2, bm, c7, c8, c9, c10, dd, a0, a1, a2, a3, a5, ?_, g6⟩
      rw [lk]
      have : sl = #[a0, a1, a2, a3, some (.builtin "ValueError.__new__"), a5] := by
        apply Array.toList_inj.mp
        rw [es]
      rw [this]
    · cases h0
  · cases h0
def initFd (K : PySem.W.Frag) (C : Addr) : Option FuncData := match K.lookup (He.ma K C "__init__") with
  | some ⟨_, _, .func fd, _⟩ => some fd
  | _ => none
abbrev SupV : Type := Option (Str × Str × Arguments × FuncBody × Scope × Addr × List Str × Value × Addr)
def supObs (K : PySem.W.Frag) (x : Str) : SupV := (initFd K (He.ga K x)).map fun fd => (fd.name, fd.qualname, fd.params, fd.body, fd.scope, fd.globals, fd.closure.map (·.1), fd.defaults, fd.builtins)
def supVal (q : Str) (st : Stmt) : SupV := some ("__init__", q, defArgs st, .stmts (defBody st), defScope st, mainGlobals, ["__class__"], .none, builtinsNs)
def supB (fl : Str) (K : PySem.W.Frag) (C : Addr) (q : Str) : Bool := (match initFd K C with
  | some fd => (match fd.code, fd.closure with
    | .ref c, [(_, cc)] => PySem.W.codeIn K (.ref c) q && ((match K.lookup c with
      | some ⟨_, _, .fields vs, _⟩ => (match (vs[2]? : Option Value) with
        | some (.str file _) => fl == file
        | _ => false)
      | _ => false) && (match K.lookup cc with
      | some ⟨_, _, .cell (some (.ref D)), _⟩ => decide (D = C)
      | _ => false))
    | _, _ => false)
  | none => false) && (decide (PySem.W.mroIn K C (.ref C) = some true) && (He.eqO (PySem.W.nsIn K cStatics "thirdparty.any") (some none) && (He.eqO (PySem.W.ks_superIn K C C "__init__") (some (some (.builtin "ValueError.__init__"))) && (decide (PySem.W.subIn K (.ref C) (.type "ValueError") = some true) && (PySem.W.excInitIn K C He.veBase "ValueError.__new__" && oexB K C)))))
theorem sup_of {P : Program} {K : PySem.W.Frag} {x q fl : Str} {st : Stmt} (h1 : supObs K x = supVal q st) (h2 : supB fl K (He.ga K x) q = true) (hfl : ((P.main.file : Str) == fl) = true) (htop : (P.main.scope.names.lookup ("super" : Str)).isSome = false) :
    ∃ (c cc : Addr) (fd : FuncData) (kV doc pm ct : Value) (an : Option Addr), fd = PySem.W.fnX "__init__" q (defArgs st) (defBody st) (defScope st) [(("__class__" : Str), cc)] .none kV doc pm an (.ref c) ct ∧ SupK P K (He.ga K x) (He.ma K (He.ga K x) "__init__") c cc fd ∧ PySem.W.codeIn K (.ref c) q = true := by
  obtain ⟨g0, h2⟩ := He.ba h2
  obtain ⟨g1, h2⟩ := He.ba h2
  obtain ⟨g2, h2⟩ := He.ba h2
  obtain ⟨g3, h2⟩ := He.ba h2
  obtain ⟨g4, h2⟩ := He.ba h2
  obtain ⟨g5, g6⟩ := He.ba h2
  unfold supObs at h1
  cases e : initFd K (He.ga K x) with
  | none =>
    rw [e] at h1
    cases h1
  | some fd =>
    rw [e] at h1 g0
    have lk : ∃ oc od osl, K.lookup (He.ma K (He.ga K x) "__init__") = some ⟨oc, od, .func fd, osl⟩ := by
      unfold initFd at e
      split at e
      · next oc od fd' osl l =>
        cases e
        exact ⟨_, _, _, l⟩
      · cases e
    obtain ⟨n1, n2, n3, n4, n5, n6, n7, n8, n9, n10, n11, n12, n13, n14, n15⟩ := fd
    have h1 : (some (n1, n2, n3, n4, n5, n6, n7.map (·.1), n8, n15) : SupV) = supVal q st := h1
    unfold supVal at h1
    simp only [Option.some.injEq, Prod.mk.injEq] at h1
    obtain ⟨a1, a2, a3, a4, a5, a6, a7, a8, a9⟩ := h1
    subst a1 a2 a3 a4 a5 a6 a8 a9
    dsimp only at g0
    split at g0
    · next c y cc =>
      obtain ⟨b1, g0⟩ := He.ba g0
      obtain ⟨b2, b3⟩ := He.ba g0
      have ey : y = "__class__" := by
        have := a7
        simpa using this
      subst ey
      refine ⟨c, cc, _, _, _, _, _, _, rfl, ⟨lk, ?_, ?_, htop, of_decide_eq_true g1, He.eqO_ok g2, He.eqO_ok g3, of_decide_eq_true g4, g5, oexB_ok g6⟩, b1⟩
      · split at b2
        · next u1 u2 vs u3 l =>
          split at b2
          · next file tf ev =>
            refine ⟨_, _, vs, _, file, tf, l, ev, ?_⟩
            rw [beq_iff_eq.mp b2] at hfl
            exact hfl
          · cases b2
        · cases b2
      · split at b3
        · next u1 u2 D u3 l =>
          have := of_decide_eq_true b3
          subst this
          exact ⟨_, _, _, l⟩
        · cases b3
    · cases g0
end Z
set_option Elab.async false
set_option linter.all false
set_option maxRecDepth 100000
set_option maxHeartbeats 4000000
namespace Z
open PySem PySem.Spec PyProof.Rows L2 NdefX
/-! ### isinstance(e, c), e a caught error with a dict of its own -/
def rIsX (K : PySem.W.Frag) (a : Addr) (cls : Value) (d : Option Addr) : List V → Hp → VK → Prop := fun xs H Q => ∃ (D dd : Addr) (fs : List (Str × V)) (c : V) (cv : Value) (b : Bool), cls = .ref D ∧ d = some dd ∧ ExcC K D ∧ H dd = some (.xd fs) ∧ xs = [.ref a, c] ∧ (∀ u, RelV c u → u = cv) ∧ PySem.W.kitOne K (.ref D) cv = some b ∧ Q (.bl b) H
theorem call_isX {X : Cx} {a : Addr} {cls : Value} {d : Option Addr} {oe : Obj} {pn : List (Addr × Obj)} (hz : Zc cls d oe) (hf : ∃ vs, oe.data = .fields vs) : CallR (X.suite a ((a, oe) :: pn)) (.builtin "isinstance") (rIsX X.K a cls d) := by
  intro pins s σ H xs us Q I r h
  obtain ⟨D, dd, fs, c, cv, b, rfl, rfl, C, ed, rfl, hcv, e, q⟩ := h
  obtain ⟨u1, u2, rfl, r1, r2⟩ := vals2 r
  cases r1
  have ec := hcv _ r2
  subst ec
  obtain ⟨hget, _⟩ := I.pin (a, oe) (List.mem_append.mpr (.inl List.mem_cons_self))
  obtain ⟨vs, hv⟩ := hf
  have hx : ObjOk X.prog X.w H s.heap dd (.xd fs) := I.hok dd _ ed
  obtain ⟨mA, hns, hr⟩ := hx
  obtain ⟨od, ho, hl⟩ := lookIn_ns hns
  have J : PySem.W.InstAt s.heap a oe D (some od) := ⟨hget, hz.1, by unfold PySem.W.notCls; rw [hv] <;> rfl, by rw [hz.2]; exact ho⟩
  have hcl : (PySem.W.clsIn X.K D).isSome = true := by
    obtain ⟨cd, hc, _⟩ := PySem.W.any_some C.hd
    rw [hc]
    rfl
  exact PySem.W.kia_one (PySem.W.kitx_exc hcl C.hg C.hk C.hs C.ha C.hn C.ht C.hm) I.kIn J e (fun z => nomatch z) fun tk => ⟨.bl b, H, I.kept (t' := tk) fun _ _ z => z, rfl, q⟩
end Z
set_option Elab.async false
set_option linter.all false
set_option maxRecDepth 100000
set_option maxHeartbeats 4000000
namespace Z
open PySem PySem.Spec PyProof.Rows L2 NdefX
/-! ### the head with own exceptions: facts of defs and classes, one more Bool, the __init__s -/
def asX (g : Addr → Option Obj) (n : Nat) : List Addr := He.asD g n ++ [cStatics]
def hookX (n : Nat) (fa : List He.Fa) (fn : List He.DefD) (xs : List Str) (vs : List SupV) (ex : PySem.W.Frag → Bool) : PySem.W.Hook where
  α := He.AlD × (List SupV × Bool)
  obs := fun s => (He.obsD fa fn (He.frG s.heap.get? (asX s.heap.get? n)), xs.map (supObs (He.frG s.heap.get? (asX s.heap.get? n))), ex (He.frG s.heap.get? (asX s.heap.get? n)))
  val := fun _ => (He.valD fn, vs, true)
  says := fun _ h => ∃ K : PySem.W.Frag, K.In h ∧ He.SaysD fa fn K ∧ xs.map (supObs K) = vs ∧ ex K = true
  of := fun _ _ e => ⟨_, He.frG_in, congrArg (fun z : He.AlD × (List SupV × Bool) => z.1) e, congrArg (fun z : He.AlD × (List SupV × Bool) => z.2.1) e, congrArg (fun z : He.AlD × (List SupV × Bool) => z.2.2) e⟩
  keeps := fun _ _ _ ⟨K, hK, c⟩ k => ⟨K, PySem.W.Frag.In.keeps hK k, c⟩
def obX (n : Nat) (fa : List He.Fa) (fn : List He.DefD) (xs : List Str) (ex : PySem.W.Frag → Bool) (g : Addr → Option Obj) : He.AlD × (List SupV × Bool) := (He.obsD fa fn (He.frG g (asX g n)), xs.map (supObs (He.frG g (asX g n))), ex (He.frG g (asX g n)))
theorem obX_eq {n : Nat} {fa : List He.Fa} {fn : List He.DefD} {xs : List Str} {vs : List SupV} {ex : PySem.W.Frag → Bool} {g : Addr → Option Obj} {s : Shared} (h : ∀ a, g a = s.heap.get? a) : obX n fa fn xs ex g = (hookX n fa fn xs vs ex).obs s := by
  have e : g = s.heap.get? := funext h
  rw [e] <;> rfl
theorem sup_at {xs : List Str} {vs : List SupV} {K : PySem.W.Frag} (e : xs.map (supObs K) = vs) (i : Nat) {x : Str} {v : SupV} (h1 : xs[i]? = some x := by rfl) (h2 : vs[i]? = some v := by rfl) : supObs K x = v := by
  have := congrArg (fun z : List SupV => z[i]?) e
  simp only [List.getElem?_map, h1, h2] at this
  exact Option.some.inj this
def excB (K : PySem.W.Frag) (D : Addr) : Bool := He.eqO (PySem.W.findIn K (.ref D) "__getattribute__") (some (some (.builtin "BaseException.__getattribute__"))) && (He.eqO (PySem.W.findIn K (.ref D) "__getattr__") (some none) && (decide (PySem.W.subIn K (.ref D) (.type "BaseException") = some true) && (PySem.W.hasDictIn K D && (He.eqO (PySem.W.findIn K (.ref D) "__class__") (some (some (.builtin "object.__class__"))) && (He.eqO (PySem.W.specialIn K (.builtin "object.__class__") "__get__") (some (some (.builtin "getset_descriptor.__get__"))) && (decide (PySem.W.takesIn K (.builtin "object.__class__") = some true) && decide (PySem.W.mroIn K D (.type "object") = some true)))))))
theorem excB_ok {K : PySem.W.Frag} {D : Addr} (h : excB K D = true) : ExcC K D ∧ XfC K D := by
  obtain ⟨h1, h⟩ := He.ba h
  obtain ⟨h2, h⟩ := He.ba h
  obtain ⟨h3, h⟩ := He.ba h
  obtain ⟨h4, h⟩ := He.ba h
  obtain ⟨h5, h⟩ := He.ba h
  obtain ⟨h6, h⟩ := He.ba h
  obtain ⟨h7, h8⟩ := He.ba h
  exact ⟨⟨He.eqO_ok h1, He.eqO_ok h2, of_decide_eq_true h3, h4, He.eqO_ok h5, He.eqO_ok h6, of_decide_eq_true h7, of_decide_eq_true h8⟩, ⟨He.eqO_ok h1, He.eqO_ok h2, of_decide_eq_true h3, h4⟩⟩
/-- an own exception class with the field -/
def exnB (fl q field : Str) (K : PySem.W.Frag) (C : Addr) : Bool := supB fl K C q && (He.eqO (PySem.W.findIn K (.ref C) "__init__") (some (some (.ref (He.ma K C "__init__")))) && (decide (PySem.W.typeIn K (.ref (He.ma K C "__init__")) = some (.type "function")) && (He.eqO (PySem.W.findIn K (.ref C) field) (some none) && excB K C)))
structure ExnF (K : PySem.W.Frag) (C : Addr) (q field fl : Str) : Prop where
  sup : supB fl K C q = true
  ini : PySem.W.findIn K (.ref C) "__init__" = some (some (.ref (He.ma K C "__init__")))
  ty : PySem.W.typeIn K (.ref (He.ma K C "__init__")) = some (.type "function")
  no : PySem.W.findIn K (.ref C) field = some none
  ec : ExcC K C
  xf : XfC K C
theorem exnB_ok {fl q field : Str} {K : PySem.W.Frag} {C : Addr} (h : exnB fl q field K C = true) : ExnF K C q field fl := by
  obtain ⟨h1, h⟩ := He.ba h
  obtain ⟨h2, h⟩ := He.ba h
  obtain ⟨h3, h⟩ := He.ba h
  obtain ⟨h4, h5⟩ := He.ba h
  exact ⟨h1, He.eqO_ok h2, of_decide_eq_true h3, He.eqO_ok h4, (excB_ok h5).1, (excB_ok h5).2⟩
def exmB (K : PySem.W.Frag) (a b : Addr) : Bool := decide (PySem.W.exmOne K (.ref a) (.ref b) = some true)
def kitVB (K : PySem.W.Frag) (a : Addr) (v : Value) (b : Bool) : Bool := decide (PySem.W.kitOne K (.ref a) v = some b)
end Z
set_option Elab.async false
set_option linter.all false
set_option maxRecDepth 100000
set_option maxHeartbeats 4000000
namespace Z
open PySem PySem.Spec PyProof.Rows L2 NdefX
/-! ### the head with own exceptions and properties: further observations are any functions of the written part -/
def hookY (n : Nat) (fa : List He.Fa) (fn : List He.DefD) (xs : List (PySem.W.Frag → SupV)) (vs : List SupV) (ex : PySem.W.Frag → Bool) : PySem.W.Hook where
  α := He.AlD × (List SupV × Bool)
  obs := fun s => (He.obsD fa fn (He.frG s.heap.get? (asX s.heap.get? n)), xs.map (fun f => f (He.frG s.heap.get? (asX s.heap.get? n))), ex (He.frG s.heap.get? (asX s.heap.get? n)))
  val := fun _ => (He.valD fn, vs, true)
  says := fun _ h => ∃ K : PySem.W.Frag, K.In h ∧ He.SaysD fa fn K ∧ xs.map (fun f => f K) = vs ∧ ex K = true
  of := fun _ _ e => ⟨_, He.frG_in, congrArg (fun z : He.AlD × (List SupV × Bool) => z.1) e, congrArg (fun z : He.AlD × (List SupV × Bool) => z.2.1) e, congrArg (fun z : He.AlD × (List SupV × Bool) => z.2.2) e⟩
  keeps := fun _ _ _ ⟨K, hK, c⟩ k => ⟨K, PySem.W.Frag.In.keeps hK k, c⟩
def obY (n : Nat) (fa : List He.Fa) (fn : List He.DefD) (xs : List (PySem.W.Frag → SupV)) (ex : PySem.W.Frag → Bool) (g : Addr → Option Obj) : He.AlD × (List SupV × Bool) := (He.obsD fa fn (He.frG g (asX g n)), xs.map (fun f => f (He.frG g (asX g n))), ex (He.frG g (asX g n)))
theorem obY_eq {n : Nat} {fa : List He.Fa} {fn : List He.DefD} {xs : List (PySem.W.Frag → SupV)} {vs : List SupV} {ex : PySem.W.Frag → Bool} {g : Addr → Option Obj} {s : Shared} (h : ∀ a, g a = s.heap.get? a) : obY n fa fn xs ex g = (hookY n fa fn xs vs ex).obs s := by
  have e : g = s.heap.get? := funext h
  rw [e] <;> rfl
theorem y_at {xs : List (PySem.W.Frag → SupV)} {vs : List SupV} {K : PySem.W.Frag} (e : xs.map (fun f => f K) = vs) (i : Nat) {f : PySem.W.Frag → SupV} {v : SupV} (h1 : xs[i]? = some f := by rfl) (h2 : vs[i]? = some v := by rfl) : f K = v := by
  have := congrArg (fun z : List SupV => z[i]?) e
  simp only [List.getElem?_map, h1, h2] at this
  exact Option.some.inj this
def isB (K : PySem.W.Frag) (C : Addr) : Bool := He.eqO (PySem.W.findIn K (.ref C) "__class__") (some (some (.builtin "object.__class__"))) && (He.eqO (PySem.W.specialIn K (.builtin "object.__class__") "__get__") (some (some (.builtin "getset_descriptor.__get__"))) && (decide (PySem.W.takesIn K (.builtin "object.__class__") = some true) && (decide (PySem.W.mroIn K C (.type "object") = some true) && decide (PySem.W.kitOne K (.ref C) (.ref C) = some true))))
theorem isB_ok {K : PySem.W.Frag} {C : Addr} (cl : Cls K C) (h : isB K C = true) : C8.InsC K C := by
  obtain ⟨h1, h⟩ := He.ba h
  obtain ⟨h2, h⟩ := He.ba h
  obtain ⟨h3, h⟩ := He.ba h
  obtain ⟨h4, h5⟩ := He.ba h
  exact ⟨cl, He.eqO_ok h1, He.eqO_ok h2, of_decide_eq_true h3, of_decide_eq_true h4, of_decide_eq_true h5⟩
def spB (K : PySem.W.Frag) (C : Addr) (m : Str) : Bool := He.eqO (PySem.W.findIn K (.ref C) m) (some (some (.ref (He.ma K C m)))) && (PySem.W.isFn K (.ref (He.ma K C m)) && PySem.W.fnIn K (He.ma K C m))
theorem spB_ok {K : PySem.W.Frag} {C : Addr} {m : Str} (h : spB K C m = true) : PySem.W.findIn K (.ref C) m = some (some (.ref (He.ma K C m))) ∧ PySem.W.isFn K (.ref (He.ma K C m)) = true ∧ PySem.W.fnIn K (He.ma K C m) = true := by
  obtain ⟨h1, h⟩ := He.ba h
  obtain ⟨h2, h3⟩ := He.ba h
  exact ⟨He.eqO_ok h1, h2, h3⟩
theorem all_at {bs : List Bool} (h : bs.all id = true) (i : Nat) {b : Bool} (e : bs[i]? = some b := by rfl) : b = true := List.all_eq_true.mp h b (List.mem_of_getElem? e)
theorem fnr_ok {P : Program} {w : World} {K : PySem.W.Frag} {mg : Str → Option Value} {base : Heap} {k : Nat} {f : Addr} {fd : FuncData} {ps : List Str} {sp : Sp} (F : FnOk P w K mg base CX0 k f fd ps sp) (b : Binds K fd ps []) : FnR P w K mg base CX0 k f sp := (FnOk.raw (dvs := []) F b .nil).imp fun vs H Q E h => by
  show sp (vs ++ []) H Q E
  rw [List.append_nil]
  exact h
/-! a property's getter -/
def gtA (K : PySem.W.Frag) (C : Addr) (m : Str) : Addr := match PySem.W.recIn K (He.ma K C m) "property" with
  | some (.ref g :: _) => g
  | _ => 0
def fdAt (K : PySem.W.Frag) (g : Addr) : Option FuncData := match K.lookup g with
  | some ⟨_, _, .func fd, _⟩ => some fd
  | _ => none
def propObs (x m : Str) (K : PySem.W.Frag) : SupV := (fdAt K (gtA K (He.ga K x) m)).map fun fd => (fd.name, fd.qualname, fd.params, fd.body, fd.scope, fd.globals, fd.closure.map (·.1), fd.defaults, fd.builtins)
def propVal (m q : Str) (st : Stmt) : SupV := some (m, q, defArgs st, .stmts (defBody st), defScope st, mainGlobals, [], .none, builtinsNs)
def propB (K : PySem.W.Frag) (C : Addr) (m q : Str) : Bool := He.eqO (PySem.W.findIn K (.ref C) m) (some (some (.ref (He.ma K C m)))) && (He.eqO (PySem.W.specialIn K (.ref (He.ma K C m)) "__get__") (some (some (.builtin "property.__get__"))) && (decide (PySem.W.takesIn K (.ref (He.ma K C m)) = some true) && ((match PySem.W.recIn K (He.ma K C m) "property" with
  | some (.ref _ :: _) => true
  | _ => false) && (PySem.W.keepIn K (.ref (gtA K C m)) && (match fdAt K (gtA K C m) with
  | some fd => PySem.W.codeIn K fd.code q && (He.dflB K fd.defaults [] && He.kwdB K fd.kwdefaults [])
  | none => false)))))
theorem prop_of {K : PySem.W.Frag} {x m q : Str} {st : Stmt} (h1 : propObs x m K = propVal m q st) (h2 : propB K (He.ga K x) m q = true) : ∃ fd : FuncData, PropOf K (He.ga K x) m (He.ma K (He.ga K x) m) (gtA K (He.ga K x) m) ∧ FunD K m q (defArgs st) (defBody st) (defScope st) [] [] (gtA K (He.ga K x) m) fd := by
  obtain ⟨g0, h2⟩ := He.ba h2
  obtain ⟨g1, h2⟩ := He.ba h2
  obtain ⟨g2, h2⟩ := He.ba h2
  obtain ⟨g3, h2⟩ := He.ba h2
  obtain ⟨g4, g5⟩ := He.ba h2
  have P : PropOf K (He.ga K x) m (He.ma K (He.ga K x) m) (gtA K (He.ga K x) m) := by
    refine ⟨He.eqO_ok g0, He.eqO_ok g1, of_decide_eq_true g2, ?_⟩
    unfold gtA
    split at g3
    · next g rest e =>
      rw [e]
      exact ⟨rest, rfl⟩
    · cases g3
  unfold propObs at h1
  cases e : fdAt K (gtA K (He.ga K x) m) with
  | none =>
    rw [e] at h1
    cases h1
  | some fd =>
    rw [e] at h1 g5
    have lk : ∃ oc od osl, K.lookup (gtA K (He.ga K x) m) = some ⟨oc, od, .func fd, osl⟩ := by
      unfold fdAt at e
      split at e
      · next oc od fd' osl l =>
        cases e
        exact ⟨_, _, _, l⟩
      · cases e
    obtain ⟨oc, od, osl, lk⟩ := lk
    obtain ⟨n1, n2, n3, n4, n5, n6, n7, n8, n9, n10, n11, n12, n13, n14, n15⟩ := fd
    have h1 : (some (n1, n2, n3, n4, n5, n6, n7.map (·.1), n8, n15) : SupV) = propVal m q st := h1
    unfold propVal at h1
    simp only [Option.some.injEq, Prod.mk.injEq] at h1
    obtain ⟨a1, a2, a3, a4, a5, a6, a7, a8, a9⟩ := h1
    have a7 : n7 = [] := List.map_eq_nil_iff.mp a7
    subst a1 a2 a3 a4 a5 a6 a7 a8 a9
    obtain ⟨k1, k2⟩ := He.ba (show (PySem.W.codeIn K n13 n2 && (He.dflB K .none [] && He.kwdB K n9 [])) = true from g5)
    obtain ⟨k3, k4⟩ := He.ba k2
    exact ⟨_, P, ⟨oc, od, _, n9, n10, n11, n12, n13, n14, osl, rfl, lk, k1, He.dflB_ok k3, He.kwdB_ok k4⟩, g4⟩
end Z
set_option Elab.async false
set_option linter.all false
namespace Dy
/-! ### day functions: the mathematics -/
/-- the value of the rule with these days -/
def dv (ds : List Int) (d : Int) : Int := ds.getD (d % (ds.length : Int)).toNat 0 + (ds.length : Int) * (d / (ds.length : Int))
def Per (F : Int → Int) (s : Int) : Prop := ∀ d, F (d + s) = F d + s
theorem Per.mul {F : Int → Int} {s : Int} (h : Per F s) : ∀ (n : Nat) (d : Int), F (d + n * s) = F d + n * s
  | 0, d => by
    rw [show ((0 : Nat) : Int) * s = 0 by simp]
    simp
  | n + 1, d => by
    have e : ((n + 1 : Nat) : Int) * s = n * s + s := by
      rw [Int.natCast_add, Int.add_mul]
      simp
    rw [e, ← Int.add_assoc, h, h.mul n d]
    omega
theorem Per.imul {F : Int → Int} {s : Int} (h : Per F s) (n : Int) (d : Int) : F (d + n * s) = F d + n * s := by
  rcases Int.le_total 0 n with c | c
  · obtain ⟨m, rfl⟩ := Int.eq_ofNat_of_zero_le c
    exact h.mul m d
  · obtain ⟨m, e⟩ := Int.eq_ofNat_of_zero_le (show 0 ≤ -n by omega)
    have e : n = -(m : Int) := by omega
    subst e
    have := h.mul m (d + -(m : Int) * s)
    rw [show d + -(m : Int) * s + m * s = d by rw [Int.neg_mul]; omega] at this
    rw [this]
    rw [Int.neg_mul]
    omega
theorem Per.sub {F : Int → Int} {s t : Int} (h : Per F s) (k : Per F t) : Per F (s - t) := fun d => by
  have h1 := h (d - t)
  have h2 := k (d - t)
  rw [show d - t + t = d by omega] at h2
  rw [show d + (s - t) = d - t + s by omega, h1]
  omega
/-- a list that tells the values of F from 0 on -/
structure Of (F : Int → Int) (ds : List Int) : Prop where
  pos : 0 < ds.length
  per : Per F (ds.length : Int)
  at_ : ∀ i, i < ds.length → ds.getD i 0 = F (i : Int)
theorem Of.dv {F : Int → Int} {ds : List Int} (h : Of F ds) (d : Int) : dv ds d = F d := by
  unfold Dy.dv
  have hn : 0 < (ds.length : Int) := by have := h.pos; omega
  have h1 := Int.emod_nonneg d (show (ds.length : Int) ≠ 0 by omega)
  have h2 := Int.emod_lt_of_pos d hn
  rw [h.at_ _ (by omega), Int.toNat_of_nonneg h1]
  have h3 := h.per.imul (d / (ds.length : Int)) (d % (ds.length : Int))
  have h4 := Int.emod_add_mul_ediv d (ds.length : Int)
  rw [show d % (ds.length : Int) + d / (ds.length : Int) * (ds.length : Int) = d by rw [Int.mul_comm (d / _)]; exact h4] at h3
  rw [h3, Int.mul_comm (d / _)]
theorem of_dv {ds : List Int} (h : 0 < ds.length) : Of (dv ds) ds := by
  refine ⟨h, fun d => ?_, fun i hi => ?_⟩
  · unfold dv
    rw [Int.add_emod_right, Int.add_ediv_of_dvd_right (Int.dvd_refl _), Int.ediv_self (by omega), Int.mul_add]
    omega
  · unfold dv
    rw [Int.emod_eq_of_lt (by omega) (by omega), Int.ediv_eq_zero_of_lt (by omega) (by omega)]
    simp
/-- the least period -/
structure Lp (F : Int → Int) (p : Nat) : Prop where
  pos : 0 < p
  per : Per F (p : Int)
  least : ∀ s : Nat, 0 < s → Per F (s : Int) → p ≤ s
theorem Lp.uniq {F : Int → Int} {p q : Nat} (a : Lp F p) (b : Lp F q) : p = q := by
  have h1 := a.least q b.pos b.per
  have h2 := b.least p a.pos a.per
  omega
theorem Lp.dvd {F : Int → Int} {p n : Nat} (a : Lp F p) (h : Per F (n : Int)) : n % p = 0 := by
  have hm : Per F ((n % p : Nat) : Int) := by
    have h1 : Per F (((n / p : Nat) : Int) * (p : Int)) := fun d => a.per.mul (n / p) d
    have h2 := h.sub h1
    have e : (n : Int) - ((n / p : Nat) : Int) * (p : Int) = ((n % p : Nat) : Int) := by
      have := Nat.div_add_mod n p
      have h3 : (n : Int) = ((p * (n / p) + n % p : Nat) : Int) := by rw [this]
      rw [Int.natCast_add, Int.natCast_mul, Int.mul_comm] at h3
      omega
    rw [e] at h2
    exact h2
  rcases Nat.eq_zero_or_pos (n % p) with c | c
  · exact c
  · have := a.least _ c hm
    have := Nat.mod_lt n a.pos
    omega
/-- seen on one stretch of n days -/
theorem per_of {F : Int → Int} {n : Nat} {s : Int} (hn : 0 < n) (h : Per F (n : Int)) (k : ∀ i : Nat, i < n → F ((i : Int) + s) = F (i : Int) + s) : Per F s := fun d => by
  have hn2 : 0 < (n : Int) := by omega
  have h1 := Int.emod_nonneg d (show (n : Int) ≠ 0 by omega)
  have h2 := Int.emod_lt_of_pos d hn2
  have h4 := Int.emod_add_mul_ediv d (n : Int)
  obtain ⟨i, ei⟩ := Int.eq_ofNat_of_zero_le h1
  have hi : i < n := by omega
  have e1 : d = (i : Int) + d / n * n := by rw [← ei, Int.mul_comm (d / _)]; exact h4.symm
  have a1 := h.imul (d / n) (i : Int)
  have a2 := h.imul (d / n) ((i : Int) + s)
  rw [← e1] at a1
  rw [show (i : Int) + s + d / n * n = d + s by omega] at a2
  rw [a2, a1, k i hi]
  omega
/-- the program's test: s divides n, and the days behind s are those before, s later -/
def Blk (ds : List Int) (s : Nat) : Prop := ds.length % s = 0 ∧ ∀ i, s ≤ i → i < ds.length → ds.getD i 0 = ds.getD (i - s) 0 + s
theorem blk_per {F : Int → Int} {ds : List Int} {s : Nat} (h : Of F ds) (hs : 0 < s) (b : Blk ds s) : Per F (s : Int) := by
  obtain ⟨b1, b2⟩ := b
  obtain ⟨q, hq⟩ := Nat.dvd_of_mod_eq_zero b1
  have hp := h.pos
  -- within the list
  have st : ∀ i : Nat, i + s < ds.length → F ((i : Int) + s) = F (i : Int) + s := fun i hi => by
    have := b2 (i + s) (by omega) hi
    rw [h.at_ _ hi, show i + s - s = i by omega, h.at_ i (by omega)] at this
    rw [← this]
    congr 1
  have ch : ∀ (k i : Nat), i + k * s < ds.length → F ((i : Int) + k * s) = F (i : Int) + k * s := by
    intro k
    induction k with
    | zero =>
      intro i _
      simp
    | succ k ih =>
      intro i hi
      have e : (k + 1) * s = k * s + s := by rw [Nat.add_mul, Nat.one_mul]
      rw [e] at hi
      have h1 := ih i (by omega)
      have h2 := st (i + k * s) (by omega)
      have e2 : ((k + 1 : Nat) : Int) * (s : Int) = k * s + s := by
        rw [Int.natCast_add, Int.add_mul]
        simp
      rw [e2, ← Int.add_assoc]
      rw [show ((i + k * s : Nat) : Int) = (i : Int) + k * s by rw [Int.natCast_add, Int.natCast_mul]] at h2
      rw [h2, h1]
      omega
  refine per_of hp h.per (fun i hi => ?_)
  by_cases c : i + s < ds.length
  · exact st i c
  · -- the last block
    have q1 : 0 < q := by
      rcases Nat.eq_zero_or_pos q with z | z
      · rw [z, Nat.mul_zero] at hq
        omega
      · exact z
    obtain ⟨q', rfl⟩ : ∃ q', q = q' + 1 := ⟨q - 1, by omega⟩
    have e : s * (q' + 1) = q' * s + s := by rw [Nat.mul_add, Nat.mul_one, Nat.mul_comm]
    rw [e] at hq
    obtain ⟨j, hj⟩ : ∃ j : Nat, i = j + q' * s := ⟨i - q' * s, by omega⟩
    have a1 := ch q' j (by omega)
    have a2 := h.per (j : Int)
    have e3 : (ds.length : Int) = (q' : Int) * s + s := by rw [hq, Int.natCast_add, Int.natCast_mul]
    rw [e3] at a2
    have e4 : (i : Int) = (j : Int) + q' * s := by rw [hj, Int.natCast_add, Int.natCast_mul]
    rw [e4, a1]
    rw [Int.add_assoc, a2]
    omega
theorem lp_blk {F : Int → Int} {ds : List Int} {p : Nat} (h : Of F ds) (l : Lp F p) : Blk ds p := by
  refine ⟨l.dvd h.per, fun i hi hn => ?_⟩
  rw [h.at_ i hn, h.at_ (i - p) (by omega)]
  have := l.per ((i - p : Nat) : Int)
  rw [← this]
  congr 1
  omega
/-- the first size below n that passes a test that means «a period» -/
theorem first_lp {F : Int → Int} {n s : Nat} (T : Nat → Prop) (hn : 0 < n) (h : Per F (n : Int)) (hT : ∀ k, 0 < k → T k → Per F (k : Int)) (hL : ∀ p, Lp F p → p < n → T p) (hs : 0 < s) (hsn : s ≤ n) (h1 : ∀ k, 0 < k → k < s → ¬ T k) (h2 : s < n → T s) : Lp F s := by
  -- the least period exists
  have ex : ∃ p, Lp F p := by
    have key : ∀ m : Nat, ∀ k : Nat, k ≤ m → 0 < k → Per F (k : Int) → ∃ p, Lp F p := by
      intro m
      induction m with
      | zero => intro k a b; omega
      | succ m ih =>
        intro k a b c
        by_cases z : ∃ j : Nat, 0 < j ∧ j < k ∧ Per F (j : Int)
        · obtain ⟨j, j1, j2, j3⟩ := z
          exact ih j (by omega) j1 j3
        · refine ⟨k, b, c, fun j j1 j2 => ?_⟩
          apply Decidable.byContradiction
          intro w
          exact z ⟨j, j1, by omega, j2⟩
    exact key n n (Nat.le_refl _) hn h
  obtain ⟨p, hp⟩ := ex
  have pn := hp.least n hn h
  have e : p = s := by
    by_cases c : p < s
    · exact absurd (hL p hp (by omega)) (h1 p hp.pos c)
    · by_cases d : s < n
      · have := hp.least s hs (hT s hs (h2 d))
        omega
      · omega
  rw [← e]
  exact hp
theorem Of.take {F : Int → Int} {ds : List Int} {p : Nat} (h : Of F ds) (l : Lp F p) : p ≤ ds.length ∧ (ds.take p).length = p ∧ Of F (ds.take p) := by
  have hp := l.least ds.length h.pos h.per
  have e : (ds.take p).length = p := by
    rw [List.length_take]
    omega
  refine ⟨hp, e, ?_, ?_, ?_⟩
  · rw [e]
    exact l.pos
  · rw [e]
    exact l.per
  · intro i hi
    rw [e] at hi
    rw [← h.at_ i (by omega), List.getD_eq_getElem?_getD, List.getD_eq_getElem?_getD, List.getElem?_take_of_lt hi]
/-! ### what makes a day rule -/
/-- the first index at which the days fall; 0 if the end is too late or there are none -/
def asc (ds : List Int) : Nat → Prop := fun i => ¬ ds.getD i 0 < ds.getD (i - 1) 0
def faultF (ds : List Int) : Nat → Nat → Option Nat
  | 0, _ => none
  | m + 1, i => if ds.getD i 0 < ds.getD (i - 1) 0 then some i else faultF ds m (i + 1)
/-- what check_days says -/
def fault (ds : List Int) : Option Nat := match faultF ds (ds.length - 1) 1 with
  | some i => some i
  | none => if ds.length = 0 ∨ ds.getD 0 0 + ds.length < ds.getD (ds.length - 1) 0 then some 0 else none
end Dy
set_option Elab.async false
set_option linter.all false
namespace Dy
/-! ### day functions: iterates, adjoints -/
def Mon (F : Int → Int) : Prop := ∀ d, F d ≤ F (d + 1)
theorem Mon.add {F : Int → Int} (h : Mon F) (d : Int) : ∀ n : Nat, F d ≤ F (d + n)
  | 0 => by simp
  | n + 1 => by
    have h1 := h.add d n
    have h2 := h (d + n)
    rw [show d + ((n + 1 : Nat) : Int) = d + n + 1 by omega]
    omega
theorem Mon.le {F : Int → Int} (h : Mon F) {a b : Int} (c : a ≤ b) : F a ≤ F b := by
  have := h.add a (b - a).toNat
  rw [show a + ((b - a).toNat : Int) = b by omega] at this
  exact this
def it (F : Int → Int) : Nat → Int → Int
  | 0, d => d
  | n + 1, d => F (it F n d)
theorem it_add (F : Int → Int) (a b : Nat) (d : Int) : it F (a + b) d = it F b (it F a d) := by
  induction b with
  | zero => rfl
  | succ b ih => rw [← Nat.add_assoc]; show F (it F (a + b) d) = F (it F b (it F a d)); rw [ih]
theorem it_succ (F : Int → Int) (n : Nat) (d : Int) : it F (n + 1) d = it F n (F d) := by
  rw [Nat.add_comm, it_add]
  rfl
theorem it_mul (F : Int → Int) (a b : Nat) (d : Int) : it F (a * b) d = it (it F a) b d := by
  induction b with
  | zero => rfl
  | succ b ih => rw [Nat.mul_succ, it_add, ih]; rfl
theorem Mon.it {F : Int → Int} (h : Mon F) : ∀ n, Mon (it F n)
  | 0 => fun d => by show d ≤ d + 1; omega
  | n + 1 => fun d => h.le (h.it n d)
theorem Per.it {F : Int → Int} {s : Int} (h : Per F s) : ∀ n, Per (it F n) s
  | 0 => fun d => rfl
  | n + 1 => fun d => by
    show F (Dy.it F n (d + s)) = F (Dy.it F n d) + s
    rw [h.it n d, h]
theorem Mon.comp {F G : Int → Int} (f : Mon F) (g : Mon G) : Mon fun d => G (F d) := fun d => g.le (f d)
theorem Per.comp {F G : Int → Int} {s : Int} (f : Per F s) (g : Per G s) : Per (fun d => G (F d)) s := fun d => by
  show G (F (d + s)) = G (F d) + s
  rw [f, g]
theorem Mon.max {F G : Int → Int} (f : Mon F) (g : Mon G) : Mon fun d => max (F d) (G d) := fun d => by
  have := f d
  have := g d
  show Max.max _ _ ≤ Max.max _ _
  omega
theorem Mon.min {F G : Int → Int} (f : Mon F) (g : Mon G) : Mon fun d => min (F d) (G d) := fun d => by
  have := f d
  have := g d
  show Min.min _ _ ≤ Min.min _ _
  omega
theorem Per.max {F G : Int → Int} {s : Int} (f : Per F s) (g : Per G s) : Per (fun d => max (F d) (G d)) s := fun d => by
  show Max.max (F (d + s)) (G (d + s)) = Max.max _ _ + s
  rw [f, g]
  omega
theorem Per.min {F G : Int → Int} {s : Int} (f : Per F s) (g : Per G s) : Per (fun d => min (F d) (G d)) s := fun d => by
  show Min.min (F (d + s)) (G (d + s)) = Min.min _ _ + s
  rw [f, g]
  omega
theorem Per.dvd {F : Int → Int} {s n : Nat} (h : Per F (s : Int)) (d : n % s = 0) : Per F (n : Int) := fun x => by
  have e := h.mul (n / s) x
  have h2 := Nat.div_add_mod n s
  have e2 : ((n / s : Nat) : Int) * (s : Int) = n := by
    rw [← Int.natCast_mul]
    congr 1
    rw [Nat.mul_comm]
    omega
  rw [e2] at e
  exact e
/-- the values of F from 0 on make a list that is a rule -/
theorem of_congr {F G : Int → Int} {ds : List Int} (o : Of F ds) (h : ∀ d, F d = G d) : Of G ds := by
  have : F = G := funext h
  rw [← this]
  exact o
theorem of_range {F : Int → Int} {n : Nat} (hn : 0 < n) (h : Per F (n : Int)) : Of F ((List.range n).map fun (i : Nat) => F (i : Int)) := by
  have l : ((List.range n).map fun (i : Nat) => F (i : Int)).length = n := by rw [List.length_map, List.length_range]
  refine ⟨by omega, by rw [l]; exact h, fun i hi => ?_⟩
  rw [l] at hi
  rw [List.getD_eq_getElem?_getD, List.getElem?_map, List.getElem?_range hi]
  rfl
theorem Of.eq {F : Int → Int} {ds es : List Int} (a : Of F ds) (b : Of F es) (l : ds.length = es.length) : ds = es := by
  apply List.ext_getElem l
  intro i h1 h2
  have e1 := a.at_ i h1
  have e2 := b.at_ i h2
  rw [List.getD_eq_getElem?_getD, List.getElem?_eq_getElem h1] at e1
  rw [List.getD_eq_getElem?_getD, List.getElem?_eq_getElem h2] at e2
  exact e1.trans e2.symm
/-! adjoints -/
def Lat (F L : Int → Int) : Prop := ∀ d l, F d ≤ l ↔ d ≤ L l
def Soo (F S : Int → Int) : Prop := ∀ d l, l ≤ F d ↔ S l ≤ d
theorem Lat.uniq {F L M : Int → Int} (a : Lat F L) (b : Lat F M) (l : Int) : L l = M l := by
  have h1 := (b (L l) l).mp ((a (L l) l).mpr (Int.le_refl _))
  have h2 := (a (M l) l).mp ((b (M l) l).mpr (Int.le_refl _))
  omega
theorem Soo.uniq {F L M : Int → Int} (a : Soo F L) (b : Soo F M) (l : Int) : L l = M l := by
  have h1 := (b (L l) l).mp ((a (L l) l).mpr (Int.le_refl _))
  have h2 := (a (M l) l).mp ((b (M l) l).mpr (Int.le_refl _))
  omega
theorem Lat.soo {F L : Int → Int} (a : Lat F L) : Soo F fun l => L (l - 1) + 1 := fun d l => by
  have := a d (l - 1)
  show l ≤ F d ↔ L (l - 1) + 1 ≤ d
  omega
theorem Soo.lat {F S : Int → Int} (a : Soo F S) : Lat F fun l => S (l + 1) - 1 := fun d l => by
  have := a d (l + 1)
  show F d ≤ l ↔ d ≤ S (l + 1) - 1
  omega
theorem Lat.flip {F L : Int → Int} (a : Lat F L) : Soo L F := fun d l => (a l d).symm
theorem Soo.flip {F S : Int → Int} (a : Soo F S) : Lat S F := fun d l => (a l d).symm
theorem Lat.mon {F L : Int → Int} (a : Lat F L) : Mon L := fun l => (a _ _).mp (by
  have := (a (L l) l).mpr (Int.le_refl _)
  omega)
theorem Soo.mon {F L : Int → Int} (a : Soo F L) : Mon L := fun l => (a _ _).mp (by
  have := (a (L (l + 1)) (l + 1)).mpr (Int.le_refl _)
  omega)
theorem Lat.per {F L : Int → Int} {s : Int} (a : Lat F L) (h : Per F s) : Per L s := fun l => by
  have h1 : L l + s ≤ L (l + s) := (a _ _).mp (by
    rw [h]
    have := (a (L l) l).mpr (Int.le_refl _)
    omega)
  have h2 : L (l + s) - s ≤ L l := (a _ _).mp (by
    have := (a (L (l + s)) (l + s)).mpr (Int.le_refl _)
    have e := h (L (l + s) - s)
    rw [show L (l + s) - s + s = L (l + s) by omega] at e
    omega)
  omega
theorem Soo.per {F L : Int → Int} {s : Int} (a : Soo F L) (h : Per F s) : Per L s := fun l => by
  have := a.lat.per h (l - 1)
  have this : L (l - 1 + s + 1) - 1 = L (l - 1 + 1) - 1 + s := this
  rw [show l - 1 + s + 1 = l + s by omega, show l - 1 + 1 = l by omega] at this
  omega
theorem Lat.comp {F G L M : Int → Int} (a : Lat F L) (b : Lat G M) : Lat (fun d => G (F d)) fun l => L (M l) := fun d l => (b _ _).trans (a _ _)
theorem Soo.comp {F G L M : Int → Int} (a : Soo F L) (b : Soo G M) : Soo (fun d => G (F d)) fun l => L (M l) := fun d l => (b _ _).trans (a _ _)
theorem Lat.it {F L : Int → Int} (a : Lat F L) : ∀ n, Lat (it F n) (it L n)
  | 0 => fun _ _ => Iff.rfl
  | n + 1 => fun d l => by
    rw [it_succ L]
    exact (a _ _).trans (a.it n _ _)
theorem Soo.it {F L : Int → Int} (a : Soo F L) : ∀ n, Soo (it F n) (it L n)
  | 0 => fun _ _ => Iff.rfl
  | n + 1 => fun d l => by
    rw [it_succ L]
    exact (a _ _).trans (a.it n _ _)
theorem lat_max {F G L M : Int → Int} (a : Lat F L) (b : Lat G M) : Lat (fun d => max (F d) (G d)) fun l => min (L l) (M l) := fun d l => by
  have := a d l
  have := b d l
  show Max.max (F d) (G d) ≤ l ↔ d ≤ Min.min (L l) (M l)
  omega
theorem lat_min {F G L M : Int → Int} (a : Lat F L) (b : Lat G M) : Lat (fun d => min (F d) (G d)) fun l => max (L l) (M l) := fun d l => by
  have := a d l
  have := b d l
  show Min.min (F d) (G d) ≤ l ↔ d ≤ Max.max (L l) (M l)
  omega
theorem soo_max {F G L M : Int → Int} (a : Soo F L) (b : Soo G M) : Soo (fun d => max (F d) (G d)) fun l => min (L l) (M l) := fun d l => by
  have := a d l
  have := b d l
  show l ≤ Max.max (F d) (G d) ↔ Min.min (L l) (M l) ≤ d
  omega
theorem soo_min {F G L M : Int → Int} (a : Soo F L) (b : Soo G M) : Soo (fun d => min (F d) (G d)) fun l => max (L l) (M l) := fun d l => by
  have := a d l
  have := b d l
  show l ≤ Min.min (F d) (G d) ↔ Max.max (L l) (M l) ≤ d
  omega
/-! rings -/
/-- two of n + 1 numbers below n are alike -/
theorem pigeon : ∀ (n : Nat) (f : Nat → Nat), (∀ i, i ≤ n → f i < n) → ∃ i j, i < j ∧ j ≤ n ∧ f i = f j
  | 0, f, h => absurd (h 0 (Nat.le_refl _)) (Nat.not_lt_zero _)
  | n + 1, f, h => by
    by_cases c : ∃ i, i ≤ n ∧ f i = f (n + 1)
    · obtain ⟨i, h1, h2⟩ := c
      exact ⟨i, n + 1, by omega, Nat.le_refl _, h2⟩
    · -- f (n + 1) changed with n
      have g1 : ∀ i, i ≤ n → (if f i = n then f (n + 1) else f i) < n := fun i hi => by
        have h1 := h i (by omega)
        have h2 := h (n + 1) (Nat.le_refl _)
        have h3 : f i ≠ f (n + 1) := fun z => c ⟨i, hi, z⟩
        split <;> omega
      obtain ⟨i, j, a, b, e⟩ := pigeon n (fun i => if f i = n then f (n + 1) else f i) g1
      refine ⟨i, j, a, by omega, ?_⟩
      have h3 : f i ≠ f (n + 1) := fun z => c ⟨i, by omega, z⟩
      have h4 : f j ≠ f (n + 1) := fun z => c ⟨j, by omega, z⟩
      split at e <;> split at e <;> omega
/-- day d comes back after u uses, g later -/
def Rg (F : Int → Int) (n : Nat) (d : Int) (u : Nat) (g : Int) : Prop := it F u d = d + g ∧ g % (n : Int) = 0
theorem ring_ex {F : Int → Int} {n : Nat} (hn : 0 < n) (h : Per F (n : Int)) : ∃ (d u : Nat), d < n ∧ 0 < u ∧ u ≤ n ∧ (it F u d - d) % (n : Int) = 0 := by
  have hn2 : (0 : Int) < n := by omega
  have nn : ∀ x : Int, 0 ≤ x % (n : Int) := fun x => Int.emod_nonneg x (by omega)
  have lt : ∀ x : Int, x % (n : Int) < n := fun x => Int.emod_lt_of_pos x hn2
  obtain ⟨i, j, a, b, e⟩ := pigeon n (fun i => (it F i 0 % (n : Int)).toNat) (fun i _ => by
    have := nn (it F i 0)
    have := lt (it F i 0)
    show (it F i 0 % (n : Int)).toNat < n
    omega)
  have e : it F i 0 % (n : Int) = it F j 0 % (n : Int) := by
    have h1 := nn (it F i 0)
    have h2 := nn (it F j 0)
    have e : (it F i 0 % (n : Int)).toNat = (it F j 0 % (n : Int)).toNat := e
    omega
  refine ⟨(it F i 0 % (n : Int)).toNat, j - i, ?_, by omega, by omega, ?_⟩
  · have := nn (it F i 0)
    have := lt (it F i 0)
    omega
  · rw [Int.toNat_of_nonneg (nn _)]
    have hq := Int.emod_add_mul_ediv (it F i 0) (n : Int)
    have hx := (h.it (j - i)).imul (it F i 0 / (n : Int)) (it F i 0 % (n : Int))
    rw [show it F i 0 % (n : Int) + it F i 0 / (n : Int) * (n : Int) = it F i 0 by rw [Int.mul_comm (it F i 0 / _)]; exact hq, ← it_add, show i + (j - i) = j by omega] at hx
    have h3 : it F (j - i) (it F i 0 % (n : Int)) - it F i 0 % (n : Int) = it F j 0 - it F i 0 := by
      rw [Int.mul_comm] at hx
      omega
    rw [h3, Int.sub_emod, e, Int.sub_self]
    rfl
/-- all gains lie within n - 1 -/
theorem gains {G : Int → Int} {n : Nat} (hn : 0 < n) (m : Mon G) (h : Per G (n : Int)) (d e : Int) : (G d - d) - (G e - e) < n := by
  have hn2 : (0 : Int) < n := by omega
  -- e moved to [d, d + n)
  have key : ∀ c : Int, d ≤ c → c < d + n → (G d - d) - (G c - c) < n := fun c h1 h2 => by
    have := m.le h1
    omega
  have h1 := Int.emod_nonneg (e - d) (show (n : Int) ≠ 0 by omega)
  have h2 := Int.emod_lt_of_pos (e - d) hn2
  have h3 := Int.emod_add_mul_ediv (e - d) (n : Int)
  have h4 := h.imul ((e - d) / (n : Int)) (d + (e - d) % (n : Int))
  have h5 := key (d + (e - d) % (n : Int)) (by omega) (by omega)
  rw [Int.mul_comm ((e - d) / _), show d + (e - d) % (n : Int) + (n : Int) * ((e - d) / (n : Int)) = e by omega] at h4
  omega
theorem gains_sum {G : Int → Int} {n : Nat} (hn : 0 < n) (m : Mon G) (h : Per G (n : Int)) (d e : Int) : ∀ k : Nat, k * (G d - d) - (it G k e - e) ≤ k * ((n : Int) - 1) ∧ -(k * ((n : Int) - 1)) ≤ k * (G d - d) - (it G k e - e)
  | 0 => by
    show ((0 : Nat) : Int) * _ - (e - e) ≤ ((0 : Nat) : Int) * _ ∧ _ ≤ ((0 : Nat) : Int) * _ - (e - e)
    simp
  | k + 1 => by
    have h1 := gains_sum hn m h d e k
    have h2 := gains hn m h d (it G k e)
    have h3 := gains hn m h (it G k e) d
    have e1 : ((k + 1 : Nat) : Int) * (G d - d) = k * (G d - d) + (G d - d) := by
      rw [Int.natCast_add, Int.add_mul]
      simp
    have e2 : ((k + 1 : Nat) : Int) * ((n : Int) - 1) = k * ((n : Int) - 1) + ((n : Int) - 1) := by
      rw [Int.natCast_add, Int.add_mul]
      simp
    rw [e1, e2]
    show k * (G d - d) + (G d - d) - (G (it G k e) - e) ≤ _ ∧ _ ≤ k * (G d - d) + (G d - d) - (G (it G k e) - e)
    generalize (k : Int) * ((n : Int) - 1) = y at *
    generalize (k : Int) * (G d - d) = x at *
    omega
theorem Rg.many {F : Int → Int} {n u : Nat} {d g : Int} (h : Per F (n : Int)) (r : Rg F n d u g) : ∀ k : Nat, it F (k * u) d = d + k * g
  | 0 => by
    rw [Nat.zero_mul]
    show d = _
    simp
  | k + 1 => by
    have hg : g = g / (n : Int) * (n : Int) := by
      have := Int.emod_add_mul_ediv g (n : Int)
      rw [r.2, Int.mul_comm] at this
      omega
    have e1 : ((k + 1 : Nat) : Int) * g = g + k * g := by
      rw [Int.natCast_add, Int.add_mul]
      simp [Int.add_comm]
    rw [Nat.add_mul, Nat.one_mul, Nat.add_comm, it_add, r.1]
    have h2 := (h.it (k * u)).imul (g / (n : Int)) d
    rw [← hg] at h2
    rw [h2, r.many h k, e1]
    omega
/-- how far uses and gain may be from the ring's pace -/
theorem pace {F : Int → Int} {n u m : Nat} {d g x : Int} (hn : 0 < n) (mo : Mon F) (h : Per F (n : Int)) (hu : 0 < u) (r : Rg F n d u g) : -((u : Int) * n) < u * (it F m x - x) - m * g ∧ u * (it F m x - x) - m * g < (u : Int) * n := by
  have h1 := gains_sum hn (mo.it m) (h.it m) x d u
  rw [← it_mul, r.many h m] at h1
  have e : (u : Int) * ((n : Int) - 1) = u * n - u := by
    rw [Int.mul_sub]
    simp
  rw [e] at h1
  generalize (u : Int) * (it F m x - x) = a at *
  generalize (u : Int) * (n : Int) = b at *
  generalize (m : Int) * g = c at *
  omega
/-- small multiples all along: none -/
theorem bound_zero {a c : Int} (h : ∀ k : Nat, (k : Int) * a < c) : a ≤ 0 := by
  apply Decidable.byContradiction
  intro z
  have h1 := h (c.toNat + 1)
  have h2 : ((c.toNat + 1 : Nat) : Int) * 1 ≤ ((c.toNat + 1 : Nat) : Int) * a := Int.mul_le_mul_of_nonneg_left (by omega) (by omega)
  omega
/-- one pace alone -/
theorem pace_one {F : Int → Int} {n u v : Nat} {d e g k : Int} (hn : 0 < n) (mo : Mon F) (h : Per F (n : Int)) (hu : 0 < u) (r : Rg F n d u g) (s : Rg F n e v k) : (u : Int) * k = v * g := by
  have key : ∀ j : Nat, -((u : Int) * n) < (j : Int) * (u * k - v * g) ∧ (j : Int) * (u * k - v * g) < (u : Int) * n := fun j => by
    have h1 := pace (m := j * v) (x := e) hn mo h hu r
    rw [s.many h j, show e + j * k - e = j * k by omega] at h1
    have e1 : (j : Int) * (u * k - v * g) = u * (j * k) - ((j * v : Nat) : Int) * g := by
      rw [Int.mul_sub, Int.natCast_mul, Int.mul_left_comm, Int.mul_assoc]
    rw [e1]
    exact h1
  have a1 := bound_zero (fun j => (key j).2)
  have a2 := bound_zero (a := -(u * k - v * g)) (c := u * n) (fun j => by
    have := (key j).1
    rw [Int.mul_neg]
    omega)
  omega
/-- the adjoint's pace -/
theorem pace_lat {F L : Int → Int} {n u v : Nat} {d e g k : Int} (hn : 0 < n) (mo : Mon F) (h : Per F (n : Int)) (a : Lat F L) (hu : 0 < u) (hv : 0 < v) (r : Rg F n d u g) (s : Rg L n e v k) : (u : Int) * k = -(v * g) := by
  have hL := a.per h
  have mL := a.mon
  -- both after j * u * v uses
  have key : ∀ j : Nat, (j : Int) * (-(u * k + v * g)) < (v : Int) * n + (v + 1) ∧ (j : Int) * (u * k + v * g) < (v : Int) * n + (v + 1) := fun j => by
    have h1 : it F (j * (u * v)) d = d + j * (v * g) := by
      have := r.many h (j * v)
      rw [Int.natCast_mul, Int.mul_assoc, show j * v * u = j * (u * v) by rw [Nat.mul_assoc, Nat.mul_comm v u]] at this
      exact this
    have h3 := ((a.it (j * (u * v))) d (d + j * (v * g))).mp (by rw [h1]; exact Int.le_refl _)
    have h4 : ¬ d ≤ it L (j * (u * v)) (d + j * (v * g) - 1) := fun z => by
      have := ((a.it (j * (u * v))) d (d + j * (v * g) - 1)).mpr z
      rw [h1] at this
      omega
    have p1 := pace (m := j * (u * v)) (x := d + j * (v * g)) hn mL hL hv s
    have p2 := pace (m := j * (u * v)) (x := d + j * (v * g) - 1) hn mL hL hv s
    have e1 : ((j * (u * v) : Nat) : Int) * k = v * (j * (u * k)) := by
      rw [Int.natCast_mul, Int.natCast_mul]
      rw [Int.mul_assoc, Int.mul_comm (u : Int) (v : Int), Int.mul_assoc, Int.mul_left_comm]
    rw [e1, ← Int.mul_sub] at p1 p2
    have e2 : (v : Int) * n + (v + 1) = v * (n + 1) + 1 := by rw [Int.mul_add]; omega
    have hv2 : (0 : Int) < v := by omega
    have q1 : it L (j * (u * v)) (d + j * (v * g)) - (d + j * (v * g)) - j * (u * k) < n := Int.lt_of_mul_lt_mul_left p1.2 (by omega)
    have q2 : -(n : Int) < it L (j * (u * v)) (d + j * (v * g) - 1) - (d + j * (v * g) - 1) - j * (u * k) := Int.lt_of_mul_lt_mul_left (a := (v : Int)) (by rw [Int.mul_neg]; exact p2.1) (by omega)
    have e3 : (j : Int) * (u * k + v * g) = j * (u * k) + j * (v * g) := Int.mul_add ..
    have e4 : (j : Int) * (-(u * k + v * g)) = -(j * (u * k) + j * (v * g)) := by rw [Int.mul_neg, e3]
    have e5 : (n : Int) ≤ v * n := by
      have := Int.mul_le_mul_of_nonneg_right (show (1 : Int) ≤ v by omega) (show (0 : Int) ≤ n by omega)
      omega
    rw [e3, e4]
    omega
  have a1 := bound_zero (fun j => (key j).1)
  have a2 := bound_zero (fun j => (key j).2)
  omega
end Dy
set_option Elab.async false
set_option linter.all false
namespace Dy
/-- a list of days that makes a rule -/
structure Gd (ds : List Int) : Prop where
  pos : 0 < ds.length
  asc : ∀ i, i + 1 < ds.length → ds.getD i 0 ≤ ds.getD (i + 1) 0
  fin : ds.getD (ds.length - 1) 0 ≤ ds.getD 0 0 + ds.length
theorem faultF_none {ds : List Int} : ∀ (m i : Nat), faultF ds m i = none ↔ ∀ k, i ≤ k → k < i + m → ¬ ds.getD k 0 < ds.getD (k - 1) 0
  | 0, i => ⟨fun _ k h1 h2 => by omega, fun _ => rfl⟩
  | m + 1, i => by
    have e : faultF ds (m + 1) i = if ds.getD i 0 < ds.getD (i - 1) 0 then some i else faultF ds m (i + 1) := rfl
    rw [e]
    by_cases c : ds.getD i 0 < ds.getD (i - 1) 0
    · rw [if_pos c]
      exact ⟨(fun z => by cases z), fun z => absurd c (z i (Nat.le_refl _) (by omega))⟩
    · rw [if_neg c, faultF_none m (i + 1)]
      constructor
      · intro z k h1 h2
        by_cases d : k = i
        · rw [d]
          exact c
        · exact z k (by omega) (by omega)
      · intro z k h1 h2
        exact z k (by omega) (by omega)
theorem Gd.fault {ds : List Int} (g : Gd ds) : Dy.fault ds = none := by
  have h : faultF ds (ds.length - 1) 1 = none := (faultF_none _ _).mpr fun k h1 h2 => by
    have := g.asc (k - 1) (by omega)
    rw [show k - 1 + 1 = k by omega] at this
    omega
  unfold Dy.fault
  rw [h]
  dsimp only
  rw [if_neg]
  have h1 := g.pos
  have h2 := g.fin
  omega
theorem fault_gd {ds : List Int} (h : fault ds = none) : Gd ds := by
  unfold fault at h
  cases e : faultF ds (ds.length - 1) 1 with
  | some i =>
    rw [e] at h
    cases h
  | none =>
    rw [e] at h
    dsimp only at h
    have e := (faultF_none _ _).mp e
    by_cases c : ds.length = 0 ∨ ds.getD 0 0 + ds.length < ds.getD (ds.length - 1) 0
    · rw [if_pos c] at h
      cases h
    · refine ⟨by omega, fun i hi => ?_, by omega⟩
      have := e (i + 1) (by omega) (by omega)
      rw [show i + 1 - 1 = i by omega] at this
      omega
theorem Gd.of {F : Int → Int} {es : List Int} (o : Of F es) (m : Mon F) : Gd es := by
  have hp := o.pos
  refine ⟨hp, fun i hi => ?_, ?_⟩
  · rw [o.at_ i (by omega), o.at_ (i + 1) hi]
    exact m i
  · rw [o.at_ 0 hp, o.at_ _ (show es.length - 1 < es.length by omega)]
    have h1 := m.le (show ((es.length - 1 : Nat) : Int) ≤ 0 + es.length by omega)
    have h2 := o.per 0
    rw [h2] at h1
    exact h1
theorem Mon.dv {ds : List Int} (g : Gd ds) : Mon (Dy.dv ds) := fun d => by
  have := g.asc
  have hp := g.pos
  have hn : 0 < (ds.length : Int) := by omega
  have h1 := Int.emod_nonneg d (show (ds.length : Int) ≠ 0 by omega)
  have h2 := Int.emod_lt_of_pos d hn
  have h3 := Int.emod_add_mul_ediv d (ds.length : Int)
  by_cases c : d % (ds.length : Int) + 1 < ds.length
  · have e1 : (d + 1) % (ds.length : Int) = d % (ds.length : Int) + 1 := by
      rw [Int.add_emod, Int.emod_eq_of_lt (a := 1) (by omega) (by omega), Int.emod_eq_of_lt (by omega) c]
    have e2 : (d + 1) / (ds.length : Int) = d / (ds.length : Int) := by
      have h4 := Int.emod_add_mul_ediv (d + 1) (ds.length : Int)
      rw [e1] at h4
      have h5 : (ds.length : Int) * ((d + 1) / (ds.length : Int)) = (ds.length : Int) * (d / (ds.length : Int)) := by omega
      exact Int.eq_of_mul_eq_mul_left (by omega) h5
    unfold Dy.dv
    rw [e1, e2]
    have := g.asc (d % (ds.length : Int)).toNat (by omega)
    rw [show (d % (ds.length : Int) + 1).toNat = (d % (ds.length : Int)).toNat + 1 by omega]
    omega
  · have e0 : d % (ds.length : Int) = ds.length - 1 := by omega
    have hper := (of_dv hp).per
    have e1 : d + 1 = 0 + (d / (ds.length : Int) + 1) * (ds.length : Int) := by
      rw [Int.add_mul, Int.one_mul, Int.mul_comm (d / _)]
      omega
    have e2 := hper.imul (d / (ds.length : Int) + 1) 0
    rw [← e1] at e2
    have e3 : Dy.dv ds 0 = ds.getD 0 0 := ((of_dv hp).at_ 0 hp).symm
    rw [e2, e3]
    unfold Dy.dv
    rw [e0, show ((ds.length : Int) - 1).toNat = ds.length - 1 by omega]
    have := g.fin
    rw [Int.add_mul, Int.one_mul, Int.mul_comm (ds.length : Int)]
    omega
theorem Gd.near {ds : List Int} (g : Gd ds) : ∀ i, i < ds.length → ds.getD 0 0 ≤ ds.getD i 0 ∧ ds.getD i 0 ≤ ds.getD 0 0 + ds.length := by
  have up : ∀ i j, i + j < ds.length → ds.getD i 0 ≤ ds.getD (i + j) 0 := by
    intro i j
    induction j with
    | zero => intro _; exact Int.le_refl _
    | succ j ih =>
      intro h
      have h1 := ih (by omega)
      have h2 := g.asc (i + j) (by omega)
      rw [show i + (j + 1) = i + j + 1 by omega]
      omega
  intro i hi
  have h1 := up 0 i (by omega)
  have h2 := up i (ds.length - 1 - i) (by omega)
  rw [show i + (ds.length - 1 - i) = ds.length - 1 by omega] at h2
  rw [Nat.zero_add] at h1
  have := g.fin
  omega
theorem it_near {F : Int → Int} {B : Nat} (h : ∀ d, (F d - d).natAbs ≤ B) : ∀ (k : Nat) (d : Int), (it F k d - d).natAbs ≤ k * B
  | 0, d => by
    show (d - d).natAbs ≤ _
    rw [Int.sub_self]
    exact Nat.zero_le _
  | k + 1, d => by
    have h1 := it_near h k d
    have h2 := h (it F k d)
    have e : (k + 1) * B = k * B + B := by rw [Nat.add_mul, Nat.one_mul]
    rw [e]
    show (F (it F k d) - d).natAbs ≤ _
    generalize k * B = z at *
    omega
theorem dv_near {ds : List Int} {B : Nat} (hp : 0 < ds.length) (h : ∀ i, i < ds.length → (ds.getD i 0).natAbs ≤ B) (d : Int) : (dv ds d - d).natAbs ≤ B + ds.length := by
  have hn : 0 < (ds.length : Int) := by omega
  have h1 := Int.emod_nonneg d (show (ds.length : Int) ≠ 0 by omega)
  have h2 := Int.emod_lt_of_pos d hn
  have h3 := Int.emod_add_mul_ediv d (ds.length : Int)
  have h4 := h (d % (ds.length : Int)).toNat (by omega)
  unfold Dy.dv
  generalize (ds.length : Int) * (d / (ds.length : Int)) = y at *
  generalize ds.getD (d % (ds.length : Int)).toNat 0 = x at *
  omega
/-- from a repetition of rests the end is found at once -/
theorem it_jump {F : Int → Int} {n u k c : Nat} {d : Int} (h : Per F (n : Int)) (huk : u < k) (hkc : k ≤ c) (hr : it F u d % (n : Int) = it F k d % (n : Int)) : it F c d = it F ((c - k) % (k - u)) (it F k d + (it F k d - it F u d) * (((c - k) / (k - u) : Nat) : Int)) := by
  have r : Rg F n (it F u d) (k - u) (it F k d - it F u d) := by
    refine ⟨?_, ?_⟩
    · rw [← it_add, show u + (k - u) = k by omega]
      omega
    · rw [Int.sub_emod, hr, Int.sub_self]
      rfl
  have e1 := r.many h ((c - k) / (k - u) + 1)
  have e2 : c = u + ((c - k) / (k - u) + 1) * (k - u) + (c - k) % (k - u) := by
    have := Nat.div_add_mod (c - k) (k - u)
    have e3 : ((c - k) / (k - u) + 1) * (k - u) = (k - u) * ((c - k) / (k - u)) + (k - u) := by rw [Nat.add_mul, Nat.one_mul, Nat.mul_comm]
    omega
  have e4 : it F c d = it F ((c - k) % (k - u)) (it F (((c - k) / (k - u) + 1) * (k - u)) (it F u d)) := by
    rw [← it_add, ← it_add]
    congr 1
    omega
  rw [e4, e1]
  congr 1
  rw [Int.natCast_add, Int.add_mul, Int.mul_comm (((c - k) / (k - u) : Nat) : Int)]
  generalize (it F k d - it F u d) * (((c - k) / (k - u) : Nat) : Int) = z
  omega
theorem natAbs_two {x : Int} {B : Nat} (h : x.natAbs ≤ B) : -(B : Int) ≤ x ∧ x ≤ B := by omega
end Dy
set_option Elab.async false
set_option linter.all false
set_option maxRecDepth 100000
set_option maxHeartbeats 4000000
namespace Z
open PySem PySem.Spec PyProof.Rows L2
/-! ### comprehensions that give ints, over a list of ints and over a range -/
theorem lc_ofs {K : PySem.W.Frag} {J : It} {D : Addr} {n : Nat} {H0 : Hp} {i : Nat} {te : TE} {vs : List Nat} {σ : L2.St} {Qd : Hp → Prop} (g : Nat → Int) (xv : Nat → V) (hn : n ≤ 1000000) (nD : H0 D = none)
    (hgo : ∀ k H1, k < n → Same H0 H1 → J.go k H1) (hst : ∀ H1, Same H0 H1 → J.stop n H1) (hy : ∀ k H1 x H2, k < n → Same H0 H1 → J.yld k H1 x H2 → H2 = H1 ∧ x = xv k)
    (hw : ∀ k, wipe ((wipe σ vs).set i (some (xv k))) vs = wipe σ vs)
    (ht : ∀ k H1 (Q : VK), k < n → Same H0 H1 → (∀ H2, Same H1 H2 → Q (.int (g k)) H2) → te ((wipe σ vs).set i (some (xv k))) H1 Q)
    (hd : ∀ H1, Same H0 H1 → H1 D = some (.lst (((List.range n).map g).map V.int)) → Qd H1) : lcW J (gName i) tYes te vs σ D Qd H0 := by
  refine lc_gen (n := n) (fun k H1 => Same H0 H1 ∧ H1 D = some (.lst (((List.range k).map g).map V.int))) ⟨same_new nD, upd_same⟩ (fun k H1 hk p => hgo k H1 hk p.1) (fun H1 p => hst H1 p.1) ?_ (fun H1 p => hd H1 p.1 p.2)
  rintro k H1 x H2 hk ⟨s, e⟩ y
  obtain ⟨rfl, rfl⟩ := hy k H1 x H2 hk s y
  refine ⟨hw k, ?_⟩
  refine ht k _ _ hk s (fun H3 s3 => ⟨_, s3 _ _ e, ?_, Z.Same.mut (s.trans s3) nD, ?_⟩)
  · rw [List.length_map, List.length_map, List.length_range]
    exact Nat.lt_of_lt_of_le hk (Nat.le_trans hn (by decide))
  · rw [upd_same, List.range_succ, List.map_append, List.map_append]
    rfl
theorem lc_rng {K : PySem.W.Frag} {lo : Int} {D : Addr} {n : Nat} {H0 : Hp} {i : Nat} {te : TE} {vs : List Nat} {σ : L2.St} {Qd : Hp → Prop} (g : Nat → Int) (hn : n ≤ 1000000) (nD : H0 D = none) (hw : ∀ k : Nat, wipe ((wipe σ vs).set i (some (.int (lo + k)))) vs = wipe σ vs)
    (ht : ∀ (k : Nat) H1 (Q : VK), k < n → Same H0 H1 → (∀ H2, Same H1 H2 → Q (.int (g k)) H2) → te ((wipe σ vs).set i (some (.int (lo + k)))) H1 Q)
    (hd : ∀ H1, Same H0 H1 → H1 D = some (.lst (((List.range n).map g).map V.int)) → Qd H1) : lcW (Itr lo n) (gName i) tYes te vs σ D Qd H0 :=
  lc_ofs (K := K) g (fun k => .int (lo + k)) hn nD (fun k H1 hk _ => hk) (fun H1 _ => Nat.le_refl _) (fun k H1 x H2 _ _ y => y) hw ht hd
theorem lc_lst {K : PySem.W.Frag} {a D : Addr} {xs : List Int} {H0 : Hp} {i : Nat} {te : TE} {vs : List Nat} {σ : L2.St} {Qd : Hp → Prop} (hS : SqL K H0 a (xs.map V.int)) (g : Int → Int) (hn : xs.length ≤ 1000000) (nD : H0 D = none) (hw : ∀ x : Int, wipe ((wipe σ vs).set i (some (.int x))) vs = wipe σ vs)
    (ht : ∀ x H1 (Q : VK), x ∈ xs → Same H0 H1 → (∀ H2, Same H1 H2 → Q (.int (g x)) H2) → te ((wipe σ vs).set i (some (.int x))) H1 Q)
    (hd : ∀ H1, Same H0 H1 → H1 D = some (.lst ((xs.map g).map V.int)) → Qd H1) : lcW (Itl K a) (gName i) tYes te vs σ D Qd H0 := by
  have ex : ∀ k, k < xs.length → (xs.map V.int)[k]? = some (.int (xs.getD k 0)) := fun k hk => by
    rw [List.getElem?_map, List.getD_eq_getElem?_getD, List.getElem?_eq_getElem hk]
    rfl
  refine lc_ofs (K := K) (n := xs.length) (fun k => g (xs.getD k 0)) (fun k => .int (xs.getD k 0)) hn nD (fun k H1 hk s => ⟨_, _, s.seq hS, ex k hk⟩) (fun H1 s => ⟨_, s.seq hS, by rw [List.length_map]; exact Nat.le_refl _⟩) (fun k H1 x H2 hk s y => ⟨y.1, Option.some.inj ((y.2 _ (s.seq hS)).symm.trans (ex k hk))⟩) (fun k => hw _) (fun k H1 Q hk s q => ht _ H1 Q ?_ s q) (fun H1 s e => hd H1 s ?_)
  · rw [List.getD_eq_getElem?_getD, List.getElem?_eq_getElem hk]
    exact List.getElem_mem hk
  · rw [e]
    congr 2
    congr 1
    apply List.ext_getElem
    · rw [List.length_map, List.length_map, List.length_range]
    · intro k h1 h2
      rw [List.length_map] at h2
      rw [List.getElem_map, List.getElem_map, List.getElem_range, List.getD_eq_getElem?_getD, List.getElem?_eq_getElem h2]
      rfl
/-- for x in xs, ints -/
theorem for_lst {K : PySem.W.Frag} {a : Addr} {xs : List Int} {H0 H : Hp} {i : Nat} {tb : TS} {D : Ends} {σ : L2.St} (hS : SqL K H0 a (xs.map V.int)) (Pv : Nat → L2.St → Hp → Prop) (h0 : Pv 0 σ H) (hq : ∀ k σ H1, Pv k σ H1 → Same H0 H1)
    (hs : ∀ (k : Nat) (x : Int) (σ : L2.St) (H1 : Hp), xs[k]? = some x → Pv k σ H1 → tb { D with nx := Pv (k + 1), ct := Pv (k + 1), bk := D.nx } (σ.set i (some (.int x))) H1)
    (hd : ∀ σ H1, Pv xs.length σ H1 → D.nx σ H1) : forW (Itl K a) (gName i) tb D σ H := by
  have ex : ∀ k, k < xs.length → (xs.map V.int)[k]? = some (.int (xs.getD k 0)) := fun k hk => by
    rw [List.getElem?_map, List.getD_eq_getElem?_getD, List.getElem?_eq_getElem hk]
    rfl
  refine for_gen (n := xs.length) Pv h0 (fun k σ H1 hk p => ⟨_, _, (hq k σ H1 p).seq hS, ex k hk⟩) (fun σ H1 p => ⟨_, (hq _ σ H1 p).seq hS, by rw [List.length_map]; exact Nat.le_refl _⟩) ?_ hd
  intro k σ H1 x H2 hk p y
  obtain ⟨rfl, e⟩ := y
  have e2 := Option.some.inj ((e _ ((hq k σ _ p).seq hS)).symm.trans (ex k hk))
  subst e2
  refine hs k _ σ _ ?_ p
  rw [List.getD_eq_getElem?_getD, List.getElem?_eq_getElem hk]
  rfl
/-- for x in xs, any values -/
theorem for_vs {K : PySem.W.Frag} {a : Addr} {xs : List V} {H0 H : Hp} {i : Nat} {tb : TS} {D : Ends} {σ : L2.St} (hS : SqL K H0 a xs) (Pv : Nat → L2.St → Hp → Prop) (h0 : Pv 0 σ H) (hq : ∀ k σ H1, Pv k σ H1 → Same H0 H1)
    (hs : ∀ (k : Nat) (x : V) (σ : L2.St) (H1 : Hp), xs[k]? = some x → Pv k σ H1 → tb { D with nx := Pv (k + 1), ct := Pv (k + 1), bk := D.nx } (σ.set i (some x)) H1)
    (hd : ∀ σ H1, Pv xs.length σ H1 → D.nx σ H1) : forW (Itl K a) (gName i) tb D σ H := by
  refine for_gen (n := xs.length) Pv h0 (fun k σ H1 hk p => ⟨_, _, (hq k σ H1 p).seq hS, List.getElem?_eq_getElem hk⟩) (fun σ H1 p => ⟨_, (hq _ σ H1 p).seq hS, Nat.le_refl _⟩) ?_ hd
  intro k σ H1 x H2 hk p y
  obtain ⟨rfl, e⟩ := y
  exact hs k x σ _ (e _ ((hq k σ _ p).seq hS)) p
theorem pe_fld_K {X : Cx} {K : PySem.W.Frag} {e : Expr} {f : Str} {pos : Pos} {ta : TE} (h : X.K = K) (he : PE X e ta) (hb : attributeBase e f X.env (eval e X.env) = eval e X.env) : PE X (.Attribute e f pos) (tFld K ta f) := by
  subst h
  exact pe_fld he hb
/-! ### reads -/
theorem at_nat {xs : List Int} {i : Int} (h0 : 0 ≤ i) (h1 : i < xs.length) : atI (xs.map V.int) i = some (.int (xs.getD i.toNat 0)) := by
  have hk : i.toNat < xs.length := by omega
  rw [show i = ((i.toNat : Nat) : Int) by omega, List.getD_eq_getElem?_getD, Int.toNat_natCast, List.getElem?_eq_getElem hk]
  exact at_map (List.getElem?_eq_getElem hk)
theorem rd_at {K : PySem.W.Frag} {H : Hp} {a : Addr} {xs : List Int} {i : Int} {R : V → Prop} (h : SqL K H a (xs.map V.int)) (h0 : 0 ≤ i) (h1 : i < xs.length) (q : R (.int (xs.getD i.toNat 0))) : ∃ a' ys j v, V.ref a = .ref a' ∧ V.int i = .int j ∧ SqL K H a' ys ∧ atI ys j = some v ∧ R v := ⟨a, _, i, _, rfl, rfl, h, at_nat h0 h1, q⟩
theorem rd_atT {K : PySem.W.Frag} {H : Hp} {a : Addr} {xs : List Int} {i : Int} {R : V → Prop} (h : SqT K H a (xs.map V.int)) (h0 : 0 ≤ i) (h1 : i < xs.length) (q : R (.int (xs.getD i.toNat 0))) : ∃ a' ys j v, V.ref a = .ref a' ∧ V.int i = .int j ∧ SqT K H a' ys ∧ atI ys j = some v ∧ R v := ⟨a, _, i, _, rfl, rfl, h, at_nat h0 h1, q⟩
end Z
set_option Elab.async false
set_option linter.all false
set_option maxRecDepth 100000
set_option maxHeartbeats 4000000
namespace Z
open PySem PySem.Spec PyProof.Rows L2
/-! ### enumerate(x) of one argument: x a list, a tuple or a text -/
theorem enum_new1 {v : Value} {o : Obj} {G : Heap → Prop} (B : Begins v o G) :
    Meets (Builtin.«enumerate.__new__» ⟨[.type "enumerate", v], []⟩) (fun _ R s => G s.heap ∧
      R (.ok (.ret (.ref (s.heap.push o).objs.size))) { s with heap := (s.heap.push o).push { cls := .type "enumerate", data := .fields #[.none, .bool false, .ref s.heap.objs.size, rawInt 0, .none, .none] } }) :=
  .of_wp fun prog w A R s h => by
    obtain ⟨hp, gl, dd, tok, oo⟩ := s
    obtain ⟨g1, h⟩ := h
    have hsub := sub_enumerate
    have step : ∀ {A' : Around} {E : Value → Shared → Prop} {Q : Value → Shared → Prop}, Q (.ref hp.objs.size) ⟨hp.push o, gl, dd, tok, oo⟩ → wpAny (model prog w) A' (pyIter v) Q E ⟨hp, gl, dd, tok, oo⟩ := fun z => B.iter prog w _ _ ⟨hp, gl, dd, tok, oo⟩ _ g1 z
    wp_walk using step
    refine wpAny_stack_any fun _ => wpAny_pure ?_
    split
    · rename_i cc _ _ _ _ _
      cases (cc == Value.type "enumerate") <;>
        (wp_walk using step
         exact ⟨_, rfl, h⟩)
    · wp_walk using step
      exact ⟨_, rfl, h⟩
section
variable {prog : Program} {w : World} {A : Around} {E : Value → Shared → Prop} {s : Shared}
theorem enum_begins1 {v : Value} {o : Obj} {G : Heap → Prop} {Q : Value → Shared → Prop} (B : Begins v o G) (g : G s.heap)
    (h : ∀ h', IsEnum h' (s.heap.objs.size + 1) s.heap.objs.size 0 .none → h'.get? s.heap.objs.size = some o → (∀ b ob, s.heap.get? b = some ob → h'.get? b = some ob) → Q (.ref (s.heap.objs.size + 1)) { s with heap := h' }) :
    wpAny (model prog w) A (call (.type "enumerate") [v]) Q E s := by
  refine callType_new F.called_enumerate (by decide) (F.typeCall_enumerate_1 v) (F.newCall_enumerate_1 v) (fun ob => F.args_object_init_2 ob _) F.entry_enumerate_new (enum_new1 B) ⟨g, ?_⟩
  have sz : (s.heap.push o).objs.size = s.heap.objs.size + 1 := Heap.size_push ..
  show _ ∧ _
  rw [sz]
  have ie : IsEnum ((s.heap.push o).push { cls := .type "enumerate", data := .fields #[.none, .bool false, .ref s.heap.objs.size, rawInt 0, .none, .none] }) (s.heap.objs.size + 1) s.heap.objs.size 0 .none := by
    have z := Heap.get?_push_size (s.heap.push o) (o := { cls := .type "enumerate", data := .fields #[.none, .bool false, .ref s.heap.objs.size, rawInt 0, .none, .none] }) rfl
    rw [sz] at z
    exact z
  exact ⟨⟨_, ie, rfl⟩, h _ ie (Heap.get?_push_of_some _ (Heap.get?_push_size _ B.free)) fun b ob z => Heap.get?_push_of_some _ (Heap.get?_push_of_some _ z)⟩
end
/-- pairs of a turn's number and its item -/
def ItEM (p : Bool) (K : PySem.W.Frag) (a : Addr) : It :=
  ⟨fun i H => ∃ (xs : List V) (x : V), SqK p K H a xs ∧ xs[i]? = some x,
   fun i H v H' => ∃ T x, v = .ref T ∧ H T = none ∧ H' = upd H T (.tup [.int (i : Nat), x]) ∧ (∀ xs, SqK p K H a xs → xs[i]? = some x),
   fun i H => ∃ xs : List V, SqK p K H a xs ∧ xs.length = i⟩
def ItES (z : Str) : It :=
  ⟨fun i _ => i < z.cps.size,
   fun i H v H' => ∃ T c, v = .ref T ∧ H T = none ∧ H' = upd H T (.tup [.int (i : Nat), .str ⟨#[c]⟩]) ∧ z.cps[i]? = some c,
   fun i _ => z.cps.size = i⟩
theorem enum_item {X : Cx} {pins : List (Addr × Obj)} {σ : L2.St} {H : Hp} {s : Shared} {e it : Addr} {fp : List Addr} {n i : Nat} {Pi : Nat → Value → Prop} {Si : Nat → Heap → Prop} {old : Value} {elts : List Expr} {kk : Nat} {tpos : Pos} {E : Value → Shared → Prop}
    (I : Inv X pins σ H s) (hf : ∀ b ∈ [e, it], FpOk X pins H b) (D : Draws X.prog X.w X.A.in1 it fp n Pi Si) (he : IsEnum s.heap e it ((i : Nat) : Int) old) (st : Si i s.heap) (lt : i < n) (ne : e ≠ it) (ef : e ∉ fp)
    (x : V) (ru : ∀ v, Pi i v → L2.RelV x v) :
    wpAny (model X.prog X.w) X.A (pyNext (.ref e)) (fun r s1 => ∃ u, r = some u ∧ wpAny (model X.prog X.w) X.A (letOwnedTupleGo (.Tuple elts kk tpos) (.ref e) u) (fun _ s2 => ∃ T, u = .ref T ∧ H T = none ∧ Inv X pins σ (upd H T (.tup [.int (i : Nat), x])) s2 ∧ (∃ o, IsEnum s2.heap e it ((i + 1 : Nat) : Int) o) ∧ Si (i + 1) s2.heap ∧ ∀ b ∈ [e, it], upd H T (.tup [.int (i : Nat), x]) b = none) E s1) E s := by
  have el : e < s.heap.objs.size := Heap.lt_size he
  have il : it < s.heap.objs.size := by
    obtain ⟨_, z⟩ := D.live _ _ st
    exact Heap.lt_size z
  refine wpAny_pyNext_enum_itemC D he st lt ne ef fun v g tk pv go st' gT gs gk => ?_
  refine ⟨_, rfl, wpAny_letOwnedTupleGo_enum (s := { s with heap := g, toks := tk + 1 }) go fun g2 ge sb => ?_⟩
  have gT2 : g2.get? s.heap.objs.size = some { cls := .type "tuple", data := .seq #[.int i tk, v] } := (sb.2 _ (Nat.ne_of_gt el)).trans gT
  have nw : ObjOk X.prog X.w (upd H s.heap.objs.size (.tup [.int (i : Nat), x])) g2 s.heap.objs.size (.tup [.int (i : Nat), x]) := ⟨by show 2 ≤ sizeLine; decide, [.int i tk, v], .cons ⟨tk, rfl⟩ (.cons (ru v pv) .nil), ⟨_, gT2, rfl, _, rfl⟩⟩
  have I1 : Inv X pins σ (upd H s.heap.objs.size (.tup [.int (i : Nat), x])) { s with heap := g2, toks := tk + 1 } :=
    I.turnedNew (t' := tk + 1) (ch := [e, it]) (fun b ob nb z => (sb.2 b (fun w => nb (by simp [w]))).trans (gk b ob (fun w => nb (by simp [w])) (fun w => nb (by simp [w])) z)) hf (Nat.le_refl _) nw
  refine ⟨_, rfl, I.hok.fresh (Nat.le_refl _), I1, ⟨v, ?_⟩, D.frame _ _ _ st' fun b hb o z => (sb.2 b fun w => ef (w ▸ hb)).trans z, fun b hb => ?_⟩
  · rw [show ((i + 1 : Nat) : Int) = (i : Int) + 1 by omega]
    exact ge
  · have lb : b < s.heap.objs.size := by
      rcases (show b = e ∨ b = it by simpa using hb) with z | z
      · rw [z]
        exact el
      · rw [z]
        exact il
    rw [upd_ne (Nat.ne_of_lt lb)]
    exact (hf b hb).1
theorem enum_done {X : Cx} {pins : List (Addr × Obj)} {σ : L2.St} {H : Hp} {s : Shared} {e it : Addr} {fp : List Addr} {n : Nat} {Pi : Nat → Value → Prop} {Si : Nat → Heap → Prop} {old : Value} {c : Int} {E : Value → Shared → Prop}
    (I : Inv X pins σ H s) (hf : ∀ b ∈ [e, it], FpOk X pins H b) (D : Draws X.prog X.w X.A.in1 it fp n Pi Si) (he : IsEnum s.heap e it c old) (st : Si n s.heap) :
    wpAny (model X.prog X.w) X.A (pyNext (.ref e)) (fun r s1 => r = none ∧ Inv X pins σ H s1) E s := by
  obtain ⟨f0, f1, f2, f3, f4, f5⟩ := hf it (by simp)
  exact wpAny_pyNext_enum_endD D he st fun g gk => ⟨rfl, I.turned (t' := s.toks) (fun b o hb z => gk b o hb z) f0 f1 f3 f4 f5⟩
theorem turn_enumM {p : Bool} {P : Program} {w : World} {K : PySem.W.Frag} {elts : List Expr} {kk : Nat} {tpos : Pos} (a e it : Addr) (ea : e ≠ a) (ia : a ≠ it) :
    Turn P w K (.Tuple elts kk tpos) (ItEM p K a) [e, it] e (fun i h => (∃ old, IsEnum h e it ((i : Nat) : Int) old) ∧ ItK p h it a i ∧ e ≠ it) where
  mem := by simp
  obj := fun i h st b hb => by
    obtain ⟨⟨old, he⟩, hi, _⟩ := st
    rcases (show b = e ∨ b = it by simpa using hb) with z | z
    · rw [z]
      exact ⟨_, he, fun v q => nomatch q⟩
    · rw [z]
      exact hi.obj
  keep := fun i h h' st k => by
    obtain ⟨⟨old, he⟩, hi, ne⟩ := st
    exact ⟨⟨old, k e (by simp) _ he⟩, hi.at' (fun o z => k it (by simp) o z), ne⟩
  item := by
    intro X hP hw hK hc i pins s σ H E I hf st hg
    subst hP hw hK
    obtain ⟨⟨old, he⟩, hi, ne⟩ := st
    obtain ⟨xs, x, qx, ex⟩ := hg
    obtain ⟨us, rx, kx, _⟩ := sqk_is I qx
    obtain ⟨u, eu, ru⟩ := rx.get ex
    have lu : i < us.toArray.size := by simpa using (List.getElem?_eq_some_iff.mp eu).1
    have hh : X.A.in1.handled = none := I.ok.hd hc
    have key : ∀ v, us.toArray[i]? = some v → L2.RelV x v := fun v pv => by
      have t1 : us.toArray[i]? = some u := by simpa using eu
      have t2 : u = v := Option.some.inj (t1.symm.trans pv)
      exact t2 ▸ ru
    refine thn (enum_item (elts := elts) (kk := kk) (tpos := tpos) (E := E) I hf (drawsK p hh it a ia us.toArray) he ⟨hi, kx⟩ lu ne (by simp [ne, ea]) x key) fun r s1 hr => ?_
    obtain ⟨v, er, hv⟩ := hr
    refine ⟨v, er, thn hv fun _ s2 z => ?_⟩
    obtain ⟨T, eT, nT, I2, ie, si, fr⟩ := z
    subst eT
    exact ⟨.ref T, _, I2, rfl, ⟨T, x, rfl, nT, rfl, fun l hl => by rw [sqk_inj I hl qx]; exact ex⟩, ⟨ie, si.1, ne⟩, fr⟩
  done := by
    intro X hP hw hK hc i pins s σ H E I hf st hg
    subst hP hw hK
    obtain ⟨⟨old, he⟩, hi, ne⟩ := st
    obtain ⟨xs, qx, el⟩ := hg
    obtain ⟨us, rx, kx, _⟩ := sqk_is I qx
    have lx := rx.length
    have hh : X.A.in1.handled = none := I.ok.hd hc
    have hn : us.toArray.size = i := by
      rw [List.size_toArray]
      omega
    exact enum_done I hf (drawsK p hh it a ia us.toArray) he (by rw [hn]; exact ⟨hi, kx⟩)
  self := fun A i s Q E st h => by
    obtain ⟨⟨_, he⟩, _⟩ := st
    exact wpAny_pyIter_enum he h
def iEnumM (K : PySem.W.Frag) (ta : TA) : TI := fun σ H R => ta σ H fun vs H1 => ∃ p a xs, vs = [.ref a] ∧ SqK p K H1 a xs ∧ R (ItEM p K a) H1
theorem pi_enumM {X : Cx} {e : Expr} {ta : TA} {p pos tpos : Pos} {elts : List Expr} {kk : Nat} (hg : Gl X "enumerate") (hm : X.mg "enumerate" = none) (ha : PA X [e] ta) (hs : starEach [e] X.env = [(false, eval e X.env)] := by rfl) :
    PI X (.Tuple elts kk tpos) (.Call (.Name "enumerate" p) [e] [] pos) (iEnumM X.K ta) := by
  constructor
  intro pins s σ H R I h
  refine Call_ (ld_blt I hg hm PyProof.Rows.boot_enumerate (PyProof.Rows.callWith_type1 (thn (ha.run pos pins s σ H _ I h) fun us s1 ⟨vs, H1, I1, r1, q1⟩ => ?_) hs rfl))
  obtain ⟨k1, a, xs, ex, qx, q⟩ := q1
  subst ex
  cases r1 with
  | cons r rr =>
    cases rr
    cases r
    obtain ⟨i1, _, p1, lt1⟩ := sqk_is I1 qx
    obtain ⟨o1, G1, B1, g1, w1⟩ := begK p1
    refine enum_begins1 B1 g1 fun h' he e1 hk => wpAny_pyIter_enum he ?_
    have I2 : Inv X pins σ H1 { s1 with heap := h' } := I1.kept (t' := s1.toks) hk
    refine ⟨s1.heap.objs.size + 1, [s1.heap.objs.size + 1, s1.heap.objs.size], _, _, H1, rfl, I2, turn_enumM a (s1.heap.objs.size + 1) s1.heap.objs.size (Nat.ne_of_gt (Nat.lt_succ_of_lt lt1)) (Nat.ne_of_lt lt1), ⟨⟨.none, he⟩, w1 _ _ e1, Nat.succ_ne_self _⟩, fun b hb => ?_, q⟩
    have lb : s1.heap.objs.size ≤ b := by
      rcases (show b = s1.heap.objs.size + 1 ∨ b = s1.heap.objs.size by simpa using hb) with z | z
      · rw [z]
        exact Nat.le_add_right _ _
      · rw [z]
        exact Nat.le_refl _
    exact I1.fpOk lb (I1.hok.fresh lb)
/-! over a text -/
theorem drawsS {prog : Program} {w : World} {A : Around} (hh : A.handled = none) (it : Addr) (z : Str) (t : Tok) :
    Draws prog w A it [it] z.cps.size (fun i v => ∃ c u, z.cps[i]? = some c ∧ v = .str ⟨#[c]⟩ u) (fun i h => h.IsStrIter it (strIterType z) z t i) := by
  unfold strIterType
  cases z.cps.all (· < 128)
  · exact Draws.strWide hh it z t
  · exact Draws.strAscii hh it z t
theorem turn_enumS {P : Program} {w : World} {K : PySem.W.Frag} {elts : List Expr} {kk : Nat} {tpos : Pos} (z : Str) (t : Tok) (e it : Addr) :
    Turn P w K (.Tuple elts kk tpos) (ItES z) [e, it] e (fun i h => (∃ old, IsEnum h e it ((i : Nat) : Int) old) ∧ h.IsStrIter it (strIterType z) z t i ∧ e ≠ it) where
  mem := by simp
  obj := fun i h st b hb => by
    obtain ⟨⟨old, he⟩, ⟨o, eo, _, d⟩, _⟩ := st
    rcases (show b = e ∨ b = it by simpa using hb) with y | y
    · rw [y]
      exact ⟨_, he, fun v q => nomatch q⟩
    · rw [y]
      exact ⟨o, eo, fun v q => by rw [d] at q; cases q⟩
  keep := fun i h h' st k => by
    obtain ⟨⟨old, he⟩, ⟨o, eo, r⟩, ne⟩ := st
    exact ⟨⟨old, k e (by simp) _ he⟩, ⟨o, k it (by simp) o eo, r⟩, ne⟩
  item := by
    intro X hP hw hK hc i pins s σ H E I hf st hg
    subst hP hw hK
    obtain ⟨⟨old, he⟩, hi, ne⟩ := st
    have lt : i < z.cps.size := hg
    have hh : X.A.in1.handled = none := I.ok.hd hc
    have ec : z.cps[i]? = some z.cps[i] := Array.getElem?_eq_getElem lt
    refine thn (enum_item (elts := elts) (kk := kk) (tpos := tpos) (E := E) I hf (drawsS hh it z t) he hi lt ne (by simp [ne]) (.str ⟨#[z.cps[i]]⟩) (fun v pv => ?_)) fun r s1 hr => ?_
    · obtain ⟨c, u, e1, e2⟩ := pv
      rw [ec] at e1
      cases e1
      subst e2
      exact ⟨u, rfl⟩
    obtain ⟨v, er, hv⟩ := hr
    refine ⟨v, er, thn hv fun _ s2 y => ?_⟩
    obtain ⟨T, eT, nT, I2, ie, si, fr⟩ := y
    subst eT
    exact ⟨.ref T, _, I2, rfl, ⟨T, _, rfl, nT, rfl, ec⟩, ⟨ie, si, ne⟩, fr⟩
  done := by
    intro X hP hw hK hc i pins s σ H E I hf st hg
    subst hP hw hK
    obtain ⟨⟨old, he⟩, hi, ne⟩ := st
    have el : z.cps.size = i := hg
    have hh : X.A.in1.handled = none := I.ok.hd hc
    exact enum_done I hf (drawsS hh it z t) he (by rw [el]; exact hi)
  self := fun A i s Q E st h => by
    obtain ⟨⟨_, he⟩, _⟩ := st
    exact wpAny_pyIter_enum he h
def iEnumS (ta : TA) : TI := fun σ H R => ta σ H fun vs H1 => ∃ z, vs = [.str z] ∧ R (ItES z) H1
theorem pi_enumS {X : Cx} {e : Expr} {ta : TA} {p pos tpos : Pos} {elts : List Expr} {kk : Nat} (hg : Gl X "enumerate") (hm : X.mg "enumerate" = none) (ha : PA X [e] ta) (hs : starEach [e] X.env = [(false, eval e X.env)] := by rfl) :
    PI X (.Tuple elts kk tpos) (.Call (.Name "enumerate" p) [e] [] pos) (iEnumS ta) := by
  constructor
  intro pins s σ H R I h
  refine Call_ (ld_blt I hg hm PyProof.Rows.boot_enumerate (PyProof.Rows.callWith_type1 (thn (ha.run pos pins s σ H _ I h) fun us s1 ⟨vs, H1, I1, r1, q1⟩ => ?_) hs rfl))
  obtain ⟨z, ex, q⟩ := q1
  subst ex
  cases r1 with
  | cons r rr =>
    cases rr
    obtain ⟨t, rfl⟩ := r
    refine enum_begins1 (begins_text z t) trivial fun h' he e1 hk => wpAny_pyIter_enum he ?_
    have I2 : Inv X pins σ H1 { s1 with heap := h' } := I1.kept (t' := s1.toks) hk
    refine ⟨s1.heap.objs.size + 1, [s1.heap.objs.size + 1, s1.heap.objs.size], _, _, H1, rfl, I2, turn_enumS z t (s1.heap.objs.size + 1) s1.heap.objs.size, ⟨⟨.none, he⟩, ⟨_, e1, rfl, rfl⟩, Nat.succ_ne_self _⟩, fun b hb => ?_, q⟩
    have lb : s1.heap.objs.size ≤ b := by
      rcases (show b = s1.heap.objs.size + 1 ∨ b = s1.heap.objs.size by simpa using hb) with y | y
      · rw [y]
        exact Nat.le_add_right _ _
      · rw [y]
        exact Nat.le_refl _
    exact I1.fpOk lb (I1.hok.fresh lb)
end Z
set_option Elab.async false
set_option linter.all false
set_option maxRecDepth 100000
set_option maxHeartbeats 4000000
namespace Z
open PySem PySem.Spec PyProof.Rows L2
/-! ### walks over a list (true) or a tuple (false) -/
inductive SeqOr (A B : Prop) : Prop
  | l : A → SeqOr A B
  | r : B → SeqOr A B
def iSeq (K : PySem.W.Frag) (tl : TE) : TI := fun σ H R => SeqOr (iList K tl σ H R) (iTup K tl σ H R)
theorem pi_sq {X : Cx} {tg l : Expr} {tl : TE} (he : PE X l tl) : PI X tg l (iSeq X.K tl) := by
  constructor
  intro pins s σ H R I h
  rcases h with h | h
  · exact (pi_list he).run pins s σ H R I h
  · exact (pi_tup he).run pins s σ H R I h
theorem pi_sq_K {X : Cx} {K : PySem.W.Frag} {tg l : Expr} {tl : TE} (h : X.K = K) (he : PE X l tl) : PI X tg l (iSeq K tl) := by
  subst h
  exact pi_sq he
theorem pi_list_K {X : Cx} {K : PySem.W.Frag} {tg l : Expr} {tl : TE} (h : X.K = K) (he : PE X l tl) : PI X tg l (iList K tl) := by
  subst h
  exact pi_list he
theorem pi_tup_K {X : Cx} {K : PySem.W.Frag} {tg l : Expr} {tl : TE} (h : X.K = K) (he : PE X l tl) : PI X tg l (iTup K tl) := by
  subst h
  exact pi_tup he
def ItQ (b : Bool) (K : PySem.W.Frag) (a : Addr) : It := match b with
  | true => Itl K a
  | false => Itt K a
theorem itq_go {b : Bool} {K : PySem.W.Frag} {H : Hp} {a : Addr} {xs : List V} {i : Nat} {x : V} (h : SqK b K H a xs) (e : xs[i]? = some x) : (ItQ b K a).go i H := by
  cases b <;> exact ⟨_, _, h, e⟩
theorem itq_stop {b : Bool} {K : PySem.W.Frag} {H : Hp} {a : Addr} {xs : List V} {i : Nat} (h : SqK b K H a xs) (e : xs.length ≤ i) : (ItQ b K a).stop i H := by
  cases b <;> exact ⟨_, h, e⟩
theorem itq_yld {b : Bool} {K : PySem.W.Frag} {H H' : Hp} {a : Addr} {xs : List V} {i : Nat} {x : V} (h : SqK b K H a xs) (y : (ItQ b K a).yld i H x H') : H' = H ∧ xs[i]? = some x := by
  cases b <;> exact ⟨y.1, y.2 _ h⟩
theorem rd_sq {b : Bool} {K : PySem.W.Frag} {σ : L2.St} {H : Hp} {i : Nat} {a : Addr} {xs : List V} {R : It → Hp → Prop} (e : σ[i]? = some (some (.ref a))) (h : SqK b K H a xs) (r : R (ItQ b K a) H) : iSeq K (tVar i) σ H R := by
  cases b
  · exact .r ⟨_, e, a, rfl, ⟨xs, h⟩, r⟩
  · exact .l ⟨_, e, a, rfl, ⟨xs, h⟩, r⟩
theorem lc_sq {b : Bool} {K : PySem.W.Frag} {a D : Addr} {xs : List Int} {H0 : Hp} {i : Nat} {te : TE} {vs : List Nat} {σ : L2.St} {Qd : Hp → Prop} (hS : SqK b K H0 a (xs.map V.int)) (g : Int → Int) (hn : xs.length ≤ 1000000) (nD : H0 D = none) (hw : ∀ x : Int, wipe ((wipe σ vs).set i (some (.int x))) vs = wipe σ vs)
    (ht : ∀ x H1 (Q : VK), x ∈ xs → Same H0 H1 → (∀ H2, Same H1 H2 → Q (.int (g x)) H2) → te ((wipe σ vs).set i (some (.int x))) H1 Q)
    (hd : ∀ H1, Same H0 H1 → H1 D = some (.lst ((xs.map g).map V.int)) → Qd H1) : lcW (ItQ b K a) (gName i) tYes te vs σ D Qd H0 := by
  have ex : ∀ k, k < xs.length → (xs.map V.int)[k]? = some (.int (xs.getD k 0)) := fun k hk => by
    rw [List.getElem?_map, List.getD_eq_getElem?_getD, List.getElem?_eq_getElem hk]
    rfl
  refine lc_ofs (K := K) (n := xs.length) (fun k => g (xs.getD k 0)) (fun k => .int (xs.getD k 0)) hn nD (fun k H1 hk s => itq_go (Z.Same.sqK s hS) (ex k hk)) (fun H1 s => itq_stop (Z.Same.sqK s hS) (by rw [List.length_map]; exact Nat.le_refl _)) (fun k H1 x H2 hk s y => ?_) (fun k => hw _) (fun k H1 Q hk s q => ht _ H1 Q ?_ s q) (fun H1 s e => hd H1 s ?_)
  · obtain ⟨e1, e2⟩ := itq_yld (Z.Same.sqK s hS) y
    exact ⟨e1, Option.some.inj (e2.symm.trans (ex k hk))⟩
  · rw [List.getD_eq_getElem?_getD, List.getElem?_eq_getElem hk]
    exact List.getElem_mem hk
  · rw [e]
    congr 2
    congr 1
    apply List.ext_getElem
    · rw [List.length_map, List.length_map, List.length_range]
    · intro k h1 h2
      rw [List.length_map] at h2
      rw [List.getElem_map, List.getElem_map, List.getElem_range, List.getD_eq_getElem?_getD, List.getElem?_eq_getElem h2]
      rfl
/-- for x in xs, any values -/
theorem for_sq {b : Bool} {K : PySem.W.Frag} {a : Addr} {xs : List V} {H0 H : Hp} {i : Nat} {tb : TS} {D : Ends} {σ : L2.St} (hS : SqK b K H0 a xs) (Pv : Nat → L2.St → Hp → Prop) (h0 : Pv 0 σ H) (hq : ∀ k σ H1, Pv k σ H1 → Same H0 H1)
    (hs : ∀ (k : Nat) (x : V) (σ : L2.St) (H1 : Hp), xs[k]? = some x → Pv k σ H1 → tb { D with nx := Pv (k + 1), ct := Pv (k + 1), bk := D.nx } (σ.set i (some x)) H1)
    (hd : ∀ σ H1, Pv xs.length σ H1 → D.nx σ H1) : forW (ItQ b K a) (gName i) tb D σ H := by
  refine for_gen (n := xs.length) Pv h0 (fun k σ H1 hk p => itq_go (Z.Same.sqK (hq k σ H1 p) hS) (List.getElem?_eq_getElem hk)) (fun σ H1 p => itq_stop (Z.Same.sqK (hq _ σ H1 p) hS) (Nat.le_refl _)) ?_ hd
  intro k σ H1 x H2 hk p y
  obtain ⟨rfl, e⟩ := itq_yld (Z.Same.sqK (hq k σ H1 p) hS) y
  exact hs k x σ _ e p
/-- for i, x in enumerate(xs) -/
theorem for_enum {b : Bool} {K : PySem.W.Frag} {a : Addr} {xs : List V} {H0 H : Hp} {i j : Nat} {tb : TS} {D : Ends} {σ : L2.St} (hS : SqK b K H0 a xs) (Pv : Nat → L2.St → Hp → Prop) (h0 : Pv 0 σ H) (hq : ∀ k σ H1, Pv k σ H1 → Same H0 H1)
    (hs : ∀ (k : Nat) (x : V) (σ : L2.St) (H1 H2 : Hp), xs[k]? = some x → Pv k σ H1 → Same H1 H2 → tb { D with nx := Pv (k + 1), ct := Pv (k + 1), bk := D.nx } ((σ.set i (some (.int (k : Nat)))).set j (some x)) H2)
    (hd : ∀ σ H1, Pv xs.length σ H1 → D.nx σ H1) : forW (ItEM b K a) (gTup K 2 (gCons (gName i) (gCons (gName j) gNil))) tb D σ H := by
  refine for_gen (n := xs.length) Pv h0 (fun k σ H1 hk p => ⟨xs, _, Z.Same.sqK (hq k σ H1 p) hS, List.getElem?_eq_getElem hk⟩) (fun σ H1 p => ⟨xs, Z.Same.sqK (hq _ σ H1 p) hS, rfl⟩) ?_ hd
  intro k σ H1 x H2 hk p y
  obtain ⟨T, z, rfl, nT, rfl, e⟩ := y
  exact ⟨T, _, rfl, SqT.of upd_same, rfl, _, _, rfl, _, _, rfl, rfl, hs k z σ H1 _ (e _ (Z.Same.sqK (hq k σ H1 p) hS)) p (same_new nT)⟩
/-- for i, c in enumerate(text) -/
theorem for_enumS {K : PySem.W.Frag} {z : Str} {H : Hp} {i j : Nat} {tb : TS} {D : Ends} {σ : L2.St} (Pv : Nat → L2.St → Hp → Prop) (h0 : Pv 0 σ H)
    (hs : ∀ (k : Nat) (c : Nat) (σ : L2.St) (H1 H2 : Hp), z.cps[k]? = some c → Pv k σ H1 → Same H1 H2 → tb { D with nx := Pv (k + 1), ct := Pv (k + 1), bk := D.nx } ((σ.set i (some (.int (k : Nat)))).set j (some (.str ⟨#[c]⟩))) H2)
    (hd : ∀ σ H1, Pv z.cps.size σ H1 → D.nx σ H1) : forW (ItES z) (gTup K 2 (gCons (gName i) (gCons (gName j) gNil))) tb D σ H := by
  refine for_gen (n := z.cps.size) Pv h0 (fun k σ H1 hk p => hk) (fun σ H1 p => rfl) ?_ hd
  intro k σ H1 x H2 hk p y
  obtain ⟨T, c, rfl, nT, rfl, e⟩ := y
  exact ⟨T, _, rfl, SqT.of upd_same, rfl, _, _, rfl, _, _, rfl, rfl, hs k c σ H1 _ e p (same_new nT)⟩
/-! ### built-ins within a comprehension's block -/
theorem cr_min_K {X : Cx} {K : PySem.W.Frag} (h : X.K = K) (hc : X.calm = true) : CallR X (.builtin "min") (rMin K) := by
  subst h
  exact cr_min hc
theorem cr_max_K {X : Cx} {K : PySem.W.Frag} (h : X.K = K) (hc : X.calm = true) : CallR X (.builtin "max") (rMax K) := by
  subst h
  exact cr_max hc
theorem cr_sum_K {X : Cx} {K : PySem.W.Frag} (h : X.K = K) (hc : X.calm = true) : CallR X (.builtin "sum") (rSum K) := by
  subst h
  exact cr_sum hc
theorem cr_all_K {X : Cx} {K : PySem.W.Frag} (h : X.K = K) (hc : X.calm = true) : CallR X (.builtin "all") (rAll K) := by
  subst h
  exact cr_all hc
theorem cr_any_K {X : Cx} {K : PySem.W.Frag} (h : X.K = K) (hc : X.calm = true) : CallR X (.builtin "any") (rAny K) := by
  subst h
  exact cr_any hc
/-! ### comprehensions with a test, any values -/
def fltL (kb : Nat → Bool) (g : Nat → V) (n : Nat) : List V := ((List.range n).filter kb).map g
theorem flt_succ (kb : Nat → Bool) (g : Nat → V) (n : Nat) : fltL kb g (n + 1) = fltL kb g n ++ (if kb n then [g n] else []) := by
  unfold fltL
  rw [List.range_succ, List.filter_append, List.map_append]
  cases e : kb n <;> simp [e]
theorem flt_len (kb : Nat → Bool) (g : Nat → V) (n : Nat) : (fltL kb g n).length ≤ n := by
  unfold fltL
  rw [List.length_map]
  exact Nat.le_trans (List.length_filter_le ..) (by rw [List.length_range]; exact Nat.le_refl _)
theorem lc_flt {J : It} {D : Addr} {n : Nat} {H0 : Hp} {i : Nat} {tt : TT} {te : TE} {vs : List Nat} {σ : L2.St} {Qd : Hp → Prop} (xv : Nat → V) (kb : Nat → Bool) (g : Nat → V) (hn : n ≤ 1000000) (nD : H0 D = none)
    (hgo : ∀ k H1, k < n → Same H0 H1 → J.go k H1) (hst : ∀ H1, Same H0 H1 → J.stop n H1) (hy : ∀ k H1 x H2, k < n → Same H0 H1 → J.yld k H1 x H2 → Same H1 H2 ∧ x = xv k)
    (hw : ∀ k, wipe ((wipe σ vs).set i (some (xv k))) vs = wipe σ vs)
    (hb : ∀ k H1 (Q : Bool → Hp → Prop), k < n → Same H0 H1 → (∀ H2, Same H1 H2 → Q (kb k) H2) → tt ((wipe σ vs).set i (some (xv k))) H1 Q)
    (ht : ∀ k H1 (Q : VK), k < n → kb k = true → Same H0 H1 → (∀ H2, Same H1 H2 → Q (g k) H2) → te ((wipe σ vs).set i (some (xv k))) H1 Q)
    (hd : ∀ H1, Same H0 H1 → H1 D = some (.lst (fltL kb g n)) → Qd H1) : lcW J (gName i) tt te vs σ D Qd H0 := by
  refine lc_gen (n := n) (fun k H1 => Same H0 H1 ∧ H1 D = some (.lst (fltL kb g k))) ⟨same_new nD, upd_same⟩ (fun k H1 hk p => hgo k H1 hk p.1) (fun H1 p => hst H1 p.1) ?_ (fun H1 p => hd H1 p.1 p.2)
  rintro k H1 x H2 hk ⟨s, e⟩ y
  obtain ⟨s2, rfl⟩ := hy k H1 x H2 hk s y
  refine ⟨hw k, ?_⟩
  refine hb k _ _ hk (s.trans s2) (fun H3 s3 => ?_)
  cases eb : kb k
  · rw [if_neg (by decide)]
    refine ⟨s.trans (s2.trans s3), ?_⟩
    rw [flt_succ, eb]
    simpa using s3 _ _ (s2 _ _ e)
  · rw [if_pos rfl]
    refine ht k _ _ hk eb (s.trans (s2.trans s3)) (fun H4 s4 => ⟨_, s4 _ _ (s3 _ _ (s2 _ _ e)), ?_, Z.Same.mut (s.trans (s2.trans (s3.trans s4))) nD, ?_⟩)
    · exact Nat.lt_of_le_of_lt (flt_len kb g k) (Nat.lt_of_lt_of_le hk (Nat.le_trans hn (by decide)))
    · rw [upd_same, flt_succ, eb]
      rfl
end Z
set_option pp.maxSteps 700
set_option Elab.async false
set_option linter.all false
set_option maxRecDepth 100000
set_option maxHeartbeats 4000000
namespace Z
open Dy
open PySem PySem.Spec PyProof.Rows L2
open C8 (pss_cut tCut)
local macro_rules | `(tactic| walk_at "num") => `(tactic| first | rfl | omega | decide | exact Nat.le_of_lt (small1000 (by simp)) | exact ⟨by omega, by omega⟩ | exact ⟨by omega, by omega, by omega⟩ | exact ⟨by decide, by decide, by decide⟩ | exact Or.inl ⟨by omega, by omega⟩ | exact Or.inr ⟨by omega, by omega⟩)
local macro_rules | `(tactic| walk_at "go") => `(tactic| repeat (first | refine ⟨_, rfl, ?_⟩ | refine ⟨_, _, rfl, rfl, ?_⟩ | refine ⟨_, _, rfl, ?_⟩ | (refine ⟨_, _, rfl, rfl, ?_, ?_⟩; focus walk_at "num") | refine Or.inl ⟨_, rfl, ?_⟩ | refine ⟨_, _, _, _, rfl, rfl, (by assumption), (by rfl), ?_⟩ | refine ⟨_, _, _, _, _, rfl, (by assumption), (by assumption), (by assumption), (by rfl), ?_⟩ | refine ⟨rfl, ?_⟩ | (refine And.intro ?_ ?_; focus walk_at "num")))
abbrev s_check_days : Stmt := topS 9
abbrev N_check_days : List Str := ["days", "at"]
abbrev P_check_days : List Str := ["days"]
theorem sc_check_days : FnScope N_check_days P_check_days (defScope s_check_days) := ⟨rfl, rfl, rfl, by decide +kernel, rfl, by decide +kernel, by decide +kernel⟩
abbrev s_least_period : Stmt := topS 10
abbrev N_least_period : List Str := ["days", "many", "size", "at"]
abbrev P_least_period : List Str := ["days"]
theorem sc_least_period : FnScope N_least_period P_least_period (defScope s_least_period) := ⟨rfl, rfl, rfl, by decide +kernel, rfl, by decide +kernel, by decide +kernel⟩
abbrev s_day_at : Stmt := topS 11
abbrev N_day_at : List Str := ["days", "day", "begin"]
abbrev P_day_at : List Str := ["days", "day"]
theorem sc_day_at : FnScope N_day_at P_day_at (defScope s_day_at) := ⟨rfl, rfl, rfl, by decide +kernel, rfl, by decide +kernel, by decide +kernel⟩
abbrev s_DayRule___init__ : Stmt := inClass (topS 15) 0
abbrev N_DayRule___init__ : List Str := ["self", "days"]
abbrev P_DayRule___init__ : List Str := ["self", "days"]
theorem sc_DayRule___init__ : FnScope N_DayRule___init__ P_DayRule___init__ (defScope s_DayRule___init__) := ⟨rfl, rfl, rfl, by decide +kernel, rfl, by decide +kernel, by decide +kernel⟩
abbrev s_DayRule_period : Stmt := inClass (topS 15) 1
abbrev N_DayRule_period : List Str := ["self"]
abbrev P_DayRule_period : List Str := ["self"]
theorem sc_DayRule_period : FnScope N_DayRule_period P_DayRule_period (defScope s_DayRule_period) := ⟨rfl, rfl, rfl, by decide +kernel, rfl, by decide +kernel, by decide +kernel⟩
abbrev s_DayRule___call__ : Stmt := inClass (topS 15) 2
abbrev N_DayRule___call__ : List Str := ["self", "day"]
abbrev P_DayRule___call__ : List Str := ["self", "day"]
theorem sc_DayRule___call__ : FnScope N_DayRule___call__ P_DayRule___call__ (defScope s_DayRule___call__) := ⟨rfl, rfl, rfl, by decide +kernel, rfl, by decide +kernel, by decide +kernel⟩
abbrev s_DayRule___eq__ : Stmt := inClass (topS 15) 3
abbrev N_DayRule___eq__ : List Str := ["self", "other"]
abbrev P_DayRule___eq__ : List Str := ["self", "other"]
theorem sc_DayRule___eq__ : FnScope N_DayRule___eq__ P_DayRule___eq__ (defScope s_DayRule___eq__) := ⟨rfl, rfl, rfl, by decide +kernel, rfl, by decide +kernel, by decide +kernel⟩
abbrev FnM (K : PySem.W.Frag) (x q : Str) (st : Stmt) (f : Addr) (fd : FuncData) : Prop := FunD K x q (defArgs st) (defBody st) (defScope st) [] [] f fd
theorem relv_ref {a : Addr} : L2.RelV (.ref a) (.ref a) := rfl
theorem SqK.or {b : Bool} {K : PySem.W.Frag} {H : Hp} {a : Addr} {xs : List V} (h : SqK b K H a xs) : SqL K H a xs ∨ SqT K H a xs := by
  cases b
  · exact .inr h
  · exact .inl h
/-- an if that only guards, and what it tells -/
theorem cut_fact {p : Prop} {t u : TS} {D : Ends} {σ : L2.St} {H : Hp} (h : t { D with nx := fun σ' H' => σ' = σ ∧ H' = H ∧ p } σ H) (h2 : p → u D σ H) : C8.tCut t u D σ H := ⟨_, h, fun σ' H' z => by
  obtain ⟨rfl, rfl, hp⟩ := z
  exact h2 hp⟩
/-- days[i], a list or a tuple of ints -/
theorem ixd {b : Bool} {K : PySem.W.Frag} {H : Hp} {a : Addr} {ds : List Int} {i : Int} {j : Nat} {Q : VK} (h : SqK b K H a (ds.map V.int)) (hj : j < ds.length) (hi : i = (j : Int)) (q : Q (.int (ds.getD j 0)) H) : rIx K (.ref a) (.int i) H Q := by
  have e : atI (ds.map V.int) i = some (.int (ds.getD j 0)) := by
    rw [hi, List.getD_eq_getElem?_getD, List.getElem?_eq_getElem hj]
    exact at_map (List.getElem?_eq_getElem hj)
  cases b
  · exact .inr (.inl ⟨a, _, _, _, rfl, rfl, h, e, q⟩)
  · exact .inl ⟨a, _, _, _, rfl, rfl, h, e, q⟩
theorem ixl {b : Bool} {K : PySem.W.Frag} {H : Hp} {a : Addr} {ds : List Int} {Q : VK} (h : SqK b K H a (ds.map V.int)) (hj : 0 < ds.length) (q : Q (.int (ds.getD (ds.length - 1) 0)) H) : rIx K (.ref a) (.int (-1)) H Q := by
  have e : atI (ds.map V.int) (-1) = some (.int (ds.getD (ds.length - 1) 0)) := by
    rcases List.eq_nil_or_concat ds with rfl | ⟨r, x, e⟩
    · cases hj
    · have e : ds = r ++ [x] := by rw [e]; simp
      subst e
      rw [List.map_append]
      rw [show ((r ++ [x]).getD ((r ++ [x]).length - 1) 0) = x by simp [List.getD_eq_getElem?_getD]]
      exact atI_last _ _
  cases b
  · exact .inr (.inl ⟨a, _, _, _, rfl, rfl, h, e, q⟩)
  · exact .inl ⟨a, _, _, _, rfl, rfl, h, e, q⟩
section
variable {P : Program} {w : World} {K : PySem.W.Frag} {mg : Str → Option Value} {base : Heap} {f C CD : Addr} {fd : FuncData}
/-! ### check_days -/
def spCheck (CD : Addr) (K : PySem.W.Frag) : Sp := fun vs H Q E => ∃ (b : Bool) (a : Addr) (ds : List Int), vs = [.ref a] ∧ SqK b K H a (ds.map V.int) ∧ ds.length ≤ 100000 ∧ (fault ds = none → Q .non H) ∧ ∀ i, fault ds = some i → ∀ d, H d = none → E (.ref CD) (some d) (upd H d (.xd [("at", .int (i : Int))]))
theorem ok_check_days (F : FnP K "check_days" s_check_days f fd) (m_len : mg "len" = none) (m_range : mg "range" = none) (x_BadDays : Exn P w K mg base "BadDays" CD "at") : FnOk P w K mg base (L2N.CX P w) 3 f fd P_check_days (spCheck CD K) := by
  refine F.ok sc_check_days (fun vs H Q E h => ?_) (fun cdv A outer s H vs Q E hr h => ?_)
  · obtain ⟨b, a, ds, rfl, _⟩ := h
    rfl
  · obtain ⟨b, a, ds, rfl, hS, hl, q, qe⟩ := h
    have tk := takes_fn (P := P) (w := w) (K := K) (mg := mg) (base := base) (N := N_check_days) (qual := "check_days") (scope := defScope s_check_days) (f := f) (cd := cdv) (A := A) (outer := outer) (s := s) (H := H) (E := E)
    refine ⟨_, (pss_cut (ps_for (passes_of rfl) rfl (pi_range2 (by rfl) m_range (pa_cons pe_int (pa_cons (pe_callB call_len_seq (by rfl) m_len PySem.boot_len (pa_cons (pv 0) pa_nil)) pa_nil))) (pg_name (i := 1) sc_check_days.nd rfl (by first | exact .inl rfl | exact .inr rfl))
        (pss_one (ps_if (pt_cmpR op_lt (pe_ix ix_seq (pv 0) (pv 1) (fun _ _ => rfl)) (pe_ix ix_seq (pv 0) (pe_op op_sub (pv 1) pe_int) (fun _ _ => rfl)) (nomark _)) (pss_one (ps_exn rfl tk x_BadDays hr (by decide) (by rfl) (pa_cons (pv 1) pa_nil))) pss_nil)))
      (pss_one (ps_if (PW.pt (pw_or (pt_cmpR op_eq (pe_callB call_len_seq (by rfl) m_len PySem.boot_len (pa_cons (pv 0) pa_nil)) pe_int (nomark _)) (pw_or1 (pt_cmpR op_gt (pe_ix ix_seq (pv 0) (pe_un un_neg pe_int) (fun _ _ => rfl)) (pe_op op_add (pe_ix ix_seq (pv 0) pe_int (fun _ _ => rfl)) (pe_callB call_len_seq (by rfl) m_len PySem.boot_len (pa_cons (pv 0) pa_nil))) (nomark _))))) (pss_one (ps_exn rfl tk x_BadDays hr (by decide) (by rfl) (pa_cons pe_int pa_nil))) pss_nil))), ?_⟩
    refine ⟨fun σ' H' => H' = H ∧ faultF ds (ds.length - 1) 1 = none ∧ ∃ v1 : Option V, σ' = [some (.ref a), v1], ?_, ?_⟩
    · walk_at "go"
      refine ⟨a, _, rfl, hS.or, ?_⟩
      rw [List.length_map]
      walk_at "go"
      refine for_gen (n := ds.length - 1) (fun i σ H1 => H1 = H ∧ faultF ds (ds.length - 1) 1 = faultF ds (ds.length - 1 - i) (1 + i) ∧ ∃ v1 : Option V, σ = [some (.ref a), v1]) ⟨rfl, rfl, none, rfl⟩ ?_ ?_ ?_ ?_
      · intro i σ H1 hi _
        show i < ((ds.length : Int) - 1).toNat
        omega
      · intro σ H1 _
        show ((ds.length : Int) - 1).toNat ≤ ds.length - 1
        omega
      · rintro i σ H1 x H' hi ⟨rfl, e, v1, rfl⟩ ⟨rfl, rfl⟩
        walk_at "go"
        refine ixd hS (j := 1 + i) (by omega) (by omega) ?_
        walk_at "go"
        refine ixd hS (j := i) (by omega) (by omega) ?_
        rw [show ds.length - 1 - i = (ds.length - 1 - (i + 1)) + 1 by omega] at e
        have e : faultF ds (ds.length - 1) 1 = if ds.getD (1 + i) 0 < ds.getD (1 + i - 1) 0 then some (1 + i) else faultF ds (ds.length - 1 - (i + 1)) (1 + i + 1) := e
        rw [show 1 + i - 1 = i by omega] at e
        walk_at "go"
        refine ite2 (fun c => ?_) (fun c => ?_)
        · have c := of_decide_eq_true c
          rw [if_pos c] at e
          walk_at "go"
          have hf : fault ds = some (1 + i) := by
            unfold fault
            rw [e]
          have z := qe _ hf
          rw [show ((1 + i : Nat) : Int) = 1 + (i : Int) by omega] at z
          exact mkx_of z
        · have c : ¬ ds.getD (1 + i) 0 < ds.getD i 0 := fun z => c (decide_eq_true z)
          rw [if_neg c] at e
          exact ⟨rfl, e, _, rfl⟩
      · rintro σ H1 ⟨rfl, e, v1, rfl⟩
        rw [Nat.sub_self] at e
        exact ⟨rfl, e, _, rfl⟩
    rintro σ' H1 ⟨e1, ef, v1, rfl⟩
    rw [e1]
    clear e1 H1
    have hf : fault ds = if ds.length = 0 ∨ ds.getD 0 0 + ds.length < ds.getD (ds.length - 1) 0 then some 0 else none := by
      unfold fault
      rw [ef]
    walk_at "go"
    refine ⟨a, _, rfl, hS.or, ?_⟩
    rw [List.length_map]
    walk_at "go"
    refine ite2 (fun c => ?_) (fun c => ?_)
    · have c : ds.length = 0 := by
        have := V.int.inj (of_decide_eq_true c)
        omega
      rw [if_pos (.inl c)] at hf
      walk_at "go"
      exact (mkx_of (qe _ hf)).2
    · have c : ¬ ds.length = 0 := fun z => c (decide_eq_true (by rw [z]; rfl))
      walk_at "go"
      refine ixl hS (by omega) ?_
      walk_at "go"
      refine ixd hS (j := 0) (by omega) rfl ?_
      walk_at "go"
      refine ⟨a, _, rfl, hS.or, ?_⟩
      rw [List.length_map]
      walk_at "go"
      refine ite2 (fun c2 => ?_) (fun c2 => ?_)
      · have c2 := of_decide_eq_true c2
        rw [if_pos (.inr c2)] at hf
        walk_at "go"
        exact (mkx_of (qe _ hf)).2
      · have c2 : ¬ ds.getD (ds.length - 1) 0 > ds.getD 0 0 + ds.length := fun z => c2 (decide_eq_true z)
        rw [if_neg (by omega)] at hf
        exact q hf
/-! ### day_at -/
def spDayAt (K : PySem.W.Frag) : Sp := fun vs H Q _ => ∃ (b : Bool) (a : Addr) (ds : List Int) (d : Int), vs = [.ref a, .int d] ∧ SqK b K H a (ds.map V.int) ∧ 0 < ds.length ∧ ds.length ≤ 100000 ∧ Q (.int (dv ds d)) H
theorem ok_day_at (F : FnP K "day_at" s_day_at f fd) (m_len : mg "len" = none) : FnOk P w K mg base CX0 1 f fd P_day_at (spDayAt K) := by
  refine F.ok sc_day_at (fun vs H Q E h => ?_) (fun cdv A outer s H vs Q E hr h => ?_)
  · obtain ⟨b, a, ds, d, rfl, _⟩ := h
    rfl
  · obtain ⟨b, a, ds, d, rfl, hS, hp, hl, q⟩ := h
    refine ⟨_, PSs.nox (pss_cons (ps_set (i := 2) sc_day_at.nd rfl (by first | exact .inl rfl | exact .inr rfl) (pe_op op_mul (pe_callB call_len_seq (by rfl) m_len PySem.boot_len (pa_cons (pv 0) pa_nil)) (pe_op op_fdiv (pv 1) (pe_callB call_len_seq (by rfl) m_len PySem.boot_len (pa_cons (pv 0) pa_nil)))))
      (pss_one (ps_ret (pe_op op_add (pe_ix ix_seq (pv 0) (pe_op op_sub (pv 1) (pv 2)) (fun _ _ => rfl)) (pv 2))))), ?_⟩
    walk_at "go"
    refine ⟨a, _, rfl, hS.or, ?_⟩
    rw [List.length_map]
    walk_at "go"
    refine ⟨a, _, rfl, hS.or, ?_⟩
    rw [List.length_map]
    walk_at "go"
    have hn : 0 < (ds.length : Int) := by omega
    have h1 := Int.emod_nonneg d (show (ds.length : Int) ≠ 0 by omega)
    have h2 := Int.emod_lt_of_pos d hn
    refine ixd hS (j := (d % (ds.length : Int)).toNat) (by omega) ?_ ?_
    · rw [Int.toNat_of_nonneg h1, Int.emod_def]
    walk_at "go"
    exact q
/-! ### least_period -/
def spLeast (K : PySem.W.Frag) : Sp := fun vs H Q _ => ∃ (b : Bool) (a : Addr) (ds : List Int), vs = [.ref a] ∧ SqK b K H a (ds.map V.int) ∧ 0 < ds.length ∧ ds.length ≤ 100000 ∧ ∀ (p : Nat) H', Same H H' → Lp (dv ds) p → Q (.int (p : Int)) H'
theorem ok_least_period (F : FnP K "least_period" s_least_period f fd) (m_len : mg "len" = none) (m_range : mg "range" = none) (m_all : mg "all" = none) : FnOk P w K mg base CX0 1 f fd P_least_period (spLeast K) := by
  refine F.ok sc_least_period (fun vs H Q E h => ?_) (fun cdv A outer s H vs Q E hr h => ?_)
  · obtain ⟨b, a, ds, rfl, _⟩ := h
    rfl
  · obtain ⟨b, a, ds, rfl, hS, hp, hl, q⟩ := h
    refine ⟨_, PSs.nox (pss_cons (ps_set (i := 1) sc_least_period.nd rfl (by first | exact .inl rfl | exact .inr rfl) (pe_callB call_len_seq (by rfl) m_len PySem.boot_len (pa_cons (pv 0) pa_nil)))
      (pss_cons (ps_for PassesOwn.never rfl (pi_range2 (by rfl) m_range (pa_cons pe_int (pa_cons (pv 1) pa_nil))) (pg_name (i := 2) sc_least_period.nd rfl (by first | exact .inl rfl | exact .inr rfl))
        (pss_one (ps_if (PW.pt (pw_and (pt_cmpR op_eq (pe_op op_mod (pv 1) (pv 2)) pe_int (nomark _)) (pw_and1 (pt_val (pe_callB (cr_all rfl) (by rfl) m_all (by decide +kernel) (pa_cons (pe_lc (own := [("at", 3)]) (g := (gName 3)) (tt := tYes) (by rfl) sc_least_period.nd (pi_range2 (by rfl) m_range (pa_cons (pv 2) (pa_cons (pv 1) pa_nil))) (blkOk_by (own := [("at", 3)]) (N := N_least_period) (sc := defScope s_least_period) (by decide +kernel)) (fun _ _ _ _ _ => (pg_name (i := 3) sc_least_period.nd rfl (by first | exact .inl rfl | exact .inr rfl))) (fun _ _ _ _ _ => pts_nil) (fun _ _ _ _ _ => (pe_cmpR op_eq (pe_ix (ix_seq_K (K := K) rfl) (pv 0) (pv 3) (fun _ _ => rfl)) (pe_op op_add (pe_ix (ix_seq_K (K := K) rfl) (pv 0) (pe_op op_sub (pv 3) (pv 2)) (fun _ _ => rfl)) (pv 2)) (nomark _)))) pa_nil)))))) (pss_one (ps_ret (pv 2))) pss_nil)))
      (pss_one (ps_ret (pv 1))))), ?_⟩
    walk_at "go"
    refine ⟨a, _, rfl, hS.or, ?_⟩
    rw [List.length_map]
    walk_at "go"
    have of := of_dv hp
    refine for_gen (n := ds.length - 1) (fun i σ H1 => Same H H1 ∧ (∀ k, 0 < k → k < 1 + i → ¬ Blk ds k) ∧ ∃ v2 v3 : Option V, σ = [some (.ref a), some (.int (ds.length : Int)), v2, v3]) ⟨Same.refl _, (fun k h1 h2 => by omega), none, none, rfl⟩ ?_ ?_ ?_ ?_
    · intro i σ H1 hi _
      show i < ((ds.length : Int) - 1).toNat
      omega
    · intro σ H1 _
      show ((ds.length : Int) - 1).toNat ≤ ds.length - 1
      omega
    · rintro i σ H1 x H' hi ⟨s1, hk, v2, v3, rfl⟩ ⟨rfl, rfl⟩
      have hS1 := Z.Same.sqK s1 hS
      have em : ((ds.length : Int) % (1 + (i : Int))) = ((ds.length % (1 + i) : Nat) : Int) := by
        rw [Int.natCast_emod, Int.natCast_add]
        rfl
      have go : ¬ Blk ds (1 + i) → ∀ k, 0 < k → k < 1 + (i + 1) → ¬ Blk ds k := fun z k h1 h2 => by
        by_cases c : k = 1 + i
        · rw [c]
          exact z
        · exact hk k h1 (by omega)
      walk_at "go"
      refine ite2 (fun c => ?_) (fun c => ?_)
      · have c : ds.length % (1 + i) = 0 := by
          have h := V.int.inj (of_decide_eq_true c)
          rw [em] at h
          omega
        walk_at "go"
        intro D nD
        have fB : ∀ k, ((List.range k).map fun t => decide (V.int (ds.getD (1 + i + t) 0) = V.int (ds.getD t 0 + (1 + (i : Int))))).length = k := fun k => by rw [List.length_map, List.length_range]
        refine lc_gen (n := ds.length - (1 + i)) (fun k H2 => Same H' H2 ∧ H2 D = some (.lst (((List.range k).map fun t => decide (V.int (ds.getD (1 + i + t) 0) = V.int (ds.getD t 0 + (1 + (i : Int))))).map V.bl))) ⟨same_new nD, upd_same⟩ ?_ ?_ ?_ ?_
        · intro k H2 hk2 _
          show k < ((ds.length : Int) - (1 + (i : Int))).toNat
          omega
        · intro H2 _
          show ((ds.length : Int) - (1 + (i : Int))).toNat ≤ ds.length - (1 + i)
          omega
        · rintro k H2 x H3 hk2 ⟨s2, eD⟩ ⟨rfl, rfl⟩
          have hS2 := Z.Same.sqK s2 hS1
          walk_at "go"
          refine ixd hS2 (j := 1 + i + k) (by omega) (by omega) ?_
          walk_at "go"
          refine ixd hS2 (j := k) (by omega) (by omega) ?_
          walk_at "go"
          refine ⟨_, eD, ?_, Z.Same.mut s2 nD, ?_⟩
          · rw [List.length_map, fB]
            exact Nat.lt_of_le_of_lt (show k ≤ 100000 by omega) (by decide)
          · rw [upd_same, List.range_succ, List.map_append, List.map_append]
            rfl
        rintro H2 ⟨s2, eD⟩
        walk_at "go"
        refine ⟨D, _, rfl, SqL.of eD, ?_⟩
        have eb : (((List.range (ds.length - (1 + i))).map fun t => decide (V.int (ds.getD (1 + i + t) 0) = V.int (ds.getD t 0 + (1 + (i : Int))))).all id) = true ↔ Blk ds (1 + i) := by
          rw [List.all_eq_true]
          constructor
          · intro h
            refine ⟨c, fun j h1 h2 => ?_⟩
            have := h _ (List.mem_map.mpr ⟨j - (1 + i), List.mem_range.mpr (by omega), rfl⟩)
            have := V.int.inj (of_decide_eq_true this)
            rw [show 1 + i + (j - (1 + i)) = j by omega] at this
            rw [this]
            congr 1
          · rintro ⟨_, h⟩ x hx
            obtain ⟨t, ht, rfl⟩ := List.mem_map.mp hx
            have ht := List.mem_range.mp ht
            have := h (1 + i + t) (by omega) (by omega)
            rw [show 1 + i + t - (1 + i) = t by omega] at this
            refine decide_eq_true ?_
            rw [this]
            congr 1
        walk_at "go"
        refine ite2 (fun c2 => ?_) (fun c2 => ?_)
        · have c2 := eb.mp c2
          walk_at "go"
          have z := q (1 + i) H2 (s1.trans s2) (first_lp (Blk ds) hp of.per (fun k h1 h2 => blk_per of h1 h2) (fun p l _ => lp_blk of l) (by omega) (by omega) hk (fun _ => c2))
          rw [show ((1 + i : Nat) : Int) = 1 + (i : Int) by omega] at z
          exact z
        · exact ⟨s1.trans s2, go (fun z => c2 (eb.mpr z)), _, _, rfl⟩
      · have c : ¬ ds.length % (1 + i) = 0 := fun z => c (decide_eq_true (show V.int ((ds.length : Int) % (1 + (i : Int))) = V.int 0 by rw [em, z]; rfl))
        exact ⟨s1, go (fun z => c z.1), _, _, rfl⟩
    · rintro σ H1 ⟨s1, hk, v2, v3, rfl⟩
      walk_at "go"
      refine q _ _ s1 (first_lp (Blk ds) hp of.per (fun k h1 h2 => blk_per of h1 h2) (fun p l _ => lp_blk of l) hp (Nat.le_refl _) (fun k h1 h2 => hk k h1 (by omega)) (fun z => by omega))
end
end Z
set_option pp.maxSteps 700
set_option Elab.async false
set_option linter.all false
set_option maxRecDepth 100000
set_option maxHeartbeats 4000000
namespace Z
open Dy
open PySem PySem.Spec PyProof.Rows L2
open C8 (pss_cut tCut)
local macro_rules | `(tactic| walk_at "num") => `(tactic| first | rfl | omega | decide | exact Nat.le_of_lt (small1000 (by simp)) | exact ⟨by omega, by omega⟩ | exact ⟨by omega, by omega, by omega⟩ | exact ⟨by decide, by decide, by decide⟩ | exact Or.inl ⟨by omega, by omega⟩ | exact Or.inr ⟨by omega, by omega⟩)
local macro_rules | `(tactic| walk_at "go") => `(tactic| repeat (first | refine ⟨_, rfl, ?_⟩ | refine ⟨_, _, rfl, rfl, ?_⟩ | refine ⟨_, _, rfl, ?_⟩ | (refine ⟨_, _, rfl, rfl, ?_, ?_⟩; focus walk_at "num") | refine Or.inl ⟨_, rfl, ?_⟩ | refine ⟨_, _, _, _, rfl, rfl, (by assumption), (by rfl), ?_⟩ | refine ⟨_, _, _, _, _, rfl, (by assumption), (by assumption), (by assumption), (by rfl), ?_⟩ | refine ⟨rfl, ?_⟩ | (refine And.intro ?_ ?_; focus walk_at "num")))
theorem sIx_hi {n p : Nat} (h : p ≤ n) : HT.sIx n n (some (p : Int)) = p := by
  rw [HT.sIx_nat]
  omega
theorem cut_take {ds : List Int} {p : Nat} (h : p ≤ ds.length) : cutV (ds.map V.int) none (some (p : Int)) = (ds.take p).map V.int := by
  unfold cutV
  rw [List.length_map, sIx_hi h]
  show ((ds.map V.int).drop 0).take (p - 0) = _
  rw [List.drop_zero, Nat.sub_zero, List.map_take]
def bO (b : Bool) (xs : List V) : HO := match b with
  | true => .lst xs
  | false => .tup xs
theorem bO_sq {b : Bool} {K : PySem.W.Frag} {H : Hp} {a : Addr} {xs : List V} (h : H a = some (bO b xs)) : SqK b K H a xs := by
  cases b
  · exact .inl (.inl h)
  · exact .inl (.inl h)
def RuleAt (C : Addr) (K : PySem.W.Frag) (H : Hp) (n : Addr) (ds : List Int) : Prop := ∃ dx t, H n = some (.ins C dx [("days", .ref t)]) ∧ H t = some (.tup (ds.map V.int))
theorem RuleAt.mono {C : Addr} {K : PySem.W.Frag} {H H' : Hp} {n : Addr} {ds : List Int} (s : Same H H') (h : RuleAt C K H n ds) : RuleAt C K H' n ds := by
  obtain ⟨dx, t, e, h2⟩ := h
  exact ⟨dx, t, s _ _ e, s _ _ h2⟩
theorem sqT_ins {K : PySem.W.Frag} {H H' : Hp} {n C dx a : Addr} {fs : List (Str × V)} {xs : List V} (s : SB n H H') (hn : H n = some (.ins C dx fs)) (h : SqT K H a xs) : SqT K H' a xs := by
  have ne : ∀ {o : HO}, H a = some o → (∀ C dx fs, o ≠ .ins C dx fs) → a ≠ n := fun e z w => by
    rw [w, hn] at e
    exact z _ _ _ (Option.some.inj e).symm
  rcases h with (h | ⟨o, h⟩) | h
  · exact .inl (.inl (s _ _ (ne h fun _ _ _ => nofun) h))
  · exact .inl (.inr ⟨o, s _ _ (ne h fun _ _ _ => nofun) h⟩)
  · exact .inr h
section
variable {P : Program} {w : World} {K : PySem.W.Frag} {mg : Str → Option Value} {base : Heap} {f C CD : Addr} {fd : FuncData}
def spInit (C CD : Addr) (K : PySem.W.Frag) : Sp := fun vs H Q E => ∃ (b : Bool) (n dx a : Addr) (ds : List Int), vs = [.ref n, .ref a] ∧ H n = some (.ins C dx []) ∧ H a = some (bO b (ds.map V.int)) ∧ ds.length ≤ 100000 ∧
  (fault ds = none → ∀ (p : Nat) H', SB n H H' → Lp (dv ds) p → RuleAt C K H' n (ds.take p) → Q .non H') ∧ ∀ i, fault ds = some i → ∀ d, H d = none → E (.ref CD) (some d) (upd H d (.xd [("at", .int (i : Int))]))
theorem fault_pos {ds : List Int} (h : fault ds = none) : 0 < ds.length := by
  cases ds with
  | nil => cases h
  | cons x r => exact Nat.succ_pos _
theorem ok_init (F : FnM K "__init__" "DayRule.__init__" s_DayRule___init__ f fd) (cls : Cls K C) (n_days : NoAttr K C "days") (m_tuple : mg "tuple" = none) (c_check_days : CalX P w K mg base 3 "check_days" (spCheck CD K)) (c_least_period : Cal P w K mg base 1 "least_period" (spLeast K)) : FnOk P w K mg base (L2N.CX P w) 4 f fd P_DayRule___init__ (spInit C CD K) := by
  refine F.ok sc_DayRule___init__ (fun vs H Q E h => ?_) (fun cdv A outer s H vs Q E hr h => ?_)
  · obtain ⟨b, n, dx, a, ds, rfl, _⟩ := h
    rfl
  · obtain ⟨b, n, dx, a, ds, rfl, hn, hA, hl, q, qe⟩ := h
    have hS : SqK b K H a (ds.map V.int) := bO_sq hA
    have tk := takes_fn (P := P) (w := w) (K := K) (mg := mg) (base := base) (N := N_DayRule___init__) (qual := "DayRule.__init__") (scope := defScope s_DayRule___init__) (f := f) (cd := cdv) (A := A) (outer := outer) (s := s) (H := H) (E := E)
    refine ⟨_, (pss_cons (ps_expr (pe_clE c_check_days (fun σ => L2N.passAt tk σ) hr (by decide) (by rfl) (pa_cons (pv 1) pa_nil)))
      (pss_one (ps_fld (pv 0) (pe_callTy call_tuple_of (by rfl) m_tuple (by decide +kernel) (pa_cons (pe_slice (sl_list.or sl_tupA) (pv 1) po_none (po_some (pe_cl c_least_period hr (by decide) (by rfl) (pa_cons (pv 1) pa_nil)))) pa_nil)) rfl))), ?_⟩
    walk_at "go"
    refine ⟨b, a, ds, rfl, hS, hl, fun hf => ?_, qe⟩
    have hp := fault_pos hf
    have q := q hf
    walk_at "go"
    refine ⟨b, a, ds, rfl, hS, hp, hl, fun p H1 s1 lp => ?_⟩
    have hS1 := Z.Same.sqK s1 hS
    have hn1 := s1 _ _ hn
    obtain ⟨hpl, ltk, oft⟩ := (of_dv hp).take lp
    -- what is left, the tuple at t
    have fin : ∀ (t : Addr) (H2 : Hp), Same H1 H2 → H2 t = some (.tup ((ds.take p).map V.int)) → Q .non (upd H2 n (.ins C dx [("days", .ref t)])) := by
      intro t H2 s2 hT
      have hn2 := s2 _ _ hn1
      have sb : SB n H2 (upd H2 n (.ins C dx [("days", .ref t)])) := SB.upd (Z.Same.sb (Same.refl _))
      have ne : t ≠ n := fun z => by
        rw [z, hn2] at hT
        cases hT
      exact q p _ ((Z.Same.sb (s1.trans s2)).trans sb) lp ⟨dx, t, upd_same, by rw [upd_ne ne]; exact hT⟩
    walk_at "go"
    cases b with
    | true =>
      refine .inl ⟨a, _, rfl, hS1, fun l nl => ?_⟩
      rw [cut_take hpl]
      have s2 := same_new (o := .lst ((ds.take p).map V.int)) nl
      walk_at "go"
      refine ⟨l, _, rfl, .inl ⟨SqL.of upd_same, fun t nt => ?_⟩⟩
      have s3 := same_new (o := .tup ((ds.take p).map V.int)) nt
      walk_at "go"
      refine ⟨n, C, dx, _, rfl, s3 _ _ (s2 _ _ hn1), cls, n_days, by decide, ?_⟩
      exact fin t _ (s2.trans s3) upd_same
    | false =>
      refine .inr ⟨a, _, rfl, hS1, fun hw => ?_, fun hw l nl => ?_⟩
      · have e : p = ds.length := by
          have := hw.2
          rw [List.length_map, sIx_hi hpl] at this
          exact this
        walk_at "go"
        refine ⟨a, _, rfl, .inr ⟨hS1, ?_⟩⟩
        walk_at "go"
        refine ⟨n, C, dx, _, rfl, hn1, cls, n_days, by decide, ?_⟩
        exact fin a _ (Same.refl _) (by rw [e, List.take_length]; exact s1 _ _ hA)
      · rw [cut_take hpl]
        have s2 := same_new (o := .tup ((ds.take p).map V.int)) nl
        walk_at "go"
        refine ⟨l, _, rfl, .inr ⟨.inl (.inl upd_same), ?_⟩⟩
        walk_at "go"
        refine ⟨n, C, dx, _, rfl, s2 _ _ hn1, cls, n_days, by decide, ?_⟩
        exact fin l _ s2 upd_same
/-! ### period, a call, == -/
def spPeriod (C : Addr) (K : PySem.W.Frag) : Sp := fun vs H Q _ => ∃ (n : Addr) (ds : List Int), vs = [.ref n] ∧ RuleAt C K H n ds ∧ Q (.int (ds.length : Int)) H
theorem ok_period (F : FnM K "period" "DayRule.period" s_DayRule_period f fd) (cls : Cls K C) (n_days : NoAttr K C "days") (m_len : mg "len" = none) : FnOk P w K mg base CX0 1 f fd P_DayRule_period (spPeriod C K) := by
  refine F.ok sc_DayRule_period (fun vs H Q E h => ?_) (fun cdv A outer s H vs Q E hr h => ?_)
  · obtain ⟨n, ds, rfl, _⟩ := h
    rfl
  · obtain ⟨n, ds, rfl, ⟨dx, t, hn, hT⟩, q⟩ := h
    refine ⟨_, PSs.nox (pss_one (ps_ret (pe_callB call_len_seq (by rfl) m_len PySem.boot_len (pa_cons (pe_fld (pv 0) rfl) pa_nil)))), ?_⟩
    walk_at "go"
    refine ⟨t, _, rfl, .inr (SqT.of hT), ?_⟩
    rw [List.length_map]
    exact q
def spCallR (C : Addr) (K : PySem.W.Frag) : Sp := fun vs H Q _ => ∃ (n : Addr) (ds : List Int) (d : Int), vs = [.ref n, .int d] ∧ RuleAt C K H n ds ∧ 0 < ds.length ∧ ds.length ≤ 100000 ∧ Q (.int (dv ds d)) H
theorem ok_call (F : FnM K "__call__" "DayRule.__call__" s_DayRule___call__ f fd) (cls : Cls K C) (n_days : NoAttr K C "days") (c_day_at : Cal P w K mg base 1 "day_at" (spDayAt K)) : FnOk P w K mg base CX0 2 f fd P_DayRule___call__ (spCallR C K) := by
  refine F.ok sc_DayRule___call__ (fun vs H Q E h => ?_) (fun cdv A outer s H vs Q E hr h => ?_)
  · obtain ⟨n, ds, d, rfl, _⟩ := h
    rfl
  · obtain ⟨n, ds, d, rfl, ⟨dx, t, hn, hT⟩, hp, hl, q⟩ := h
    refine ⟨_, PSs.nox (pss_one (ps_ret (pe_cl c_day_at hr (by decide) (by rfl) (pa_cons (pe_fld (pv 0) rfl) (pa_cons (pv 1) pa_nil))))), ?_⟩
    walk_at "go"
    exact ⟨false, t, ds, d, rfl, SqT.of hT, hp, hl, q⟩
theorem eqv_ints (b : Bool) (ns ms : List Int) : PyData.eqv (intsD b ns) (intsD b ms) = decide (ns = ms) := by
  cases b
  · show PyData.eqv (.tuple _) (.tuple _) = _
    rw [PyData.eqv, PySem.W.ked_eqvAll]
  · show PyData.eqv (.list _) (.list _) = _
    rw [PyData.eqv, PySem.W.ked_eqvAll]
def spEqR (C : Addr) (K : PySem.W.Frag) : Sp := fun vs H Q _ => ∃ (n m : Addr) (ds es : List Int), vs = [.ref n, .ref m] ∧ RuleAt C K H n ds ∧ RuleAt C K H m es ∧ Q (.bl (decide (ds = es))) H
theorem ok_eq (F : FnM K "__eq__" "DayRule.__eq__" s_DayRule___eq__ f fd) (isC : C8.InsC K C) (m_isinstance : mg "isinstance" = none) (g_DayRule : mg "DayRule" = some (.ref C)) (cls : Cls K C) (n_days : NoAttr K C "days") : FnOk P w K mg base CX0 1 f fd P_DayRule___eq__ (spEqR C K) := by
  refine F.ok sc_DayRule___eq__ (fun vs H Q E h => ?_) (fun cdv A outer s H vs Q E hr h => ?_)
  · obtain ⟨n, m, ds, es, rfl, _⟩ := h
    rfl
  · obtain ⟨n, m, ds, es, rfl, ⟨dx, t, hn, hT⟩, ⟨dy, u, hm, hU⟩, q⟩ := h
    refine ⟨_, PSs.nox (pss_one (ps_ret (pe_and (pe_callB (C8.call_isC isC) (by rfl) m_isinstance (by decide +kernel) (pa_cons (pv 1) (pa_cons (pe_glob (by rfl) g_DayRule relv_ref) pa_nil))) (pe_one (pe_cmpR (op_eqD hr.units) (pe_fld (pv 0) rfl) (pe_fld (pv 1) rfl) (nomark _)))))), ?_⟩
    walk_at "go"
    refine ⟨m, dy, _, rfl, hm, ?_⟩
    walk_at "go"
    refine ⟨_, _, dp_ints (b := false) (SqT.of hT), dp_ints (b := false) (SqT.of hU), shaped_ints _ _, shaped_ints _ _, ?_⟩
    rw [eqv_ints]
    exact q
end
end Z
set_option pp.maxSteps 700
set_option Elab.async false
set_option linter.all false
set_option maxRecDepth 100000
set_option maxHeartbeats 4000000
namespace Z
open Dy
open PySem PySem.Spec PyProof.Rows L2
open C8 (pss_cut tCut)
local macro_rules | `(tactic| walk_at "num") => `(tactic| first | rfl | omega | decide | exact Nat.le_of_lt (small1000 (by simp)) | exact ⟨by omega, by omega⟩ | exact ⟨by omega, by omega, by omega⟩ | exact ⟨by decide, by decide, by decide⟩ | exact Or.inl ⟨by omega, by omega⟩ | exact Or.inr ⟨by omega, by omega⟩)
local macro_rules | `(tactic| walk_at "go") => `(tactic| repeat (first | refine ⟨_, rfl, ?_⟩ | refine ⟨_, _, rfl, rfl, ?_⟩ | refine ⟨_, _, rfl, ?_⟩ | (refine ⟨_, _, rfl, rfl, ?_, ?_⟩; focus walk_at "num") | refine Or.inl ⟨_, rfl, ?_⟩ | refine ⟨_, _, _, _, rfl, rfl, (by assumption), (by rfl), ?_⟩ | refine ⟨_, _, _, _, _, rfl, (by assumption), (by assumption), (by assumption), (by rfl), ?_⟩ | refine ⟨rfl, ?_⟩ | (refine And.intro ?_ ?_; focus walk_at "num")))
abbrev s_whole : Stmt := topS 27
abbrev N_whole : List Str := ["_law_found"]
abbrev P_whole : List Str := ["_law_found"]
theorem sc_whole : FnScope N_whole P_whole (defScope s_whole) := ⟨rfl, rfl, rfl, by decide +kernel, rfl, by decide +kernel, by decide +kernel⟩
abbrev s_value : Stmt := topS 28
abbrev N_value : List Str := ["_law_days", "_law_day", "_law_turns"]
abbrev P_value : List Str := ["_law_days", "_law_day"]
theorem sc_value : FnScope N_value P_value (defScope s_value) := ⟨rfl, rfl, rfl, by decide +kernel, rfl, by decide +kernel, by decide +kernel⟩
abbrev s_repeats : Stmt := topS 29
abbrev N_repeats : List Str := ["_law_days", "_law_size", "_law_day"]
abbrev P_repeats : List Str := ["_law_days", "_law_size"]
theorem sc_repeats : FnScope N_repeats P_repeats (defScope s_repeats) := ⟨rfl, rfl, rfl, by decide +kernel, rfl, by decide +kernel, by decide +kernel⟩
abbrev s_least : Stmt := topS 30
abbrev N_least : List Str := ["_law_days", "_law_size"]
abbrev P_least : List Str := ["_law_days"]
theorem sc_least : FnScope N_least P_least (defScope s_least) := ⟨rfl, rfl, rfl, by decide +kernel, rfl, by decide +kernel, by decide +kernel⟩
section
variable {P : Program} {w : World} {K : PySem.W.Frag} {mg : Str → Option Value} {base : Heap} {f C CD : Addr} {fd : FuncData}
def spWhole : Sp := fun vs H Q _ => ∃ x : Int, vs = [.int x] ∧ Q (.bl true) H
theorem ok_whole (F : FnP K "_law_whole" s_whole f fd) (m_isinstance : mg "isinstance" = none) (m_int : mg "int" = none) (m_bool : mg "bool" = none) : FnOk P w K mg base CX0 1 f fd P_whole spWhole := by
  refine F.ok sc_whole (fun vs H Q E h => ?_) (fun cdv A outer s H vs Q E hr h => ?_)
  · obtain ⟨x, rfl, _⟩ := h
    rfl
  · obtain ⟨x, rfl, q⟩ := h
    refine ⟨_, PSs.nox (pss_one (ps_ret (pe_and (pe_callB call_isi (by rfl) m_isinstance (by decide +kernel) (pa_cons (pv 0) (pa_cons (pe_bltn (v := .ty "int") (by rfl) m_int (by decide +kernel) rfl) pa_nil))) (pe_one (pe_not (pe_callB call_isi (by rfl) m_isinstance (by decide +kernel) (pa_cons (pv 0) (pa_cons (pe_bltn (v := .ty "bool") (by rfl) m_bool (by decide +kernel) rfl) pa_nil)))))))), ?_⟩
    walk_at "go"
    refine isi (c := "int") (b := true) (.int x) (by decide +kernel) ?_
    walk_at "go"
    refine isi (c := "bool") (b := false) (.int x) (by decide +kernel) ?_
    walk_at "go"
    exact q
theorem okh_whole (F : FnP K "_law_whole" s_whole f fd) (m_isinstance : mg "isinstance" = none) (m_int : mg "int" = none) (m_bool : mg "bool" = none) : L2H.FnH P w K mg base CX0 1 f fd P_whole spWhole := by
  refine fund_okH F sc_whole (fun vs H Q E h => ?_) (fun cdv A outer s H vs Q E p hp hr h => ?_)
  · obtain ⟨x, rfl, _⟩ := h
    rfl
  · obtain ⟨x, rfl, q⟩ := h
    refine ⟨_, (pss_one (ps_ret (pe_and (pe_callB call_isi (by rfl) m_isinstance (by decide +kernel) (pa_cons (pv 0) (pa_cons (pe_bltn (v := .ty "int") (by rfl) m_int (by decide +kernel) rfl) pa_nil))) (pe_one (pe_not (pe_callB call_isi (by rfl) m_isinstance (by decide +kernel) (pa_cons (pv 0) (pa_cons (pe_bltn (v := .ty "bool") (by rfl) m_bool (by decide +kernel) rfl) pa_nil)))))))), ?_⟩
    walk_at "go"
    refine isi (c := "int") (b := true) (.int x) (by decide +kernel) ?_
    walk_at "go"
    refine isi (c := "bool") (b := false) (.int x) (by decide +kernel) ?_
    walk_at "go"
    exact q
def spValue (K : PySem.W.Frag) : Sp := fun vs H Q _ => ∃ (a : Addr) (ds : List Int) (d : Int), vs = [.ref a, .int d] ∧ SqL K H a (ds.map V.int) ∧ 0 < ds.length ∧ ds.length ≤ 100000 ∧ Q (.int (dv ds d)) H
theorem ok_value (F : FnP K "_law_value" s_value f fd) (m_len : mg "len" = none) (m_int : mg "int" = none) : FnOk P w K mg base CX0 1 f fd P_value (spValue K) := by
  refine F.ok sc_value (fun vs H Q E h => ?_) (fun cdv A outer s H vs Q E hr h => ?_)
  · obtain ⟨a, ds, d, rfl, _⟩ := h
    rfl
  · obtain ⟨a, ds, d, rfl, hS, hp, hl, q⟩ := h
    refine ⟨_, PSs.nox (pss_cons (ps_set (i := 2) sc_value.nd rfl (by first | exact .inl rfl | exact .inr rfl) (pe_op op_fdiv (pe_callTy call_int1 (by rfl) m_int (by decide +kernel) (pa_cons (pv 1) pa_nil)) (pe_callB call_len_seq (by rfl) m_len PySem.boot_len (pa_cons (pv 0) pa_nil))))
      (pss_one (ps_ret (pe_op op_add (pe_ix ix_list (pv 0) (pe_op op_mod (pe_callTy call_int1 (by rfl) m_int (by decide +kernel) (pa_cons (pv 1) pa_nil)) (pe_callB call_len_seq (by rfl) m_len PySem.boot_len (pa_cons (pv 0) pa_nil))) (fun _ _ => rfl)) (pe_op op_mul (pe_callB call_len_seq (by rfl) m_len PySem.boot_len (pa_cons (pv 0) pa_nil)) (pv 2)))))), ?_⟩
    have hn : 0 < (ds.length : Int) := by omega
    have h1 := Int.emod_nonneg d (show (ds.length : Int) ≠ 0 by omega)
    have h2 := Int.emod_lt_of_pos d hn
    have e : atI (ds.map V.int) (d % (ds.length : Int)) = some (.int (ds.getD (d % (ds.length : Int)).toNat 0)) := by
      have hj : (d % (ds.length : Int)).toNat < ds.length := by omega
      rw [← Int.toNat_of_nonneg h1, List.getD_eq_getElem?_getD, Int.toNat_natCast, List.getElem?_eq_getElem hj]
      exact at_map (List.getElem?_eq_getElem hj)
    walk_at "go"
    refine ⟨a, _, rfl, .inl hS, ?_⟩
    rw [List.length_map]
    walk_at "go"
    refine ⟨a, _, rfl, .inl hS, ?_⟩
    rw [List.length_map]
    walk_at "go"
    refine ⟨a, _, _, _, rfl, rfl, hS, e, ?_⟩
    walk_at "go"
    refine ⟨a, _, rfl, .inl hS, ?_⟩
    rw [List.length_map]
    walk_at "go"
    exact q
def spRepeats (K : PySem.W.Frag) : Sp := fun vs H Q _ => ∃ (a : Addr) (ds : List Int) (s : Nat), vs = [.ref a, .int (s : Int)] ∧ SqL K H a (ds.map V.int) ∧ 0 < ds.length ∧ ds.length ≤ 100000 ∧ (Per (dv ds) (s : Int) → Q (.bl true) H) ∧ (¬ Per (dv ds) (s : Int) → Q (.bl false) H)
theorem ok_repeats (F : FnP K "_law_repeats" s_repeats f fd) (m_len : mg "len" = none) (m_range : mg "range" = none) (c_value : Cal P w K mg base 1 "_law_value" (spValue K)) : FnOk P w K mg base CX0 2 f fd P_repeats (spRepeats K) := by
  refine F.ok sc_repeats (fun vs H Q E h => ?_) (fun cdv A outer s H vs Q E hr h => ?_)
  · obtain ⟨a, ds, s, rfl, _⟩ := h
    rfl
  · obtain ⟨a, ds, sz, rfl, hS, hp, hl, q1, q2⟩ := h
    refine ⟨_, PSs.nox (pss_cons (ps_for PassesOwn.never rfl (pi_range1 (by rfl) m_range (pa_cons (pe_callB call_len_seq (by rfl) m_len PySem.boot_len (pa_cons (pv 0) pa_nil)) pa_nil)) (pg_name (i := 2) sc_repeats.nd rfl (by first | exact .inl rfl | exact .inr rfl))
        (pss_one (ps_if (pt_cmpR op_ne (pe_cl c_value hr (by decide) (by rfl) (pa_cons (pv 0) (pa_cons (pe_op op_add (pv 2) (pv 1)) pa_nil))) (pe_op op_add (pe_cl c_value hr (by decide) (by rfl) (pa_cons (pv 0) (pa_cons (pv 2) pa_nil))) (pv 1)) (nomark _)) (pss_one (ps_ret pe_bl)) pss_nil)))
      (pss_one (ps_ret pe_bl))), ?_⟩
    walk_at "go"
    refine ⟨a, _, rfl, .inl hS, ?_⟩
    rw [List.length_map]
    walk_at "go"
    refine for_gen (n := ds.length) (fun i σ H1 => H1 = H ∧ (∀ k : Nat, k < i → dv ds ((k : Int) + sz) = dv ds (k : Int) + sz) ∧ ∃ v2 : Option V, σ = [some (.ref a), some (.int (sz : Int)), v2]) ⟨rfl, (fun k hk => by omega), none, rfl⟩ ?_ ?_ ?_ ?_
    · intro i σ H1 hi _
      show i < ((ds.length : Int)).toNat
      omega
    · intro σ H1 _
      show ((ds.length : Int)).toNat ≤ ds.length
      omega
    · rintro i σ H1 x H' hi ⟨rfl, hk, v2, rfl⟩ ⟨rfl, rfl⟩
      walk_at "go"
      refine ⟨a, ds, _, rfl, hS, hp, hl, ?_⟩
      walk_at "go"
      refine ⟨a, ds, _, rfl, hS, hp, hl, ?_⟩
      walk_at "go"
      refine ite2 (fun e => ?_) (fun e => ?_)
      · walk_at "go"
        refine q2 (fun z => ?_)
        have := z (0 + (i : Int))
        rw [this] at e
        simp at e
      · refine ⟨rfl, fun k hk2 => ?_, _, rfl⟩
        by_cases c : k = i
        · subst c
          have e : dv ds (0 + (k : Int) + sz) = dv ds (0 + (k : Int)) + sz := by simpa using e
          rw [Int.zero_add] at e
          exact e
        · exact hk k (by omega)
    · rintro σ H1 ⟨rfl, hk, v2, rfl⟩
      walk_at "go"
      exact q1 (per_of hp (of_dv hp).per (fun i hi => hk i hi))
def spLeastL (K : PySem.W.Frag) : Sp := fun vs H Q _ => ∃ (a : Addr) (ds : List Int), vs = [.ref a] ∧ SqL K H a (ds.map V.int) ∧ 0 < ds.length ∧ ds.length ≤ 100000 ∧ ∀ p : Nat, Lp (dv ds) p → Q (.int (p : Int)) H
theorem ok_least (F : FnP K "_law_least" s_least f fd) (m_len : mg "len" = none) (m_range : mg "range" = none) (c_repeats : Cal P w K mg base 2 "_law_repeats" (spRepeats K)) : FnOk P w K mg base CX0 3 f fd P_least (spLeastL K) := by
  refine F.ok sc_least (fun vs H Q E h => ?_) (fun cdv A outer s H vs Q E hr h => ?_)
  · obtain ⟨a, ds, rfl, _⟩ := h
    rfl
  · obtain ⟨a, ds, rfl, hS, hp, hl, q⟩ := h
    refine ⟨_, PSs.nox (pss_cons (ps_for PassesOwn.never rfl (pi_range2 (by rfl) m_range (pa_cons pe_int (pa_cons (pe_callB call_len_seq (by rfl) m_len PySem.boot_len (pa_cons (pv 0) pa_nil)) pa_nil))) (pg_name (i := 1) sc_least.nd rfl (by first | exact .inl rfl | exact .inr rfl))
        (pss_one (ps_if (pt_val (pe_cl c_repeats hr (by decide) (by rfl) (pa_cons (pv 0) (pa_cons (pv 1) pa_nil)))) (pss_one (ps_ret (pv 1))) pss_nil)))
      (pss_one (ps_ret (pe_callB call_len_seq (by rfl) m_len PySem.boot_len (pa_cons (pv 0) pa_nil))))), ?_⟩
    have of := of_dv hp
    walk_at "go"
    refine ⟨a, _, rfl, .inl hS, ?_⟩
    rw [List.length_map]
    walk_at "go"
    refine for_gen (n := ds.length - 1) (fun i σ H1 => H1 = H ∧ (∀ k, 0 < k → k < 1 + i → ¬ Per (dv ds) (k : Int)) ∧ ∃ v1 : Option V, σ = [some (.ref a), v1]) ⟨rfl, (fun k h1 h2 => by omega), none, rfl⟩ ?_ ?_ ?_ ?_
    · intro i σ H1 hi _
      show i < ((ds.length : Int) - 1).toNat
      omega
    · intro σ H1 _
      show ((ds.length : Int) - 1).toNat ≤ ds.length - 1
      omega
    · rintro i σ H1 x H' hi ⟨rfl, hk, v1, rfl⟩ ⟨rfl, rfl⟩
      walk_at "go"
      refine ⟨a, ds, 1 + i, (by rw [show ((1 + i : Nat) : Int) = 1 + (i : Int) by omega]; rfl), hS, hp, hl, fun z => ?_, fun z => ?_⟩
      · walk_at "go"
        have w := q (1 + i) (first_lp (fun k => Per (dv ds) (k : Int)) hp of.per (fun k _ h2 => h2) (fun p l _ => l.per) (by omega) (by omega) hk (fun _ => z))
        rw [show ((1 + i : Nat) : Int) = 1 + (i : Int) by omega] at w
        exact w
      · walk_at "go"
        refine ⟨fun k h1 h2 => ?_, _, rfl⟩
        by_cases c : k = 1 + i
        · rw [c]
          exact z
        · exact hk k h1 (by omega)
    · rintro σ H1 ⟨rfl, hk, v1, rfl⟩
      walk_at "go"
      refine ⟨a, _, rfl, .inl hS, ?_⟩
      rw [List.length_map]
      refine q _ (first_lp (fun k => Per (dv ds) (k : Int)) hp of.per (fun k _ h2 => h2) (fun p l _ => l.per) hp (Nat.le_refl _) (fun k h1 h2 => hk k h1 (by omega)) (fun z => by omega))
end
end Z
set_option pp.maxSteps 700
set_option Elab.async false
set_option linter.all false
set_option maxRecDepth 100000
set_option maxHeartbeats 4000000
namespace Z
open Dy
open PySem PySem.Spec PyProof.Rows L2
open C8 (pss_cut tCut)
local macro_rules | `(tactic| walk_at "num") => `(tactic| first | rfl | omega | decide | exact Nat.le_of_lt (small1000 (by simp)) | exact ⟨by omega, by omega⟩ | exact ⟨by omega, by omega, by omega⟩ | exact ⟨by decide, by decide, by decide⟩ | exact Or.inl ⟨by omega, by omega⟩ | exact Or.inr ⟨by omega, by omega⟩)
local macro_rules | `(tactic| walk_at "go") => `(tactic| repeat (first | refine ⟨_, rfl, ?_⟩ | refine ⟨_, _, rfl, rfl, ?_⟩ | refine ⟨_, _, rfl, ?_⟩ | (refine ⟨_, _, rfl, rfl, ?_, ?_⟩; focus walk_at "num") | refine Or.inl ⟨_, rfl, ?_⟩ | refine ⟨_, _, _, _, rfl, rfl, (by assumption), (by rfl), ?_⟩ | refine ⟨_, _, _, _, _, rfl, (by assumption), (by assumption), (by assumption), (by rfl), ?_⟩ | refine ⟨rfl, ?_⟩ | (refine And.intro ?_ ?_; focus walk_at "num")))
abbrev s_common_divisor : Stmt := topS 2
abbrev N_common_divisor : List Str := ["numbers", "found", "number"]
abbrev P_common_divisor : List Str := ["numbers"]
theorem sc_common_divisor : FnScope N_common_divisor P_common_divisor (defScope s_common_divisor) := ⟨rfl, rfl, rfl, by decide +kernel, rfl, by decide +kernel, by decide +kernel⟩
section
variable {P : Program} {w : World} {K : PySem.W.Frag} {mg : Str → Option Value} {base : Heap} {f C CD : Addr} {fd : FuncData}
/-! ### common_divisor -/
def spGcd (K : PySem.W.Frag) : Sp := fun vs H Q _ => ∃ (a : Addr) (x y : Nat), vs = [.ref a] ∧ SqL K H a (([(x : Int), (y : Int)] : List Int).map V.int) ∧ Q (.int (Nat.gcd x y : Nat)) H
theorem ok_common_divisor (F : FnP K "common_divisor" s_common_divisor f fd) (m_abs : mg "abs" = none) : FnOk P w K mg base CX0 1 f fd P_common_divisor (spGcd K) := by
  refine F.ok sc_common_divisor (fun vs H Q E h => ?_) (fun cdv A outer s H vs Q E hr h => ?_)
  · obtain ⟨a, x, y, rfl, _⟩ := h
    rfl
  · obtain ⟨a, x, y, rfl, hS, q⟩ := h
    refine ⟨_, PSs.nox (pss_cons (ps_set (i := 1) sc_common_divisor.nd rfl (by first | exact .inl rfl | exact .inr rfl) pe_int)
      (pss_cons (ps_for PassesOwn.never rfl (pi_list (pv 0)) (pg_name (i := 2) sc_common_divisor.nd rfl (by first | exact .inl rfl | exact .inr rfl))
        (pss_cons (ps_set (i := 2) sc_common_divisor.nd rfl (by first | exact .inl rfl | exact .inr rfl) (pe_callB call_abs (by rfl) m_abs (by decide +kernel) (pa_cons (pv 2) pa_nil)))
      (pss_one (ps_while PassesOwn.never (pt_cmpR op_ne (pv 2) pe_int (nomark _))
        (pss_one (ps_par (i := 1) (j := 2) (by rfl) sc_common_divisor.nd rfl rfl (by decide) rfl rfl (pa_cons (pv 2) (pa_cons (pe_op op_mod (pv 1) (pv 2)) pa_nil)) (by rfl)))))))
      (pss_one (ps_ret (pv 1))))), ?_⟩
    walk_at "go"
    refine ⟨⟨_, hS⟩, ?_⟩
    refine for_lst hS (fun k σ H1 => H1 = H ∧ ∃ (g : Nat) (v2 : Option V), g = ([x, y].take k).foldl Nat.gcd 0 ∧ σ = [some (.ref a), some (.int (g : Int)), v2]) ⟨rfl, 0, none, rfl, rfl⟩ (fun k σ H1 p => by rw [p.1]; exact Same.refl _) ?_ ?_
    · rintro k z σ H1 ez ⟨rfl, g, v2, eg, rfl⟩
      obtain ⟨n, rfl, en⟩ : ∃ n : Nat, z = (n : Int) ∧ ([x, y] : List Nat)[k]? = some n := by
        match k, ez with
        | 0, ez => exact ⟨x, (Option.some.inj ez).symm, rfl⟩
        | 1, ez => exact ⟨y, (Option.some.inj ez).symm, rfl⟩
      have e1 : ([x, y].take (k + 1)).foldl Nat.gcd 0 = Nat.gcd g n := by
        match k, en with
        | 0, en => cases en; rw [eg]; rfl
        | 1, en => cases en; rw [eg]; rfl
      have eab : (if (n : Int) < 0 then -(n : Int) else (n : Int)) = n := if_neg (by omega)
      walk_at "go"
      refine ⟨fun m σ' H' => H' = H1 ∧ ∃ u v : Nat, m = v ∧ Nat.gcd u v = Nat.gcd g n ∧ σ' = [some (.ref a), some (.int (u : Int)), some (.int (v : Int))], ⟨n, rfl, g, n, rfl, rfl, ?_⟩, ?_⟩
      · show [some (V.ref a), some (V.int (g : Int)), some (V.int (if (n : Int) < 0 then -(n : Int) else (n : Int)))] = _
        rw [eab]
      rintro m σ' H' ⟨rfl, u, v, rfl, eg2, rfl⟩
      walk_at "go"
      refine ite2 (fun c => ?_) (fun c => ?_)
      · have hv : 0 < m := by
          rcases Nat.eq_zero_or_pos m with z | z
          · rw [z] at c
            cases c
          · exact z
        refine ⟨fun σ' H2 => H2 = H' ∧ ∃ u v : Nat, v < m ∧ Nat.gcd u v = Nat.gcd g n ∧ σ' = [some (.ref a), some (.int (u : Int)), some (.int (v : Int))], fun σ' H2 z => ?_, ?_⟩
        · obtain ⟨rfl, u2, v2, h1, h2, rfl⟩ := z
          exact ⟨v2, h1, rfl, u2, v2, rfl, h2, rfl⟩
        walk_at "go"
        refine ⟨m, u % m, Nat.mod_lt _ hv, ?_, rfl⟩
        rw [← eg2, Nat.gcd_comm m, ← Nat.gcd_rec, Nat.gcd_comm]
      · have hv : m = 0 := by
          apply Decidable.byContradiction
          intro z
          refine c ?_
          show (!decide (V.int (m : Int) = V.int 0)) = true
          rw [decide_eq_false (fun h => by have := V.int.inj h; omega)]
          rfl
        subst hv
        rw [Nat.gcd_zero_right] at eg2
        refine ⟨rfl, u, _, ?_, rfl⟩
        rw [eg2, e1]
    · rintro σ H1 ⟨rfl, g, v2, eg, rfl⟩
      walk_at "go"
      have e1 : g = Nat.gcd x y := by
        rw [eg]
        show Nat.gcd (Nat.gcd 0 x) y = _
        rw [Nat.gcd_zero_left]
      rw [e1]
      exact q
end
end Z
set_option pp.maxSteps 700
set_option Elab.async false
set_option linter.all false
set_option maxRecDepth 100000
set_option maxHeartbeats 4000000
namespace Z
open Dy
open PySem PySem.Spec PyProof.Rows L2
open C8 (pss_cut tCut)
local macro_rules | `(tactic| walk_at "num") => `(tactic| first | rfl | omega | decide | exact Nat.le_of_lt (small1000 (by simp)) | exact ⟨by omega, by omega⟩ | exact ⟨by omega, by omega, by omega⟩ | exact ⟨by decide, by decide, by decide⟩ | exact Or.inl ⟨by omega, by omega⟩ | exact Or.inr ⟨by omega, by omega⟩)
local macro_rules | `(tactic| walk_at "go") => `(tactic| repeat (first | refine ⟨_, rfl, ?_⟩ | refine ⟨_, _, rfl, rfl, ?_⟩ | refine ⟨_, _, rfl, ?_⟩ | (refine ⟨_, _, rfl, rfl, ?_, ?_⟩; focus walk_at "num") | refine Or.inl ⟨_, rfl, ?_⟩ | refine ⟨_, _, _, _, rfl, rfl, (by assumption), (by rfl), ?_⟩ | refine ⟨_, _, _, _, _, rfl, (by assumption), (by assumption), (by assumption), (by rfl), ?_⟩ | refine ⟨rfl, ?_⟩ | (refine And.intro ?_ ?_; focus walk_at "num")))
/-- a rule and its function; all periods divide M -/
structure RuleF (C : Addr) (K : PySem.W.Frag) (H : Hp) (n : Addr) (M : Nat) (F : Int → Int) : Prop where
  ex : ∃ ds, RuleAt C K H n ds ∧ Of F ds ∧ Lp F ds.length
  per : Per F (M : Int)
  mon : Mon F
theorem RuleF.mono {C : Addr} {K : PySem.W.Frag} {H H' : Hp} {n : Addr} {M : Nat} {F : Int → Int} (s : Same H H') (h : RuleF C K H n M F) : RuleF C K H' n M F := by
  obtain ⟨⟨ds, a, b⟩, c, d⟩ := h
  exact ⟨⟨ds, a.mono s, b⟩, c, d⟩
theorem RuleF.at_ {C : Addr} {K : PySem.W.Frag} {H : Hp} {n : Addr} {M : Nat} {F : Int → Int} (h : RuleF C K H n M F) : ∃ dx fs, H n = some (.ins C dx fs) := by
  obtain ⟨⟨ds, ⟨dx, t, e, _⟩, _⟩, _⟩ := h
  exact ⟨_, _, e⟩
theorem RuleF.congr {C : Addr} {K : PySem.W.Frag} {H : Hp} {n : Addr} {M : Nat} {F G : Int → Int} (h : RuleF C K H n M F) (e : ∀ d, F d = G d) : RuleF C K H n M G := by
  have : F = G := funext e
  rw [← this]
  exact h
section
variable {P : Program} {w : World} {K : PySem.W.Frag} {mg : Str → Option Value} {base : Heap} {f C CD CC : Addr} {fd : FuncData}
/-- DayRule(es), es the values of F -/
theorem mk_rule {b : Bool} {n dx l : Addr} {H : Hp} {es : List Int} {F : Int → Int} {M : Nat} {R : Hp → Prop} {E : XK} (n1 : H n = none) (n2 : H dx = none) (n3 : dx ≠ n) (hA : H l = some (bO b (es.map V.int))) (hl : es.length ≤ 100000) (o : Of F es) (mo : Mon F) (pm : Per F (M : Int)) (q : ∀ H', Same H H' → RuleF C K H' n M F → R H') :
    spInit C CD K [.ref n, .ref l] (upd (upd H dx (.own n)) n (.ins C dx [])) (fun v H2 => v = .non ∧ R H2) E := by
  have g := Gd.of o mo
  have s1 : Same H (upd (upd H dx (.own n)) n (.ins C dx [])) := Z.Same.mut (same_new n2) n1
  refine ⟨b, n, dx, l, es, rfl, upd_same, s1 _ _ hA, hl, fun hf p H1 sb lp r => ⟨rfl, ?_⟩, fun i hf => by rw [g.fault] at hf; cases hf⟩
  have e : dv es = F := funext o.dv
  rw [e] at lp
  obtain ⟨h1, h2, h3⟩ := o.take lp
  exact q H1 (fun c x h => sb c x (ne_of_none h n1) (s1 _ _ h)) ⟨⟨_, r, h3, by rw [h2]; exact lp⟩, pm, mo⟩
theorem lp_le {F : Int → Int} {p M : Nat} (l : Lp F p) (h0 : 0 < M) (h : Per F (M : Int)) : p ≤ M := l.least M h0 h
theorem lcm_le {F G : Int → Int} {p q M : Nat} (l : Lp F p) (k : Lp G q) (h0 : 0 < M) (h : Per F (M : Int)) (h2 : Per G (M : Int)) : 0 < Nat.lcm p q ∧ Nat.lcm p q ≤ M ∧ Per F ((Nat.lcm p q : Nat) : Int) ∧ Per G ((Nat.lcm p q : Nat) : Int) := by
  have d1 := Nat.dvd_of_mod_eq_zero (l.dvd h)
  have d2 := Nat.dvd_of_mod_eq_zero (k.dvd h2)
  exact ⟨Nat.lcm_pos l.pos k.pos, Nat.le_of_dvd h0 (Nat.lcm_dvd d1 d2), l.per.dvd (Nat.mod_eq_zero_of_dvd (Nat.dvd_lcm_left p q)), k.per.dvd (Nat.mod_eq_zero_of_dvd (Nat.dvd_lcm_right p q))⟩
end
end Z
set_option Elab.async false
set_option linter.all false
namespace Dy
/-! ### the adjoints exist -/
theorem search {F : Int → Int} {l : Int} : ∀ (n : Nat) (lo : Int), F lo ≤ l → l < F (lo + n) → ∃ x, F x ≤ l ∧ l < F (x + 1)
  | 0, lo, h1, h2 => by
    rw [show lo + ((0 : Nat) : Int) = lo by simp] at h2
    omega
  | n + 1, lo, h1, h2 => by
    by_cases c : F (lo + 1) ≤ l
    · refine search n (lo + 1) c ?_
      rw [show lo + 1 + (n : Int) = lo + ((n + 1 : Nat) : Int) by omega]
      exact h2
    · exact ⟨lo, h1, by omega⟩
theorem lat_at {F : Int → Int} {n : Nat} (hn : 0 < n) (m : Mon F) (p : Per F (n : Int)) (l : Int) : ∃ x, ∀ d, F d ≤ l ↔ d ≤ x := by
  have nn : (1 : Int) ≤ n := by omega
  have h1 := p.imul (-((F 0 - l).toNat : Int)) 0
  have h2 := p.imul ((l - F 0).toNat + 1 : Int) 0
  have e1 : ((F 0 - l).toNat : Int) * 1 ≤ ((F 0 - l).toNat : Int) * n := Int.mul_le_mul_of_nonneg_left nn (by omega)
  have e2 : ((l - F 0).toNat + 1 : Int) * 1 ≤ ((l - F 0).toNat + 1 : Int) * n := Int.mul_le_mul_of_nonneg_left nn (by omega)
  rw [Int.neg_mul] at h1
  generalize ((F 0 - l).toNat : Int) * n = a at *
  generalize ((l - F 0).toNat + 1 : Int) * n = b at *
  obtain ⟨x, x1, x2⟩ := search (F := F) (l := l) (b + a).toNat (0 + -a) (by omega) (by
    rw [show (0 + -a) + ((b + a).toNat : Int) = 0 + b by omega]
    omega)
  refine ⟨x, fun d => ⟨fun h => ?_, fun h => ?_⟩⟩
  · apply Decidable.byContradiction
    intro z
    have := m.le (show x + 1 ≤ d by omega)
    omega
  · have := m.le h
    omega
theorem lat_ex {F : Int → Int} {n : Nat} (hn : 0 < n) (m : Mon F) (p : Per F (n : Int)) : ∃ L, Lat F L := by
  refine ⟨fun l => Classical.choose (lat_at hn m p l), fun d l => ?_⟩
  exact Classical.choose_spec (lat_at hn m p l) d
/-- the greatest day of the rest r at which F is at most 0 -/
def gr (ds : List Int) (r : Nat) : Int := r + (ds.length : Int) * ((0 - ds.getD r 0) / (ds.length : Int))
theorem gr_le {F L : Int → Int} {ds : List Int} (o : Of F ds) (a : Lat F L) (r : Nat) (hr : r < ds.length) : gr ds r ≤ L 0 := by
  refine (a _ _).mp ?_
  have hn : (0 : Int) < ds.length := by have := o.pos; omega
  have h := o.per.imul ((0 - ds.getD r 0) / (ds.length : Int)) (r : Int)
  have h2 := Int.emod_add_mul_ediv (0 - ds.getD r 0) (ds.length : Int)
  have h3 := Int.emod_nonneg (0 - ds.getD r 0) (show (ds.length : Int) ≠ 0 by omega)
  unfold gr
  rw [Int.mul_comm, h, ← o.at_ r hr, Int.mul_comm]
  omega
theorem gr_top {F L : Int → Int} {ds : List Int} (o : Of F ds) (a : Lat F L) : ∃ r, r < ds.length ∧ gr ds r = L 0 := by
  have hn : (0 : Int) < ds.length := by have := o.pos; omega
  have h1 := Int.emod_nonneg (L 0) (show (ds.length : Int) ≠ 0 by omega)
  have h2 := Int.emod_lt_of_pos (L 0) hn
  have h3 := Int.emod_add_mul_ediv (L 0) (ds.length : Int)
  have hr : (L 0 % (ds.length : Int)).toNat < ds.length := by omega
  refine ⟨(L 0 % (ds.length : Int)).toNat, hr, ?_⟩
  have hle := gr_le o a _ hr
  have hF : F (L 0) ≤ 0 := (a _ _).mpr (Int.le_refl _)
  have h4 := o.per.imul (L 0 / (ds.length : Int)) ((L 0 % (ds.length : Int)).toNat : Int)
  rw [← o.at_ _ hr, Int.toNat_of_nonneg h1, Int.mul_comm, h3] at h4
  have h5 : L 0 / (ds.length : Int) ≤ (0 - ds.getD (L 0 % (ds.length : Int)).toNat 0) / (ds.length : Int) := by
    rw [Int.le_ediv_iff_mul_le hn, Int.mul_comm]
    omega
  have h6 := Int.mul_le_mul_of_nonneg_left h5 (show (0 : Int) ≤ ds.length by omega)
  unfold gr at hle ⊢
  rw [Int.toNat_of_nonneg h1] at hle ⊢
  omega
end Dy
set_option pp.maxSteps 700
set_option Elab.async false
set_option linter.all false
set_option maxRecDepth 100000
set_option maxHeartbeats 4000000
namespace Z
open Dy
open PySem PySem.Spec PyProof.Rows L2
open C8 (pss_cut tCut)
local macro_rules | `(tactic| walk_at "num") => `(tactic| first | rfl | omega | decide | exact Nat.le_of_lt (small1000 (by simp)) | exact ⟨by omega, by omega⟩ | exact ⟨by omega, by omega, by omega⟩ | exact ⟨by decide, by decide, by decide⟩ | exact Or.inl ⟨by omega, by omega⟩ | exact Or.inr ⟨by omega, by omega⟩)
local macro_rules | `(tactic| walk_at "go") => `(tactic| repeat (first | refine ⟨_, rfl, ?_⟩ | refine ⟨_, _, rfl, rfl, ?_⟩ | refine ⟨_, _, rfl, ?_⟩ | (refine ⟨_, _, rfl, rfl, ?_, ?_⟩; focus walk_at "num") | refine Or.inl ⟨_, rfl, ?_⟩ | refine ⟨_, _, _, _, rfl, rfl, (by assumption), (by rfl), ?_⟩ | refine ⟨_, _, _, _, _, rfl, (by assumption), (by assumption), (by assumption), (by rfl), ?_⟩ | refine ⟨rfl, ?_⟩ | (refine And.intro ?_ ?_; focus walk_at "num")))
abbrev s_latest_days : Stmt := topS 13
abbrev N_latest_days : List Str := ["days", "many", "at", "last", "found", "limit"]
abbrev P_latest_days : List Str := ["days"]
theorem sc_latest_days : FnScope N_latest_days P_latest_days (defScope s_latest_days) := ⟨rfl, rfl, rfl, by decide +kernel, rfl, by decide +kernel, by decide +kernel⟩
abbrev s_DayRule_soonest : Stmt := inClass (topS 15) 9
abbrev N_DayRule_soonest : List Str := ["self", "last", "day"]
abbrev P_DayRule_soonest : List Str := ["self"]
theorem sc_DayRule_soonest : FnScope N_DayRule_soonest P_DayRule_soonest (defScope s_DayRule_soonest) := ⟨rfl, rfl, rfl, by decide +kernel, rfl, by decide +kernel, by decide +kernel⟩
theorem RuleF.at2 {C : Addr} {K : PySem.W.Frag} {H : Hp} {n : Addr} {M : Nat} {F : Int → Int} (h : RuleF C K H n M F) : ∃ dx t, H n = some (.ins C dx [("days", .ref t)]) := by
  obtain ⟨⟨ds, ⟨dx, t, e, _⟩, _⟩, _⟩ := h
  exact ⟨_, _, e⟩
section
variable {P : Program} {w : World} {K : PySem.W.Frag} {mg : Str → Option Value} {base : Heap} {f C CD CC : Addr} {fd : FuncData}
/-! ### latest_days -/
def spLatD (K : PySem.W.Frag) : Sp := fun vs H Q _ => ∃ (a : Addr) (ds : List Int) (F L : Int → Int), vs = [.ref a] ∧ SqT K H a (ds.map V.int) ∧ Of F ds ∧ ds.length ≤ 30000 ∧ Lat F L ∧
  ∀ (D : Addr) H' (es : List Int), Same H H' → H' D = some (.lst (es.map V.int)) → Of L es → es.length = ds.length → Q (.ref D) H'
theorem ok_latest_days (F : FnP K "latest_days" s_latest_days f fd) (m_len : mg "len" = none) (m_range : mg "range" = none) (m_max : mg "max" = none) (c_day_at : Cal P w K mg base 1 "day_at" (spDayAt K)) : FnOk P w K mg base CX0 2 f fd P_latest_days (spLatD K) := by
  refine F.ok sc_latest_days (fun vs H Q E h => ?_) (fun cdv A outer s H vs Q E hr h => ?_)
  · obtain ⟨a, ds, F, L, rfl, _⟩ := h
    rfl
  · obtain ⟨a, ds, F, L, rfl, hS, o, hl, lat, q⟩ := h
    have hp := o.pos
    refine ⟨_, PSs.nox (pss_cons (ps_set (i := 1) sc_latest_days.nd rfl (by first | exact .inl rfl | exact .inr rfl) (pe_callB call_len_seq (by rfl) m_len PySem.boot_len (pa_cons (pv 0) pa_nil)))
      (pss_cons (ps_set (i := 3) sc_latest_days.nd rfl (by first | exact .inl rfl | exact .inr rfl) (pe_callB (cr_max rfl) (by rfl) m_max (by decide +kernel) (pa_cons (pe_lc (own := [("at", 2)]) (g := (gName 2)) (tt := tYes) (by rfl) sc_latest_days.nd (pi_range1 (by rfl) m_range (pa_cons (pv 1) pa_nil)) (blkOk_by (own := [("at", 2)]) (N := N_latest_days) (sc := defScope s_latest_days) (by decide +kernel)) (fun _ _ _ _ _ => (pg_name (i := 2) sc_latest_days.nd rfl (by first | exact .inl rfl | exact .inr rfl))) (fun _ _ _ _ _ => pts_nil) (fun _ _ _ _ _ => (pe_op op_add (pv 2) (pe_op op_mul (pv 1) (pe_op op_fdiv (pe_op op_sub pe_int (pe_ix (ix_tup_K (K := K) rfl) (pv 0) (pv 2) (fun _ _ => rfl))) (pv 1)))))) pa_nil)))
      (pss_cons (ps_set (i := 4) sc_latest_days.nd rfl (by first | exact .inl rfl | exact .inr rfl) (pe_lst pa_nil))
      (pss_cons (ps_for PassesOwn.never rfl (pi_range1 (by rfl) m_range (pa_cons (pv 1) pa_nil)) (pg_name (i := 5) sc_latest_days.nd rfl (by first | exact .inl rfl | exact .inr rfl))
        (pss_cons (ps_while PassesOwn.never (pt_cmpR op_le (pe_cl c_day_at hr (by decide) (by rfl) (pa_cons (pv 0) (pa_cons (pe_op op_add (pv 3) pe_int) pa_nil))) (pv 5) (nomark _))
        (pss_one (ps_set (i := 3) sc_latest_days.nd rfl (by first | exact .inl rfl | exact .inr rfl) (pe_op op_add (pv 3) pe_int))))
      (pss_one (ps_expr (pe_bm PySem.F.plainAttrs_list PySem.F.slot_list_append PySem.F.type_list_append mt_append (pv 4) (pa_cons (pv 3) pa_nil))))))
      (pss_one (ps_ret (pv 4))))))), ?_⟩
    walk_at "go"
    refine ⟨a, _, rfl, .inr (hS), ?_⟩
    rw [List.length_map]
    walk_at "go"
    intro B nB
    refine lc_rng (K := K) (n := ds.length) (fun k => gr ds k) (by omega) nB (fun _ => rfl) ?_ ?_
    · intro k H1 Q1 hk s1 q1
      walk_at "go"
      refine rd_atT (Z.Same.sqT s1 hS) (by omega) (by omega) ?_
      walk_at "go"
      rw [show (0 + (k : Int)).toNat = k by omega]
      have z := q1 _ (Same.refl _)
      unfold gr at z
      rw [show (0 + (k : Int)) = (k : Int) by omega]
      exact z
    intro H1 s1 eB
    walk_at "go"
    refine ⟨B, _, rfl, SqL.of eB, by rw [List.length_map, List.length_range]; exact hp, fun m hm hx => ?_⟩
    have em : m = L 0 := by
      obtain ⟨r, hr, er⟩ := gr_top o lat
      have h1 := hx _ (List.mem_map.mpr ⟨r, List.mem_range.mpr hr, rfl⟩)
      obtain ⟨r2, hr2, er2⟩ := List.mem_map.mp hm
      have h2 := gr_le o lat r2 (List.mem_range.mp hr2)
      have er2 : gr ds r2 = m := er2
      have h1 : gr ds r ≤ m := h1
      omega
    subst em
    walk_at "go"
    intro D nD
    generalize eH_ : upd H1 D _ = H2
    have s2 : Same H1 H2 := by rw [← eH_]; exact same_new nD
    have eD : H2 D = some (.lst []) := by rw [← eH_]; exact upd_same
    clear eH_
    have nHD : H D = none := by
      cases e : H D with
      | none => rfl
      | some ob =>
        rw [s1 _ _ e] at nD
        cases nD
    walk_at "go"
    refine for_gen (n := ds.length) (fun i σ H3 => Same H H3 ∧ H3 D = some (.lst (((List.range i).map fun (k : Nat) => L (k : Int)).map V.int)) ∧ ∃ v2 v5 : Option V, σ = [some (.ref a), some (.int (ds.length : Int)), v2, some (.int (L ((i - 1 : Nat) : Int))), some (.ref D), v5]) ⟨s1.trans s2, eD, none, none, rfl⟩ ?_ ?_ ?_ ?_
    · intro i σ H3 hi _
      show i < (ds.length : Int).toNat
      omega
    · intro σ H3 _
      show (ds.length : Int).toNat ≤ ds.length
      omega
    · rintro i σ H3 x H' hi ⟨s3, eD3, v2, v5, rfl⟩ ⟨rfl, rfl⟩
      have hS3 := Z.Same.sqT s3 hS
      have l0 : L ((i - 1 : Nat) : Int) ≤ L (i : Int) := lat.mon.le (by omega)
      refine ⟨fun m σ' H4 => H4 = H' ∧ ∃ y : Int, m = (L (i : Int) - y).toNat ∧ y ≤ L (i : Int) ∧ σ' = [some (.ref a), some (.int (ds.length : Int)), v2, some (.int y), some (.ref D), some (.int (0 + (i : Int)))], ⟨_, rfl, _, rfl, l0, rfl⟩, ?_⟩
      rintro m σ' H4 ⟨rfl, y, em, hy, rfl⟩
      walk_at "go"
      refine ⟨false, a, ds, y + 1, rfl, hS3, hp, by omega, ?_⟩
      rw [o.dv]
      walk_at "go"
      have key := lat (y + 1) (i : Int)
      refine ite2 (fun e => ?_) (fun e => ?_)
      · have e := of_decide_eq_true e
        have h1 := key.mp (by omega)
        refine ⟨fun σ' H5 => H5 = H4 ∧ ∃ y : Int, (L (i : Int) - y).toNat < m ∧ y ≤ L (i : Int) ∧ σ' = [some (.ref a), some (.int (ds.length : Int)), v2, some (.int y), some (.ref D), some (.int (0 + (i : Int)))], fun σ' H5 z => ?_, ?_⟩
        · obtain ⟨rfl, y2, g1, g2, rfl⟩ := z
          exact ⟨_, g1, rfl, y2, rfl, g2, rfl⟩
        walk_at "go"
        exact ⟨y + 1, by omega, h1, rfl⟩
      · have e : ¬ F (y + 1) ≤ 0 + (i : Int) := fun z => e (decide_eq_true z)
        have h1 : ¬ y + 1 ≤ L (i : Int) := fun z => e (by have := key.mpr z; omega)
        obtain rfl : y = L (i : Int) := by omega
        walk_at "go"
        refine ⟨.inl ⟨rfl, _, .inl (.inl eD3)⟩, ?_⟩
        walk_at "go"
        refine ⟨_, _, _, rfl, rfl, eD3, ?_, ?_⟩
        · rw [List.length_map, List.length_map, List.length_range]
          exact Nat.lt_of_lt_of_le hi (Nat.le_trans hl (by decide))
        refine ⟨Z.Same.mut s3 nHD, ?_, _, _, rfl⟩
        rw [upd_same, List.range_succ, List.map_append, List.map_append]
        rfl
    · rintro σ H3 ⟨s3, eD3, v2, v5, rfl⟩
      walk_at "go"
      exact q D H3 _ s3 eD3 (of_range hp (lat.per o.per)) (by rw [List.length_map, List.length_range])
/-! ### latest, soonest -/
def spSoonest (C : Addr) (K : PySem.W.Frag) : Sp := fun vs H Q _ => ∃ (n : Addr) (M : Nat) (F : Int → Int), vs = [.ref n] ∧ RuleF C K H n M F ∧ 0 < M ∧ M ≤ 30000 ∧ ∀ (r : Addr) H' (S : Int → Int), Same H H' → Soo F S → RuleF C K H' r M S → Q (.ref r) H'
theorem ok_soonest (F : FnM K "soonest" "DayRule.soonest" s_DayRule_soonest f fd) (m_len : mg "len" = none) (m_range : mg "range" = none) (cls : Cls K C) (n_days : NoAttr K C "days") (c_day_at : Cal P w K mg base 1 "day_at" (spDayAt K)) (c_latest_days : Cal P w K mg base 2 "latest_days" (spLatD K)) (k_DayRule : MakX P w K mg base 4 "DayRule" C (spInit C CD K)) : FnOk P w K mg base CX0 6 f fd P_DayRule_soonest (spSoonest C K) := by
  refine F.ok sc_DayRule_soonest (fun vs H Q E h => ?_) (fun cdv A outer s H vs Q E hr h => ?_)
  · obtain ⟨n, M, F, rfl, _⟩ := h
    rfl
  · obtain ⟨n, M, F, rfl, hF, m0, m1, q⟩ := h
    refine ⟨_, PSs.nox (pss_cons (ps_set (i := 1) sc_DayRule_soonest.nd rfl (by first | exact .inl rfl | exact .inr rfl) (pe_cl c_latest_days hr (by decide) (by rfl) (pa_cons (pe_fld (pv 0) rfl) pa_nil)))
      (pss_one (ps_ret (pe_mkE k_DayRule (fun _ => passS0) hr (by decide) (by rfl) (pa_cons (pe_lc (own := [("day", 2)]) (g := (gName 2)) (tt := tYes) (by rfl) sc_DayRule_soonest.nd (pi_range1 (by rfl) m_range (pa_cons (pe_callB call_len_seq (by rfl) m_len PySem.boot_len (pa_cons (pv 1) pa_nil)) pa_nil)) (blkOk_by (own := [("day", 2)]) (N := N_DayRule_soonest) (sc := defScope s_DayRule_soonest) (by decide +kernel)) (fun _ _ _ _ _ => (pg_name (i := 2) sc_DayRule_soonest.nd rfl (by first | exact .inl rfl | exact .inr rfl))) (fun _ _ _ _ _ => pts_nil) (fun _ _ _ _ _ => (pe_op op_add (pe_cl c_day_at hr (by decide) (by rfl) (pa_cons (pv 1) (pa_cons (pe_op op_sub (pv 2) pe_int) pa_nil))) pe_int))) pa_nil))))), ?_⟩
    obtain ⟨⟨ds, rN, oF, lF⟩, pF, moF⟩ := hF
    have lds := lp_le lF m0 pF
    obtain ⟨dx, t, a1, a2⟩ := rN
    obtain ⟨L, lat⟩ := lat_ex m0 moF pF
    walk_at "go"
    refine ⟨t, ds, F, L, rfl, SqT.of a2, oF, by omega, lat, fun D H1 es s1 eD oD lD => ?_⟩
    walk_at "go"
    refine ⟨D, _, rfl, .inl (SqL.of eD), ?_⟩
    rw [List.length_map]
    walk_at "go"
    intro B nB
    refine lc_rng (K := K) (n := es.length) (fun k => L ((k : Int) - 1) + 1) (by omega) nB (fun _ => rfl) ?_ ?_
    · intro k H3 Q1 hk s3 q1
      walk_at "go"
      refine ⟨true, D, es, _, rfl, SqL.of (s3 _ _ eD), oD.pos, by omega, ?_⟩
      walk_at "go"
      rw [oD.dv, Int.zero_add]
      exact q1 _ (Same.refl _)
    intro H3 s3 eB
    have soo := lat.soo
    walk_at "go"
    intro r dz n1 n2 n3
    refine mk_rule (b := true) n1 n2 n3 eB ?_ (of_range (F := fun l => L (l - 1) + 1) oD.pos (soo.per (by rw [lD]; exact oF.per))) soo.mon (soo.per pF) (fun H4 s4 rF => ?_)
    · rw [List.length_map, List.length_range]
      omega
    exact q r H4 _ (s1.trans (s3.trans s4)) soo rF
end
end Z
set_option linter.all false
namespace Dl
/-! ### bounds that raise days: no program -/
structure Fc where
  s : Nat
  t : Nat
  F : Int → Int
abbrev Dy := Nat → Int
def rz (x : Dy) (f : Fc) : Dy := fun e => if e = f.t ∧ x f.t < f.F (x f.s) then f.F (x f.s) else x e
def sw (fs : List Fc) (x : Dy) : Dy := fs.foldl rz x
def swn (fs : List Fc) : Nat → Dy → Dy
  | 0, x => x
  | n + 1, x => sw fs (swn fs n x)
theorem rz_le (x : Dy) (f : Fc) (e : Nat) : x e ≤ rz x f e := by
  unfold rz
  split
  · rename_i h
    rw [h.1]
    omega
  · omega
theorem rz_no {x : Dy} {f : Fc} (h : ¬ x f.t < f.F (x f.s)) : rz x f = x := funext fun e => if_neg fun z => h z.2
theorem rz_yes {x : Dy} {f : Fc} (h : x f.t < f.F (x f.s)) : rz x f = fun e => if e = f.t then f.F (x f.s) else x e := funext fun e => by
  unfold rz
  by_cases c : e = f.t
  · rw [if_pos ⟨c, h⟩, if_pos c]
  · rw [if_neg (fun z => c z.1), if_neg c]
theorem sw_le : ∀ (fs : List Fc) (x : Dy) (e : Nat), x e ≤ sw fs x e
  | [], x, e => Int.le_refl _
  | f :: r, x, e => Int.le_trans (rz_le x f e) (sw_le r (rz x f) e)
theorem sw_fix : ∀ {fs : List Fc} {x : Dy}, sw fs x = x → ∀ f ∈ fs, f.F (x f.s) ≤ x f.t
  | [], _, _, f, m => absurd m (by simp)
  | g :: r, x, h, f, m => by
    have h : sw r (rz x g) = x := h
    have e : rz x g = x := funext fun e => by
      have a := rz_le x g e
      have b := sw_le r (rz x g) e
      rw [h] at b
      omega
    rcases List.mem_cons.mp m with rfl | m
    · have := congrFun e f.t
      unfold rz at this
      by_cases c : x f.t < f.F (x f.s)
      · rw [if_pos ⟨rfl, c⟩] at this
        omega
      · omega
    · rw [e] at h
      exact sw_fix h f m
theorem swn_stay {fs : List Fc} {x : Dy} {n : Nat} (h : swn fs (n + 1) x = swn fs n x) : ∀ k, swn fs (n + k) x = swn fs n x
  | 0 => rfl
  | k + 1 => by
    show sw fs (swn fs (n + k) x) = _
    rw [swn_stay h k]
    exact h
/-! ### the raises -/
structure Rc where
  e : Nat
  d : Int
  bp : Option (Nat × Nat)
  c : Nat
structure St (many : Nat) (fs : List Fc) (start : Int) (rs : List Rc) (nw : Nat → Nat) (x : Dy) : Prop where
  base : ∀ e, e < many → rs[e]? = some ⟨e, start, none, 0⟩
  new : ∀ e, e < many → ∃ r, rs[nw e]? = some r ∧ r.e = e ∧ r.d = x e
  link : ∀ (i : Nat) r, rs[i]? = some r → many ≤ i → ∃ b p f q, r.bp = some (b, p) ∧ p < i ∧ fs[b]? = some f ∧ rs[p]? = some q ∧ q.e = f.s ∧ r.e = f.t ∧ r.d = f.F q.d ∧ r.c = q.c + 1
  inc : ∀ (i j : Nat) r q, i < j → rs[i]? = some r → rs[j]? = some q → r.e = q.e → r.d < q.d
  top : ∀ (i : Nat) r, rs[i]? = some r → r.e < many ∧ i ≤ nw r.e
theorem get_lt {α : Type} {l : List α} {i : Nat} {a : α} (h : l[i]? = some a) : i < l.length := (List.getElem?_eq_some_iff.mp h).1
theorem get_app {α : Type} {l : List α} {i : Nat} {a b : α} (h : (l ++ [b])[i]? = some a) : (i < l.length ∧ l[i]? = some a) ∨ (i = l.length ∧ a = b) := by
  by_cases c : i < l.length
  · rw [List.getElem?_append_left c] at h
    exact .inl ⟨c, h⟩
  · rw [List.getElem?_append_right (by omega)] at h
    have e : i = l.length := by
      have := get_lt h
      simp at this
      omega
    rw [e, Nat.sub_self] at h
    exact .inr ⟨e, (Option.some.inj h).symm⟩
theorem get_old {α : Type} {l : List α} {i : Nat} {a b : α} (h : l[i]? = some a) : (l ++ [b])[i]? = some a := by rw [List.getElem?_append_left (get_lt h)]; exact h
theorem get_new {α : Type} (l : List α) (b : α) : (l ++ [b])[l.length]? = some b := by rw [List.getElem?_append_right (Nat.le_refl _), Nat.sub_self]; rfl
theorem St.len {many : Nat} {fs : List Fc} {start : Int} {rs : List Rc} {nw : Nat → Nat} {x : Dy} (s : St many fs start rs nw x) : many ≤ rs.length := by
  cases many with
  | zero => exact Nat.zero_le _
  | succ m => exact get_lt (s.base m (Nat.lt_succ_self m))
theorem St.step {many : Nat} {fs : List Fc} {start : Int} {rs : List Rc} {nw : Nat → Nat} {x : Dy} (s : St many fs start rs nw x) {b : Nat} {f : Fc} (hb : fs[b]? = some f) (hs : f.s < many) (ht : f.t < many) (hx : x f.t < f.F (x f.s)) {q : Rc} (hq : rs[nw f.s]? = some q) :
    St many fs start (rs ++ [⟨f.t, f.F (x f.s), some (b, nw f.s), q.c + 1⟩]) (fun e => if e = f.t then rs.length else nw e) (rz x f) := by
  rw [rz_yes hx]
  obtain ⟨q', hq', qe, qd⟩ := s.new f.s hs
  rw [hq] at hq'
  cases hq'
  refine ⟨fun e he => get_old (s.base e he), fun e he => ?_, fun i r hi hm => ?_, fun i j r q' hij hi hj he => ?_, fun i r hi => ?_⟩
  · by_cases c : e = f.t
    · rw [if_pos c]
      exact ⟨_, get_new _ _, c.symm, by rw [if_pos c]⟩
    · rw [if_neg c]
      obtain ⟨r, h1, h2, h3⟩ := s.new e he
      exact ⟨r, get_old h1, h2, by rw [if_neg c]; exact h3⟩
  · rcases get_app hi with ⟨c, h⟩ | ⟨rfl, rfl⟩
    · obtain ⟨b', p, f', q', h1, h2, h3, h4, h5⟩ := s.link i r h hm
      exact ⟨b', p, f', q', h1, h2, h3, get_old h4, h5⟩
    · exact ⟨b, nw f.s, f, q, rfl, get_lt hq, hb, get_old hq, qe, rfl, by rw [qd], rfl⟩
  · rcases get_app hj with ⟨c, h⟩ | ⟨rfl, rfl⟩
    · rcases get_app hi with ⟨c2, h2⟩ | ⟨e2, _⟩
      · exact s.inc i j r q' hij h2 h he
      · omega
    · rcases get_app hi with ⟨c2, h2⟩ | ⟨e2, _⟩
      · have he : r.e = f.t := he
        obtain ⟨r2, g1, g2, g3⟩ := s.new f.t ht
        have tp := (s.top i r h2).2
        rw [he] at tp
        have : r.d ≤ x f.t := by
          by_cases c3 : i = nw f.t
          · rw [c3, g1] at h2
            cases h2
            omega
          · have := s.inc i (nw f.t) r r2 (by omega) h2 g1 (by rw [he, g2])
            omega
        show r.d < f.F (x f.s)
        omega
      · omega
  · rcases get_app hi with ⟨c, h⟩ | ⟨rfl, rfl⟩
    · obtain ⟨a, b'⟩ := s.top i r h
      refine ⟨a, ?_⟩
      by_cases c2 : r.e = f.t
      · rw [if_pos c2]
        omega
      · rw [if_neg c2]
        exact b'
    · exact ⟨ht, by dsimp only; rw [if_pos rfl]; exact Nat.le_refl _⟩
/-! ### chains grow with the laps -/
def Sta (fs : List Fc) (rs : List Rc) (nw : Nat → Nat) (x : Dy) (T j : Nat) : Prop := ∀ (k : Nat) f, fs[k]? = some f → x f.t < f.F (x f.s) → ∃ r, rs[nw f.s]? = some r ∧ (if k < j then T + 1 else T) ≤ r.c
theorem Sta.next {fs : List Fc} {rs : List Rc} {nw : Nat → Nat} {x : Dy} {T : Nat} (h : Sta fs rs nw x T fs.length) : Sta fs rs nw x (T + 1) 0 := fun k f hk hx => by
  obtain ⟨r, h1, h2⟩ := h k f hk hx
  rw [if_pos (get_lt hk)] at h2
  exact ⟨r, h1, by rw [if_neg (Nat.not_lt_zero _)]; exact h2⟩
theorem Sta.skip {fs : List Fc} {rs : List Rc} {nw : Nat → Nat} {x : Dy} {T j : Nat} {f : Fc} (h : Sta fs rs nw x T j) (hj : fs[j]? = some f) (no : ¬ x f.t < f.F (x f.s)) : Sta fs rs nw x T (j + 1) := fun k g hk hx => by
  obtain ⟨r, h1, h2⟩ := h k g hk hx
  refine ⟨r, h1, ?_⟩
  by_cases c : k = j
  · subst c
    rw [hj] at hk
    cases hk
    exact absurd hx no
  · by_cases c2 : k < j
    · rw [if_pos (by omega)]
      rw [if_pos c2] at h2
      exact h2
    · rw [if_neg (by omega)]
      rw [if_neg c2] at h2
      exact h2
theorem Sta.step {fs : List Fc} {rs : List Rc} {nw : Nat → Nat} {x : Dy} {T j : Nat} {f : Fc} {q : Rc} {d : Int} {bp : Option (Nat × Nat)} (h : Sta fs rs nw x T j) (hj : fs[j]? = some f) (hx : x f.t < f.F (x f.s)) (hq : rs[nw f.s]? = some q) :
    Sta fs (rs ++ [⟨f.t, d, bp, q.c + 1⟩]) (fun e => if e = f.t then rs.length else nw e) (rz x f) T (j + 1) ∧ T + 1 ≤ q.c + 1 := by
  have qT : T ≤ q.c := by
    obtain ⟨r, h1, h2⟩ := h j f hj hx
    rw [hq] at h1
    cases h1
    rw [if_neg (Nat.lt_irrefl _)] at h2
    exact h2
  refine ⟨fun k g hk hg => ?_, by omega⟩
  rw [rz_yes hx] at hg
  dsimp only at hg
  by_cases c : g.s = f.t
  · refine ⟨_, by show _ = _; dsimp only; rw [if_pos c]; exact get_new _ _, ?_⟩
    show _ ≤ q.c + 1
    split <;> omega
  · rw [if_neg c] at hg
    have hg2 : x g.t < g.F (x g.s) := by
      by_cases c2 : g.t = f.t
      · rw [if_pos c2] at hg
        rw [c2]
        omega
      · rw [if_neg c2] at hg
        exact hg
    obtain ⟨r, h1, h2⟩ := h k g hk hg2
    refine ⟨r, by dsimp only; rw [if_neg c]; exact get_old h1, ?_⟩
    by_cases c3 : k = j
    · subst c3
      rw [hj] at hk
      cases hk
      rw [if_pos rfl] at hg
      exact absurd hg (Int.lt_irrefl _)
    · by_cases c4 : k < j
      · rw [if_pos (by omega)]
        rw [if_pos c4] at h2
        exact h2
      · rw [if_neg (by omega)]
        rw [if_neg c4] at h2
        exact h2
/-! ### ways with no ring are short -/
theorem dec_far : ∀ (r : List Int) (x : Int), (x :: r).Pairwise (· > ·) → ∃ z ∈ x :: r, (r.length : Int) ≤ x - z
  | [], x, _ => ⟨x, List.mem_cons_self, by simp⟩
  | y :: r, x, h => by
    have h2 := List.pairwise_cons.mp h
    obtain ⟨z, hz, e⟩ := dec_far r y h2.2
    refine ⟨z, List.mem_cons_of_mem _ hz, ?_⟩
    have := h2.1 y List.mem_cons_self
    rw [List.length_cons]
    omega
theorem dec_len {l : List Int} {P : Nat} (h : l.Pairwise (· > ·)) (w : ∀ a ∈ l, ∀ b ∈ l, a - b < (P : Int)) : l.length ≤ P := by
  cases l with
  | nil => exact Nat.zero_le _
  | cons x r =>
    obtain ⟨z, hz, e⟩ := dec_far r x h
    have := w x List.mem_cons_self z hz
    rw [List.length_cons]
    omega
theorem filt_len {α : Type} (p : α → Bool) : ∀ l : List α, l.length = (l.filter p).length + (l.filter fun a => !p a).length
  | [] => rfl
  | x :: r => by
    have ih := filt_len p r
    cases e : p x
    · rw [List.filter_cons_of_neg (by rw [e]; decide), List.filter_cons_of_pos (by rw [e]; rfl), List.length_cons, List.length_cons]
      omega
    · rw [List.filter_cons_of_pos e, List.filter_cons_of_neg (by rw [e]; decide), List.length_cons, List.length_cons]
      omega
theorem two {P : Nat} (p0 : 0 < P) : ∀ {L : List Int}, L.Pairwise (fun a b => a > b ∧ a - b < (P : Int)) → ∀ u ∈ L, ∀ v ∈ L, u - v < (P : Int)
  | [], _, u, hu, _, _ => absurd hu (by simp)
  | c :: R, hp, u, hu, v, hv => by
    have hp2 := List.pairwise_cons.mp hp
    rcases List.mem_cons.mp hu with eu | hu
    · rcases List.mem_cons.mp hv with ev | hv
      · rw [eu, ev]
        omega
      · rw [eu]
        exact (hp2.1 v hv).2
    · rcases List.mem_cons.mp hv with ev | hv
      · have := hp2.1 u hu
        rw [ev]
        omega
      · exact two p0 hp2.2 u hu v hv
theorem few {P : Nat} (p0 : 0 < P) : ∀ (m : Nat) (l : List (Nat × Int)), (∀ a ∈ l, a.1 < m) → l.Pairwise (fun a b => a.1 = b.1 → a.2 > b.2 ∧ a.2 - b.2 < (P : Int)) → l.length ≤ m * P
  | 0, l, h, _ => by
    cases l with
    | nil => exact Nat.zero_le _
    | cons a r => exact absurd (h a List.mem_cons_self) (Nat.not_lt_zero _)
  | m + 1, l, h, w => by
    have a := few p0 m (l.filter fun a => decide (a.1 < m)) (fun a ha => of_decide_eq_true (List.mem_filter.mp ha).2) (w.filter _)
    have b : ((l.filter fun a => !decide (a.1 < m)).map (·.2)).length ≤ P := by
      have key : ∀ a ∈ l.filter fun a => !decide (a.1 < m), a.1 = m := fun a ha => by
        obtain ⟨h1, h2⟩ := List.mem_filter.mp ha
        have := h a h1
        simp at h2
        omega
      have pw : ((l.filter fun a => !decide (a.1 < m)).map (·.2)).Pairwise (fun a b => a > b ∧ a - b < (P : Int)) :=
        List.pairwise_map.mpr ((w.filter _).imp_of_mem fun {a b} ha hb z => z ((key a ha).trans (key b hb).symm))
      exact dec_len (pw.imp fun z => z.1) (two p0 pw)
    rw [List.length_map] at b
    have c := filt_len (fun a : Nat × Int => decide (a.1 < m)) l
    rw [Nat.add_mul, Nat.one_mul]
    omega
/-- the last of l at the same event as its first -/
theorem last_at (e : Nat) : ∀ (l : List (Nat × Int)), (∃ a ∈ l, a.1 = e) → ∃ pre y post, l = pre ++ y :: post ∧ y.1 = e ∧ ∀ b ∈ post, b.1 ≠ e
  | [], h => by obtain ⟨a, m, _⟩ := h; exact absurd m (by simp)
  | x :: r, h => by
    by_cases c : ∃ a ∈ r, a.1 = e
    · obtain ⟨pre, y, post, e1, e2, e3⟩ := last_at e r c
      exact ⟨x :: pre, y, post, by rw [e1]; rfl, e2, e3⟩
    · have hx : x.1 = e := by
        obtain ⟨a, m, ea⟩ := h
        rcases List.mem_cons.mp m with rfl | m
        · exact ea
        · exact absurd ⟨a, m, ea⟩ c
      exact ⟨[], x, r, rfl, hx, fun b m z => c ⟨b, m, z⟩⟩
/-- along a way whose steps gain at most G, with no ring of gain P, days rise by less than (P + G) for each event -/
theorem near {P : Nat} (p0 : 0 < P) {G : Int} (g0 : 0 ≤ G) : ∀ (A : List Nat) (l : List (Nat × Int)) (a : Nat × Int) (r : List (Nat × Int)), l = a :: r → (∀ b ∈ l, b.1 ∈ A) →
    (∀ (i : Nat) b c, l[i]? = some b → l[i + 1]? = some c → c.2 ≤ b.2 + G) → l.Pairwise (fun b c => b.1 = c.1 → c.2 < b.2 + (P : Int)) → ∀ z ∈ l.getLast?, z.2 ≤ a.2 + (A.length : Int) * (P + G) := by
  intro A
  induction hA : A.length generalizing A with
  | zero =>
    intro l a r e m _ _ z hz
    have : A = [] := List.eq_nil_of_length_eq_zero hA
    have := m a (by rw [e]; exact List.mem_cons_self)
    simp_all
  | succ n ih =>
    intro l a r e m st pw z hz
    obtain ⟨pre, y, post, e1, e2, e3⟩ := last_at a.1 l ⟨a, by rw [e]; exact List.mem_cons_self, rfl⟩
    have ya : y.2 < a.2 + (P : Int) := by
      cases pre with
      | nil =>
        rw [e] at e1
        have : a = y := by injection e1
        rw [this]
        omega
      | cons b0 pr =>
        rw [e] at e1
        injection e1 with h1 h2
        have pw2 := pw
        rw [e] at pw2
        exact (List.pairwise_cons.mp pw2).1 y (by rw [h2]; simp) e2.symm
    have pg : (0 : Int) ≤ (n : Int) * (P + G) := Int.mul_nonneg (by omega) (by omega)
    have ex : ((n + 1 : Nat) : Int) * ((P : Int) + G) = (n : Int) * (P + G) + (P + G) := by
      rw [Int.natCast_add, Int.add_mul]
      simp
    cases hp : post with
    | nil =>
      rw [hp] at e1
      rw [e1] at hz
      have : z = y := by simpa using hz.symm
      rw [this, ex]
      omega
    | cons b po =>
      have hz2 : z ∈ post.getLast? := by
        rw [e1, hp] at hz
        rw [hp]
        have : (pre ++ y :: b :: po).getLast? = (b :: po).getLast? := by
          rw [show pre ++ y :: b :: po = (pre ++ [y]) ++ (b :: po) by simp]
          rw [List.getLast?_append]
          cases hh : (b :: po).getLast? with
          | none => simp at hh
          | some w => rfl
        rw [this] at hz
        exact hz
      have iy : l[pre.length]? = some y := by rw [e1, List.getElem?_append_right (Nat.le_refl _), Nat.sub_self]; rfl
      have ib : ∀ (i : Nat), l[pre.length + 1 + i]? = post[i]? := fun i => by
        rw [e1, List.getElem?_append_right (by omega), show pre.length + 1 + i - pre.length = i + 1 by omega]
        rfl
      have by_ : b.2 ≤ y.2 + G := st _ y b iy (by have := ib 0; rw [hp] at this; exact this)
      have mA : a.1 ∈ A := m a (by rw [e]; exact List.mem_cons_self)
      have := ih (A.erase a.1) (by rw [List.length_erase_of_mem mA, hA]; rfl) post b po hp (fun c mc => ?_) (fun i c d hc hd => st (pre.length + 1 + i) c d (by rw [ib]; exact hc) (by rw [show pre.length + 1 + i + 1 = pre.length + 1 + (i + 1) by omega, ib]; exact hd)) (by
        rw [e1] at pw
        exact (List.pairwise_cons.mp (List.pairwise_append.mp pw).2.1).2) z hz2
      · rw [ex]
        omega
      · have h1 := m c (by rw [e1]; exact List.mem_append_right _ (List.mem_cons_of_mem _ mc))
        exact (List.mem_erase_of_ne (e3 c mc)).mpr h1
/-! ### back along the raises -/
def par (rs : List Rc) (i : Nat) : Nat := match rs[i]? with
  | some r => match r.bp with
    | some (_, p) => p
    | none => i
  | none => i
def nd (rs : List Rc) (i : Nat) : Nat → Nat
  | 0 => i
  | k + 1 => par rs (nd rs i k)
def rcd (rs : List Rc) (i : Nat) : Rc := rs.getD i ⟨0, 0, none, 0⟩
theorem rcd_of {rs : List Rc} {i : Nat} {r : Rc} (h : rs[i]? = some r) : rcd rs i = r := by
  unfold rcd
  rw [List.getD_eq_getElem?_getD, h]
  rfl
theorem St.low {many : Nat} {fs : List Fc} {start : Int} {rs : List Rc} {nw : Nat → Nat} {x : Dy} (s : St many fs start rs nw x) {i : Nat} {r : Rc} (h : rs[i]? = some r) : (i < many ∧ r.c = 0 ∧ r.bp = none ∧ r.d = start) ∨ (many ≤ i ∧ 0 < r.c) := by
  by_cases c : i < many
  · have := s.base i c
    rw [h] at this
    cases this
    exact .inl ⟨c, rfl, rfl, rfl⟩
  · obtain ⟨_, _, _, q, _, _, _, _, _, _, _, e⟩ := s.link i r h (by omega)
    exact .inr ⟨by omega, by omega⟩
/-- the k-th raise back from i -/
theorem St.node {many : Nat} {fs : List Fc} {start : Int} {rs : List Rc} {nw : Nat → Nat} {x : Dy} (s : St many fs start rs nw x) {i : Nat} {r0 : Rc} (h0 : rs[i]? = some r0) : ∀ k, k ≤ r0.c → ∃ r, rs[nd rs i k]? = some r ∧ r.c + k = r0.c
  | 0, _ => ⟨r0, h0, rfl⟩
  | k + 1, hk => by
    obtain ⟨r, h1, h2⟩ := s.node h0 k (by omega)
    rcases s.low h1 with ⟨_, z, _⟩ | ⟨hm, _⟩
    · omega
    obtain ⟨b, p, f, q, g1, g2, g3, g4, g5, g6, g7, g8⟩ := s.link _ r h1 hm
    refine ⟨q, ?_, by omega⟩
    show rs[par rs (nd rs i k)]? = _
    unfold par
    rw [h1]
    dsimp only
    rw [g1]
    exact g4
theorem St.back {many : Nat} {fs : List Fc} {start : Int} {rs : List Rc} {nw : Nat → Nat} {x : Dy} (s : St many fs start rs nw x) {i : Nat} {r0 : Rc} (h0 : rs[i]? = some r0) {k : Nat} (hk : k < r0.c) :
    ∃ b f r q, rs[nd rs i k]? = some r ∧ rs[nd rs i (k + 1)]? = some q ∧ r.bp = some (b, nd rs i (k + 1)) ∧ nd rs i (k + 1) < nd rs i k ∧ fs[b]? = some f ∧ q.e = f.s ∧ r.e = f.t ∧ r.d = f.F q.d := by
  obtain ⟨r, h1, h2⟩ := s.node h0 k (by omega)
  rcases s.low h1 with ⟨_, z, _⟩ | ⟨hm, _⟩
  · omega
  obtain ⟨b, p, f, q, g1, g2, g3, g4, g5, g6, g7, g8⟩ := s.link _ r h1 hm
  have e : nd rs i (k + 1) = p := by
    show par rs (nd rs i k) = p
    unfold par
    rw [h1]
    dsimp only
    rw [g1]
  exact ⟨b, f, r, q, h1, by rw [e]; exact g4, by rw [e]; exact g1, by rw [e]; exact g2, g3, g5, g6, g7⟩
theorem St.ord {many : Nat} {fs : List Fc} {start : Int} {rs : List Rc} {nw : Nat → Nat} {x : Dy} (s : St many fs start rs nw x) {i : Nat} {r0 : Rc} (h0 : rs[i]? = some r0) {j : Nat} : ∀ k, j < k → k ≤ r0.c → nd rs i k < nd rs i j
  | 0, h, _ => absurd h (Nat.not_lt_zero _)
  | k + 1, h, hk => by
    obtain ⟨_, _, _, _, _, _, _, lt, _⟩ := s.back h0 (k := k) (by omega)
    by_cases c : j = k
    · rw [c]
      exact lt
    · have := s.ord h0 (j := j) k (by omega) (by omega)
      omega
/-- a ring is found before the first raise -/
theorem ring_stop {many : Nat} {fs : List Fc} {start : Int} {rs : List Rc} {nw : Nat → Nat} {x : Dy} (s : St many fs start rs nw x) {i : Nat} {r0 : Rc} (h0 : rs[i]? = some r0) {P : Nat} (p0 : 0 < P) {G : Int} (g0 : 0 ≤ G) (gain : ∀ f ∈ fs, ∀ d, f.F d ≤ d + G)
    (big : start + (many : Int) * (P + G) < r0.d ∨ many * P < r0.c) : ∃ k j, j < k ∧ k ≤ r0.c ∧ (rcd rs (nd rs i j)).e = (rcd rs (nd rs i k)).e ∧ (rcd rs (nd rs i k)).d + (P : Int) ≤ (rcd rs (nd rs i j)).d := Classical.byContradiction fun no => by
  have no : ∀ k j, j < k → k ≤ r0.c → (rcd rs (nd rs i j)).e = (rcd rs (nd rs i k)).e → (rcd rs (nd rs i j)).d < (rcd rs (nd rs i k)).d + (P : Int) := fun k j h1 h2 h3 => Int.not_le.mp fun z => no ⟨k, j, h1, h2, h3, z⟩
  have dec : ∀ k j, j < k → k ≤ r0.c → (rcd rs (nd rs i j)).e = (rcd rs (nd rs i k)).e → (rcd rs (nd rs i k)).d < (rcd rs (nd rs i j)).d := fun k j h1 h2 h3 => by
    obtain ⟨r, a1, _⟩ := s.node h0 k h2
    obtain ⟨q, b1, _⟩ := s.node h0 j (by omega)
    rw [rcd_of a1, rcd_of b1] at h3 ⊢
    exact s.inc _ _ r q (s.ord h0 k h1 h2) a1 b1 h3.symm
  have ev : ∀ k, k ≤ r0.c → (rcd rs (nd rs i k)).e < many := fun k hk => by
    obtain ⟨r, a1, _⟩ := s.node h0 k hk
    rw [rcd_of a1]
    exact (s.top _ r a1).1
  rcases big with big | big
  · -- a day beyond the limit
    have l0 : ∀ m, m ≤ r0.c → ∃ a r, ((List.range (r0.c + 1)).map fun m => ((rcd rs (nd rs i (r0.c - m))).e, (rcd rs (nd rs i (r0.c - m))).d)) = a :: r ∧ a.2 = start := fun _ _ => by
      refine ⟨((rcd rs (nd rs i r0.c)).e, (rcd rs (nd rs i r0.c)).d), _, by rw [List.range_succ_eq_map]; rfl, ?_⟩
      obtain ⟨r, a1, a2⟩ := s.node h0 r0.c (Nat.le_refl _)
      show (rcd rs (nd rs i r0.c)).d = start
      rw [rcd_of a1]
      rcases s.low a1 with ⟨_, _, _, z⟩ | ⟨_, z⟩
      · exact z
      · omega
    obtain ⟨a, r, el, ea⟩ := l0 0 (Nat.zero_le _)
    have at_ : ∀ m, m ≤ r0.c → ((List.range (r0.c + 1)).map fun m => ((rcd rs (nd rs i (r0.c - m))).e, (rcd rs (nd rs i (r0.c - m))).d))[m]? = some ((rcd rs (nd rs i (r0.c - m))).e, (rcd rs (nd rs i (r0.c - m))).d) := fun m hm => by
      rw [List.getElem?_map, List.getElem?_range (by omega)]
      rfl
    have := near p0 g0 (List.range many) _ a r el (fun b hb => ?_) (fun m b c hb hc => ?_) ?_ ((rcd rs (nd rs i 0)).e, (rcd rs (nd rs i 0)).d) ?_
    · rw [List.length_range, ea] at this
      have e0 : rcd rs (nd rs i 0) = r0 := rcd_of h0
      rw [e0] at this
      have this : r0.d ≤ start + (many : Int) * (P + G) := this
      omega
    · obtain ⟨m, hm, rfl⟩ := List.mem_map.mp hb
      exact List.mem_range.mpr (ev _ (by omega))
    · have hl := get_lt hc
      rw [List.length_map, List.length_range] at hl
      rw [at_ m (by omega)] at hb
      rw [at_ (m + 1) (by omega)] at hc
      cases hb
      cases hc
      obtain ⟨b, f, r, q, b1, b2, _, _, b5, _, _, b8⟩ := s.back h0 (k := r0.c - (m + 1)) (by omega)
      rw [show r0.c - (m + 1) + 1 = r0.c - m by omega] at b2
      dsimp only
      rw [rcd_of b1, rcd_of b2, b8]
      exact gain f (List.mem_of_getElem? b5) _
    · rw [List.pairwise_map]
      refine (List.pairwise_lt_range (n := r0.c + 1)).imp_of_mem fun {u v} hu hv h e => ?_
      have hu := List.mem_range.mp hu
      have hv := List.mem_range.mp hv
      exact no (r0.c - u) (r0.c - v) (by omega) (by omega) e.symm
    · rw [List.range_succ, List.map_append, List.getLast?_append]
      simp
  · -- a chain too long
    have := few p0 many ((List.range (r0.c + 1)).map fun k => ((rcd rs (nd rs i k)).e, (rcd rs (nd rs i k)).d)) (fun a ha => ?_) ?_
    · rw [List.length_map, List.length_range] at this
      omega
    · obtain ⟨k, hk, rfl⟩ := List.mem_map.mp ha
      have hk := List.mem_range.mp hk
      exact ev k (by omega)
    · rw [List.pairwise_map]
      refine (List.pairwise_lt_range (n := r0.c + 1)).imp_of_mem fun {u v} hu hv h e => ?_
      have hv := List.mem_range.mp hv
      have a := no v u h (by omega) e
      have b := dec v u h (by omega) e
      exact ⟨b, by dsimp only; omega⟩
/-! ### walks along forces -/
inductive Wk (fs : List Fc) : Nat → Int → List Nat → Nat → Int → Prop
  | nil (e : Nat) (d : Int) : Wk fs e d [] e d
  | cons {b : Nat} {f : Fc} {d : Int} {bs : List Nat} {e' : Nat} {d' : Int} : fs[b]? = some f → Wk fs f.t (f.F d) bs e' d' → Wk fs f.s d (b :: bs) e' d'
def bnd (rs : List Rc) (i k : Nat) : Nat := ((rcd rs (nd rs i k)).bp.map (·.1)).getD 0
def nums (rs : List Rc) (i k : Nat) : List Nat := (List.range k).map (bnd rs i)
theorem nums_succ (rs : List Rc) (i k : Nat) : nums rs i (k + 1) = nums rs i k ++ [bnd rs i k] := by
  unfold nums
  rw [List.range_succ, List.map_append]
  rfl
theorem nums_len (rs : List Rc) (i k : Nat) : (nums rs i k).length = k := by
  unfold nums
  rw [List.length_map, List.length_range]
theorem ring_walk {many : Nat} {fs : List Fc} {start : Int} {rs : List Rc} {nw : Nat → Nat} {x : Dy} (s : St many fs start rs nw x) {i : Nat} {r0 : Rc} (h0 : rs[i]? = some r0) {j : Nat} : ∀ k, j ≤ k → k ≤ r0.c → Wk fs (rcd rs (nd rs i k)).e (rcd rs (nd rs i k)).d (((nums rs i k).drop j).reverse) (rcd rs (nd rs i j)).e (rcd rs (nd rs i j)).d
  | 0, hj, _ => by
    have : j = 0 := by omega
    subst this
    exact .nil _ _
  | k + 1, hj, hk => by
    by_cases c : j = k + 1
    · subst c
      rw [List.drop_of_length_le (by rw [nums_len]; exact Nat.le_refl _)]
      exact .nil _ _
    · have ih := ring_walk s h0 (j := j) k (by omega) (by omega)
      obtain ⟨b, f, r, q, b1, b2, b3, _, b5, b6, b7, b8⟩ := s.back h0 (k := k) (by omega)
      have eb : bnd rs i k = b := by
        unfold bnd
        rw [rcd_of b1, b3]
        rfl
      rw [nums_succ, List.drop_append_of_le_length (by rw [nums_len]; omega), List.reverse_append, eb]
      rw [rcd_of b1, b7, b8] at ih
      rw [rcd_of b2, b6]
      exact .cons b5 ih
/-- a ring: its walk leads from an event back to it, P days later or more -/
def RingOf (fs : List Fc) (P : Nat) (bs : List Nat) (d : Int) : Prop := bs ≠ [] ∧ ∃ e d', Wk fs e d bs e d' ∧ d + (P : Int) ≤ d'
theorem ring_of {many : Nat} {fs : List Fc} {start : Int} {rs : List Rc} {nw : Nat → Nat} {x : Dy} (s : St many fs start rs nw x) {i : Nat} {r0 : Rc} (h0 : rs[i]? = some r0) {j k P : Nat} (hj : j < k) (hk : k ≤ r0.c) (he : (rcd rs (nd rs i j)).e = (rcd rs (nd rs i k)).e) (hd : (rcd rs (nd rs i k)).d + (P : Int) ≤ (rcd rs (nd rs i j)).d) : RingOf fs P (((nums rs i k).drop j).reverse) (rcd rs (nd rs i k)).d := by
  refine ⟨fun z => ?_, (rcd rs (nd rs i k)).e, (rcd rs (nd rs i j)).d, ?_, hd⟩
  · have := congrArg List.length z
    rw [List.length_reverse, List.length_drop, nums_len] at this
    simp at this
    omega
  · have := ring_walk s h0 (j := j) k (by omega) hk
    rw [he] at this
    exact this
/-! ### the way of the raises is determined -/
structure Sx where
  rs : List Rc
  nw : Nat → Nat
  x : Dy
def S1 (fs : List Fc) (s : Sx) (j : Nat) : Sx := match fs[j]? with
  | none => s
  | some f => if s.x f.t < f.F (s.x f.s) then ⟨s.rs ++ [⟨f.t, f.F (s.x f.s), some (j, s.nw f.s), (rcd s.rs (s.nw f.s)).c + 1⟩], fun e => if e = f.t then s.rs.length else s.nw e, rz s.x f⟩ else s
def S0 (many : Nat) (start : Int) : Sx := ⟨(List.range many).map fun e => ⟨e, start, none, 0⟩, fun e => e, fun _ => start⟩
def Sn (fs : List Fc) (many : Nat) (start : Int) : Nat → Sx
  | 0 => S0 many start
  | n + 1 => S1 fs (Sn fs many start n) (n % fs.length)
theorem S1_pre (fs : List Fc) (s : Sx) (j : Nat) : s.rs <+: (S1 fs s j).rs := by
  unfold S1
  split
  · exact List.prefix_refl _
  · split
    · exact List.prefix_append _ _
    · exact List.prefix_refl _
theorem Sn_pre (fs : List Fc) (many : Nat) (start : Int) (n : Nat) : ∀ k, (Sn fs many start n).rs <+: (Sn fs many start (n + k)).rs
  | 0 => List.prefix_refl _
  | k + 1 => (Sn_pre fs many start n k).trans (S1_pre _ _ _)
theorem Sn_le (fs : List Fc) (many : Nat) (start : Int) {n m : Nat} (h : n ≤ m) : (Sn fs many start n).rs <+: (Sn fs many start m).rs := by
  obtain ⟨k, rfl⟩ := Nat.exists_eq_add_of_le h
  exact Sn_pre fs many start n k
def Byd (limit : Int) (most : Nat) (r : Rc) : Prop := limit < r.d ∨ most < r.c
structure Rn (fs : List Fc) (many : Nat) (start limit : Int) (most n : Nat) (rs : List Rc) (nw : Nat → Nat) (x : Dy) : Prop where
  e : (⟨rs, nw, x⟩ : Sx) = Sn fs many start n
  no : ∀ q ∈ rs, ¬ Byd limit most q
theorem Rn.base {fs : List Fc} {many : Nat} {start limit : Int} {most : Nat} (h : start ≤ limit) : Rn fs many start limit most 0 ((List.range many).map fun e => ⟨e, start, none, 0⟩) (fun e => e) (fun _ => start) := by
  refine ⟨rfl, fun q hq => ?_⟩
  obtain ⟨e, _, rfl⟩ := List.mem_map.mp hq
  rintro (z | z)
  · have z : limit < start := z
    omega
  · exact absurd z (Nat.not_lt_zero _)
theorem Rn.same {fs : List Fc} {many : Nat} {start limit : Int} {most n : Nat} {rs : List Rc} {nw : Nat → Nat} {x : Dy} (h : Rn fs many start limit most n rs nw x) {j : Nat} (ej : n % fs.length = j) {f : Fc} (hf : fs[j]? = some f) (c : ¬ x f.t < f.F (x f.s)) : Rn fs many start limit most (n + 1) rs nw x := by
  refine ⟨?_, h.no⟩
  show _ = S1 _ _ _
  rw [← h.e, ej]
  unfold S1
  rw [hf]
  exact (if_neg c).symm
theorem Rn.raise {fs : List Fc} {many : Nat} {start limit : Int} {most n : Nat} {rs : List Rc} {nw : Nat → Nat} {x : Dy} (h : Rn fs many start limit most n rs nw x) {j : Nat} (ej : n % fs.length = j) {f : Fc} (hf : fs[j]? = some f) (c : x f.t < f.F (x f.s)) {q : Rc} (hq : rs[nw f.s]? = some q) :
    (⟨rs ++ [⟨f.t, f.F (x f.s), some (j, nw f.s), q.c + 1⟩], fun e => if e = f.t then rs.length else nw e, rz x f⟩ : Sx) = Sn fs many start (n + 1) := by
  show _ = S1 _ _ _
  rw [← h.e, ej]
  unfold S1
  rw [hf]
  dsimp only
  rw [if_pos c, rcd_of hq]
theorem Rn.more {fs : List Fc} {many : Nat} {start limit : Int} {most n : Nat} {rs : List Rc} {nw nw' : Nat → Nat} {x x' : Dy} (h : Rn fs many start limit most n rs nw x) {r : Rc} (e : (⟨rs ++ [r], nw', x'⟩ : Sx) = Sn fs many start (n + 1)) (b : ¬ Byd limit most r) : Rn fs many start limit most (n + 1) (rs ++ [r]) nw' x' := by
  refine ⟨e, fun q hq => ?_⟩
  rcases List.mem_append.mp hq with hq | hq
  · exact h.no q hq
  · rw [List.mem_singleton.mp hq]
    exact b
/-- the raises end beyond -/
def Ends (fs : List Fc) (many : Nat) (start limit : Int) (most : Nat) (rs : List Rc) : Prop := ∃ n pre r, rs = (Sn fs many start n).rs ∧ rs = pre ++ [r] ∧ Byd limit most r ∧ ∀ q ∈ pre, ¬ Byd limit most q
theorem Rn.ends {fs : List Fc} {many : Nat} {start limit : Int} {most n : Nat} {rs : List Rc} {nw nw' : Nat → Nat} {x x' : Dy} (h : Rn fs many start limit most n rs nw x) {r : Rc} (e : (⟨rs ++ [r], nw', x'⟩ : Sx) = Sn fs many start (n + 1)) (b : Byd limit most r) : Ends fs many start limit most (rs ++ [r]) :=
  ⟨n + 1, rs, r, by rw [← e], rfl, b, h.no⟩
theorem pre_no {a b : List Rc} {limit : Int} {most : Nat} {pa pb : List Rc} {ra rb : Rc} (ea : a = pa ++ [ra]) (ba : Byd limit most ra) (eb : b = pb ++ [rb]) (nb : ∀ q ∈ pb, ¬ Byd limit most q) (h : a <+: b) : a = b := by
  obtain ⟨t, e⟩ := h
  rcases List.eq_nil_or_concat t with rfl | ⟨u, z, e2⟩
  · rw [List.append_nil] at e
    exact e
  · rw [List.concat_eq_append] at e2
    rw [e2, eb, ← List.append_assoc] at e
    have := (List.append_inj' e rfl).1
    refine absurd ba (nb ra ?_)
    rw [← this, ea]
    simp
theorem Ends.uniq {fs : List Fc} {many : Nat} {start limit : Int} {most : Nat} {rs rs' : List Rc} (h : Ends fs many start limit most rs) (k : Ends fs many start limit most rs') : rs = rs' := by
  obtain ⟨n, pa, ra, e1, e2, e3, e4⟩ := h
  obtain ⟨m, pb, rb, f1, f2, f3, f4⟩ := k
  rcases Nat.le_total n m with c | c
  · have := Sn_le fs many start c
    rw [← e1, ← f1] at this
    exact pre_no e2 e3 f2 f4 this
  · have := Sn_le fs many start c
    rw [← e1, ← f1] at this
    exact (pre_no f2 f3 e2 e4 this).symm
theorem Rn.stay {fs : List Fc} {many : Nat} {start limit : Int} {most n : Nat} {rs : List Rc} {nw : Nat → Nat} {x : Dy} (h : Rn fs many start limit most n rs nw x) (fx : sw fs x = x) : ∀ k, Sn fs many start (n + k) = ⟨rs, nw, x⟩
  | 0 => h.e.symm
  | k + 1 => by
    show S1 _ (Sn fs many start (n + k)) _ = _
    rw [h.stay fx k]
    unfold S1
    split
    · rfl
    · rename_i f hf
      have := sw_fix fx f (List.mem_of_getElem? hf)
      exact if_neg (by dsimp only; omega)
theorem Rn.not_ends {fs : List Fc} {many : Nat} {start limit : Int} {most n : Nat} {rs rs' : List Rc} {nw : Nat → Nat} {x : Dy} (h : Rn fs many start limit most n rs nw x) (fx : sw fs x = x) (k : Ends fs many start limit most rs') : False := by
  obtain ⟨m, pb, rb, f1, f2, f3, f4⟩ := k
  have mem : rb ∈ rs' := by rw [f2]; simp
  refine h.no rb ?_ f3
  rcases Nat.le_total m n with c | c
  · have := Sn_le fs many start c
    rw [← f1, ← h.e] at this
    exact this.subset mem
  · obtain ⟨k, rfl⟩ := Nat.exists_eq_add_of_le c
    rw [f1, h.stay fx k] at mem
    exact mem
theorem swn_det {fs : List Fc} {x0 x y : Dy} {n m : Nat} (e1 : x = swn fs n x0) (f1 : sw fs x = x) (e2 : y = swn fs m x0) (f2 : sw fs y = y) : x = y := by
  subst e1 e2
  rcases Nat.le_total n m with c | c
  · obtain ⟨k, rfl⟩ := Nat.exists_eq_add_of_le c
    exact (swn_stay f1 k).symm
  · obtain ⟨k, rfl⟩ := Nat.exists_eq_add_of_le c
    exact swn_stay f2 k
/-- the first ring met back from the raise i -/
def IsRing (rs : List Rc) (i C P : Nat) (bs : List Nat) (d : Int) : Prop := ∃ k j, k ≤ C ∧ j < k ∧ (rcd rs (nd rs i j)).e = (rcd rs (nd rs i k)).e ∧ (rcd rs (nd rs i k)).d + (P : Int) ≤ (rcd rs (nd rs i j)).d ∧
  (∀ k', k' < k → ∀ j, j < k' → (rcd rs (nd rs i j)).e = (rcd rs (nd rs i k')).e → (rcd rs (nd rs i j)).d < (rcd rs (nd rs i k')).d + (P : Int)) ∧ (∀ j', j' < k → (rcd rs (nd rs i j')).e = (rcd rs (nd rs i k)).e → j ≤ j') ∧ bs = ((nums rs i k).drop j).reverse ∧ d = (rcd rs (nd rs i k)).d
theorem IsRing.uniq {rs : List Rc} {i C C' P : Nat} {bs bs' : List Nat} {d d' : Int} (h : IsRing rs i C P bs d) (h' : IsRing rs i C' P bs' d') : bs = bs' ∧ d = d' := by
  obtain ⟨k, j, _, a1, a2, a3, a4, a5, rfl, rfl⟩ := h
  obtain ⟨k', j', _, b1, b2, b3, b4, b5, rfl, rfl⟩ := h'
  have ek : k = k' := by
    rcases Nat.lt_trichotomy k k' with c | c | c
    · have := b4 k c j a1 a2
      omega
    · exact c
    · have := a4 k' c j' b1 b2
      omega
  subst ek
  have ej : j = j' := by
    have h1 := a5 j' b1 b2
    have h2 := b5 j a1 a2
    omega
  subst ej
  exact ⟨rfl, rfl⟩
theorem IsRing.ring {many : Nat} {fs : List Fc} {start : Int} {rs : List Rc} {nw : Nat → Nat} {x : Dy} (s : St many fs start rs nw x) {i : Nat} {r0 : Rc} (h0 : rs[i]? = some r0) {P : Nat} {bs : List Nat} {d : Int} (h : IsRing rs i r0.c P bs d) : RingOf fs P bs d ∧ (∀ b ∈ bs, b < fs.length) ∧ bs.length ≤ r0.c := by
  obtain ⟨k, j, a0, a1, a2, a3, a4, a5, rfl, rfl⟩ := h
  refine ⟨ring_of s h0 a1 a0 a2 a3, fun b hb => ?_, ?_⟩
  · have hb := List.drop_subset _ _ (List.mem_reverse.mp hb)
    obtain ⟨m, hm, rfl⟩ := List.mem_map.mp hb
    have hm := List.mem_range.mp hm
    obtain ⟨b', f, r, q, b1, b2, b3, _, b5, _⟩ := s.back h0 (k := m) (by omega)
    have eb : bnd rs i m = b' := by
      unfold bnd
      rw [rcd_of b1, b3]
      rfl
    rw [eb]
    exact get_lt b5
  · rw [List.length_reverse, List.length_drop, nums_len]
    omega
end Dl
set_option Elab.async false
set_option linter.all false
namespace Dy
/-! ### the next and the last good day -/
def IsNx (p : Int → Prop) (d n : Int) : Prop := d ≤ n ∧ p n ∧ ∀ e, d ≤ e → p e → n ≤ e
def IsLs (p : Int → Prop) (d n : Int) : Prop := n ≤ d ∧ p n ∧ ∀ e, e ≤ d → p e → e ≤ n
theorem IsNx.uniq {p : Int → Prop} {d n m : Int} (a : IsNx p d n) (b : IsNx p d m) : n = m := by
  have h1 := a.2.2 m b.1 b.2.1
  have h2 := b.2.2 n a.1 a.2.1
  omega
theorem IsLs.uniq {p : Int → Prop} {d n m : Int} (a : IsLs p d n) (b : IsLs p d m) : n = m := by
  have h1 := a.2.2 m b.1 b.2.1
  have h2 := b.2.2 n a.1 a.2.1
  omega
theorem nx_mon {p : Int → Prop} {N : Int → Int} (h : ∀ d, IsNx p d (N d)) : Mon N := fun d => by
  obtain ⟨a1, a2, a3⟩ := h d
  obtain ⟨b1, b2, b3⟩ := h (d + 1)
  exact a3 _ (by omega) b2
theorem ls_mon {p : Int → Prop} {L : Int → Int} (h : ∀ d, IsLs p d (L d)) : Mon L := fun d => by
  obtain ⟨a1, a2, a3⟩ := h d
  obtain ⟨b1, b2, b3⟩ := h (d + 1)
  exact b3 _ (by omega) a2
def Pdc (p : Int → Prop) (s : Int) : Prop := ∀ d, p (d + s) ↔ p d
theorem nx_per {p : Int → Prop} {N : Int → Int} {s : Int} (h : ∀ d, IsNx p d (N d)) (k : Pdc p s) : Per N s := fun d => by
  refine (h (d + s)).uniq ⟨?_, (k _).mpr (h d).2.1, fun e h1 h2 => ?_⟩
  · have := (h d).1
    omega
  · have h3 : p (e - s) := (k (e - s)).mp (by rw [show e - s + s = e by omega]; exact h2)
    have := (h d).2.2 (e - s) (by omega) h3
    omega
theorem ls_per {p : Int → Prop} {L : Int → Int} {s : Int} (h : ∀ d, IsLs p d (L d)) (k : Pdc p s) : Per L s := fun d => by
  refine (h (d + s)).uniq ⟨?_, (k _).mpr (h d).2.1, fun e h1 h2 => ?_⟩
  · have := (h d).1
    omega
  · have h3 : p (e - s) := (k (e - s)).mp (by rw [show e - s + s = e by omega]; exact h2)
    have := (h d).2.2 (e - s) (by omega) h3
    omega
theorem nx_lat {p : Int → Prop} {N L : Int → Int} (h : ∀ d, IsNx p d (N d)) (k : ∀ d, IsLs p d (L d)) : Lat N L := fun d l => by
  constructor
  · intro z
    have h1 := (k l).2.2 _ z (h d).2.1
    have := (h d).1
    omega
  · intro z
    have h1 := (h d).2.2 _ z (k l).2.1
    have := (k l).1
    omega
/-! good days of a list -/
def Gof (good : List Int) (P : Nat) (d : Int) : Prop := d % (P : Int) ∈ good
theorem gof_pdc (good : List Int) (P : Nat) : Pdc (Gof good P) (P : Int) := fun d => by
  unfold Gof
  rw [Int.add_emod_right]
theorem list_min : ∀ (xs : List Int), xs ≠ [] → ∃ m, m ∈ xs ∧ ∀ y, y ∈ xs → m ≤ y
  | [], h => absurd rfl h
  | x :: xs, _ => by
    by_cases c : xs = []
    · subst c
      exact ⟨x, by simp, fun y hy => by simp at hy; omega⟩
    · obtain ⟨m, h1, h2⟩ := list_min xs c
      by_cases hx : x ≤ m
      · refine ⟨x, by simp, fun y hy => ?_⟩
        rcases List.mem_cons.mp hy with z | z
        · omega
        · have := h2 y z
          omega
      · refine ⟨m, by simp [h1], fun y hy => ?_⟩
        rcases List.mem_cons.mp hy with z | z
        · omega
        · exact h2 y z
theorem mod_of {x m : Int} {P : Nat} (hP : 0 < P) (h0 : 0 ≤ m) (h1 : m < P) : (x + (m - x) % (P : Int)) % (P : Int) = m ∧ (x - (x - m) % (P : Int)) % (P : Int) = m := by
  have e1 : (x + (m - x) % (P : Int)) % (P : Int) = m % (P : Int) := by
    rw [Int.add_emod, Int.emod_emod, ← Int.add_emod, show x + (m - x) = m by omega]
  have e2 : (x - (x - m) % (P : Int)) % (P : Int) = m % (P : Int) := by
    rw [Int.sub_emod, Int.emod_emod, ← Int.sub_emod, show x - (x - m) = m by omega]
  rw [Int.emod_eq_of_lt h0 h1] at e1 e2
  exact ⟨e1, e2⟩
theorem mod_le {a : Int} {P : Nat} {k : Int} (hP : 0 < P) (h : 0 ≤ k) (e : k % (P : Int) = a % (P : Int)) : a % (P : Int) ≤ k := by
  rw [← e]
  have h1 := Int.emod_add_mul_ediv k (P : Int)
  have h2 := Int.ediv_nonneg h (show (0 : Int) ≤ P by omega)
  have h3 := Int.mul_nonneg (show (0 : Int) ≤ P by omega) h2
  omega
theorem nx_of {good : List Int} {P : Nat} {d m : Int} (hP : 0 < P) (hg : ∀ x ∈ good, 0 ≤ x ∧ x < P) (h1 : m ∈ good.map fun k => d + (k - d) % (P : Int)) (h2 : ∀ y, y ∈ good.map (fun k => d + (k - d) % (P : Int)) → m ≤ y) : IsNx (Gof good P) d m := by
  obtain ⟨k, hk, rfl⟩ := List.mem_map.mp h1
  obtain ⟨k0, k1⟩ := hg k hk
  have hn := Int.emod_nonneg (k - d) (show (P : Int) ≠ 0 by omega)
  refine ⟨by omega, ?_, fun e he hp => ?_⟩
  · unfold Gof
    rw [(mod_of hP k0 k1).1]
    exact hk
  · have h3 := h2 (d + (e % (P : Int) - d) % (P : Int)) (List.mem_map.mpr ⟨_, hp, rfl⟩)
    have h4 : (e % (P : Int) - d) % (P : Int) ≤ e - d := mod_le hP (by omega) (by rw [Int.emod_sub_emod])
    omega
theorem ls_of {good : List Int} {P : Nat} {d m : Int} (hP : 0 < P) (hg : ∀ x ∈ good, 0 ≤ x ∧ x < P) (h1 : m ∈ good.map fun k => d - (d - k) % (P : Int)) (h2 : ∀ y, y ∈ good.map (fun k => d - (d - k) % (P : Int)) → y ≤ m) : IsLs (Gof good P) d m := by
  obtain ⟨k, hk, rfl⟩ := List.mem_map.mp h1
  obtain ⟨k0, k1⟩ := hg k hk
  have hn := Int.emod_nonneg (d - k) (show (P : Int) ≠ 0 by omega)
  refine ⟨by omega, ?_, fun e he hp => ?_⟩
  · unfold Gof
    rw [(mod_of hP k0 k1).2]
    exact hk
  · have h3 := h2 (d - (d - e % (P : Int)) % (P : Int)) (List.mem_map.mpr ⟨_, hp, rfl⟩)
    have h4 : (d - e % (P : Int)) % (P : Int) ≤ d - e := mod_le hP (by omega) (by rw [Int.sub_emod, Int.sub_emod d (e % _), Int.emod_emod])
    omega
theorem nx_ex {good : List Int} {P : Nat} (hP : 0 < P) (hg : ∀ x ∈ good, 0 ≤ x ∧ x < P) (h0 : good ≠ []) : ∃ N : Int → Int, ∀ d, IsNx (Gof good P) d (N d) := by
  have key : ∀ d : Int, ∃ n, IsNx (Gof good P) d n := fun d => by
    obtain ⟨m, h1, h2⟩ := list_min (good.map fun k => d + (k - d) % (P : Int)) (by simp [h0])
    exact ⟨m, nx_of hP hg h1 h2⟩
  exact ⟨fun d => Classical.choose (key d), fun d => Classical.choose_spec (key d)⟩
theorem ls_ex {good : List Int} {P : Nat} (hP : 0 < P) (hg : ∀ x ∈ good, 0 ≤ x ∧ x < P) (h0 : good ≠ []) : ∃ L : Int → Int, ∀ d, IsLs (Gof good P) d (L d) := by
  have key : ∀ d : Int, ∃ n, IsLs (Gof good P) d n := fun d => by
    obtain ⟨m, h1, h2⟩ := list_min (good.map fun k => -(d - (d - k) % (P : Int))) (by simp [h0])
    obtain ⟨k, hk, rfl⟩ := List.mem_map.mp h1
    refine ⟨d - (d - k) % (P : Int), ls_of hP hg (List.mem_map.mpr ⟨k, hk, rfl⟩) fun y hy => ?_⟩
    obtain ⟨k2, hk2, rfl⟩ := List.mem_map.mp hy
    have := h2 _ (List.mem_map.mpr ⟨k2, hk2, rfl⟩)
    omega
  exact ⟨fun d => Classical.choose (key d), fun d => Classical.choose_spec (key d)⟩
/-! counting -/
open Classical in
noncomputable def oi (p : Int → Prop) (s : Int) : Nat := if p s then 1 else 0
theorem oi_pos {p : Int → Prop} {s : Int} (h : p s) : oi p s = 1 := by
  unfold oi
  rw [if_pos h]
theorem oi_neg {p : Int → Prop} {s : Int} (h : ¬ p s) : oi p s = 0 := by
  unfold oi
  rw [if_neg h]
noncomputable def cnt (p : Int → Prop) (s : Int) : Nat → Nat
  | 0 => 0
  | n + 1 => cnt p s n + oi p (s + n)
theorem cnt_front (p : Int → Prop) : ∀ (n : Nat) (s : Int), cnt p s (n + 1) = oi p s + cnt p (s + 1) n
  | 0, s => by
    show 0 + oi p (s + (0 : Nat)) = oi p s + 0
    rw [show s + ((0 : Nat) : Int) = s by omega]
    omega
  | n + 1, s => by
    have h := cnt_front p n s
    have e1 : cnt p s (n + 1 + 1) = cnt p s (n + 1) + oi p (s + (n + 1 : Nat)) := rfl
    have e2 : cnt p (s + 1) (n + 1) = cnt p (s + 1) n + oi p (s + 1 + n) := rfl
    rw [e1, e2, h, show s + ((n + 1 : Nat) : Int) = s + 1 + n by omega]
    omega
theorem cnt_add (p : Int → Prop) (s : Int) (a : Nat) : ∀ b, cnt p s (a + b) = cnt p s a + cnt p (s + a) b
  | 0 => rfl
  | b + 1 => by
    have h := cnt_add p s a b
    have e1 : cnt p s (a + (b + 1)) = cnt p s (a + b) + oi p (s + (a + b : Nat)) := rfl
    have e2 : cnt p (s + a) (b + 1) = cnt p (s + a) b + oi p (s + a + b) := rfl
    rw [e1, e2, h, show s + ((a + b : Nat) : Int) = s + a + b by omega]
    omega
theorem cnt_step {p : Int → Prop} {P : Nat} (h : Pdc p (P : Int)) (s : Int) : cnt p (s + 1) P = cnt p s P := by
  have h1 := cnt_front p P s
  have h2 : cnt p s (P + 1) = cnt p s P + oi p (s + P) := rfl
  have h3 : oi p (s + P) = oi p s := by
    by_cases c : p s
    · rw [oi_pos c, oi_pos ((h s).mpr c)]
    · rw [oi_neg c, oi_neg (fun z => c ((h s).mp z))]
  omega
theorem cnt_any {p : Int → Prop} {P : Nat} (h : Pdc p (P : Int)) (s : Int) : cnt p s P = cnt p 0 P := by
  have up : ∀ n : Nat, ∀ t : Int, cnt p (t + n) P = cnt p t P := fun n => by
    induction n with
    | zero => intro t; simp
    | succ n ih =>
      intro t
      rw [show t + ((n + 1 : Nat) : Int) = t + n + 1 by omega, cnt_step h, ih]
  by_cases c : 0 ≤ s
  · have := up s.toNat 0
    rw [show (0 : Int) + (s.toNat : Int) = s by omega] at this
    exact this
  · have := up (-s).toNat s
    rw [show s + ((-s).toNat : Int) = 0 by omega] at this
    exact this.symm
theorem cnt_list : ∀ (n : Nat) (good : List Int), good.Nodup → (∀ x ∈ good, 0 ≤ x ∧ x < n) → cnt (· ∈ good) 0 n = good.length
  | 0, good, _, h => by
    cases good with
    | nil => rfl
    | cons x xs =>
      have := h x (by simp)
      omega
  | n + 1, good, nd, h => by
    have e1 : cnt (· ∈ good) 0 (n + 1) = cnt (· ∈ good) 0 n + oi (· ∈ good) (0 + (n : Int)) := rfl
    rw [e1, Int.zero_add]
    have same : ∀ (k : Nat) (xs ys : List Int), (∀ i : Nat, i < k → ((i : Int) ∈ xs ↔ (i : Int) ∈ ys)) → cnt (· ∈ xs) 0 k = cnt (· ∈ ys) 0 k := fun k xs ys => by
      induction k with
      | zero => intro _; rfl
      | succ k ih =>
        intro hk
        have f1 : cnt (· ∈ xs) 0 (k + 1) = cnt (· ∈ xs) 0 k + oi (· ∈ xs) (0 + (k : Int)) := rfl
        have f2 : cnt (· ∈ ys) 0 (k + 1) = cnt (· ∈ ys) 0 k + oi (· ∈ ys) (0 + (k : Int)) := rfl
        rw [f1, f2, ih (fun i hi => hk i (by omega)), Int.zero_add]
        have := hk k (by omega)
        by_cases c : (k : Int) ∈ xs
        · rw [oi_pos c, oi_pos (this.mp c)]
        · rw [oi_neg c, oi_neg (fun z => c (this.mpr z))]
    by_cases c : (n : Int) ∈ good
    · rw [oi_pos c, same n good (good.erase n) (fun i hi => by
        rw [List.mem_erase_of_ne (by omega)]), cnt_list n (good.erase n) (nd.erase _) (fun x hx => ?_), List.length_erase_of_mem c]
      · have := List.length_pos_of_mem c
        omega
      · have h1 := h x (List.mem_of_mem_erase hx)
        have h2 : x ≠ n := fun z => by
          subst z
          exact nd.not_mem_erase hx
        omega
    · rw [oi_neg c, cnt_list n good nd (fun x hx => by
        have h1 := h x hx
        have h2 : x ≠ n := fun z => c (z ▸ hx)
        omega)]
      rfl
theorem cnt_good {good : List Int} {P : Nat} (hP : 0 < P) (nd : good.Nodup) (hg : ∀ x ∈ good, 0 ≤ x ∧ x < P) (s : Int) : cnt (Gof good P) s P = good.length := by
  rw [cnt_any (gof_pdc good P) s, ← cnt_list P good nd hg]
  have same : ∀ k : Nat, k ≤ P → cnt (Gof good P) 0 k = cnt (· ∈ good) 0 k := fun k => by
    induction k with
    | zero => intro _; rfl
    | succ k ih =>
      intro hk
      have f1 : cnt (Gof good P) 0 (k + 1) = cnt (Gof good P) 0 k + oi (Gof good P) (0 + (k : Int)) := rfl
      have f2 : cnt (· ∈ good) 0 (k + 1) = cnt (· ∈ good) 0 k + oi (· ∈ good) (0 + (k : Int)) := rfl
      rw [f1, f2, ih (by omega)]
      have e : Gof good P (0 + (k : Int)) ↔ (0 + (k : Int)) ∈ good := by
        unfold Gof
        rw [Int.emod_eq_of_lt (by omega) (by omega)]
      by_cases c : (0 + (k : Int)) ∈ good
      · rw [oi_pos c, oi_pos (e.mpr c)]
      · rw [oi_neg c, oi_neg (fun z => c (e.mp z))]
  exact same P (Nat.le_refl _)
theorem cnt_none {p : Int → Prop} : ∀ (n : Nat) (s : Int), (∀ e, s ≤ e → e < s + n → ¬ p e) → cnt p s n = 0
  | 0, _, _ => rfl
  | n + 1, s, h => by
    have e1 : cnt p s (n + 1) = cnt p s n + oi p (s + n) := rfl
    rw [e1, cnt_none n s (fun e h1 h2 => h e h1 (by omega)), oi_neg (h _ (by omega) (by omega))]
/-- as many uses as there are good days in a period lead a good day to itself, a period later -/
theorem it_many {p : Int → Prop} {P many : Nat} {N : Int → Int} (hN : ∀ d, IsNx p d (N d)) (hP : Pdc p (P : Int)) (hc : ∀ s, cnt p s P = many) {g : Int} (hg : p g) : it (fun d => N (d + 1)) many g = g + P := by
  have key : ∀ j : Nat, ∃ k : Nat, it (fun d => N (d + 1)) j g = g + k ∧ p (g + k) ∧ cnt p (g + 1) k = j := fun j => by
    induction j with
    | zero => exact ⟨0, by show g = _; simp, by simpa using hg, rfl⟩
    | succ j ih =>
      obtain ⟨k, e, hp, hk⟩ := ih
      obtain ⟨a1, a2, a3⟩ := hN (g + k + 1)
      obtain ⟨t, ht⟩ := Int.eq_ofNat_of_zero_le (show 0 ≤ N (g + k + 1) - (g + k + 1) by omega)
      have eN : N (g + k + 1) = g + ((k + (t + 1) : Nat) : Int) := by omega
      refine ⟨k + (t + 1), ?_, by rw [← eN]; exact a2, ?_⟩
      · show N (it (fun d => N (d + 1)) j g + 1) = _
        rw [e, eN]
      · rw [cnt_add, hk]
        have e1 : cnt p (g + 1 + k) (t + 1) = cnt p (g + 1 + k) t + oi p (g + 1 + k + t) := rfl
        have e2 : g + 1 + k + t = N (g + k + 1) := by omega
        rw [e1, e2, oi_pos a2, cnt_none t _ (fun e h1 h2 z => by
          have := a3 e (by omega) z
          omega)]
  obtain ⟨k, e, hp, hk⟩ := key many
  have hP2 : p (g + P) := (hP g).mpr hg
  have h1 := hc (g + 1)
  rw [e]
  rcases Nat.lt_trichotomy k P with c | c | c
  · exfalso
    obtain ⟨t, rfl⟩ : ∃ t, P = k + (t + 1) := ⟨P - k - 1, by omega⟩
    rw [cnt_add, hk] at h1
    have e1 : cnt p (g + 1 + k) (t + 1) = cnt p (g + 1 + k) t + oi p (g + 1 + k + t) := rfl
    rw [e1, show g + 1 + (k : Int) + t = g + ((k + (t + 1) : Nat) : Int) by omega, oi_pos hP2] at h1
    omega
  · rw [c]
  · exfalso
    obtain ⟨t, rfl⟩ : ∃ t, k = P + (t + 1) := ⟨k - P - 1, by omega⟩
    rw [cnt_add, h1] at hk
    have e1 : cnt p (g + 1 + P) (t + 1) = cnt p (g + 1 + P) t + oi p (g + 1 + P + t) := rfl
    rw [e1, show g + 1 + (P : Int) + t = g + ((P + (t + 1) : Nat) : Int) by omega, oi_pos hp] at hk
    omega
/-- the days backwards -/
theorem cnt_rev (p : Int → Prop) : ∀ (n : Nat) (s : Int), cnt (fun d => p (-d)) s n = cnt p (-s - n + 1) n
  | 0, _ => rfl
  | n + 1, s => by
    have e1 : cnt (fun d => p (-d)) s (n + 1) = cnt (fun d => p (-d)) s n + oi p (-(s + n)) := rfl
    rw [e1, cnt_rev p n s, cnt_front, show -s - ((n + 1 : Nat) : Int) + 1 = -(s + n) by omega, show -(s + (n : Int)) + 1 = -s - n + 1 by omega]
    omega
theorem it_neg {F G : Int → Int} (h : ∀ d, G d = -F (-d)) : ∀ (n : Nat) (d : Int), it G n d = -(it F n (-d))
  | 0, d => by
    show d = -(-d)
    omega
  | n + 1, d => by
    show G (it G n d) = -F (it F n (-d))
    rw [h, it_neg h n d]
    congr 2
    omega
theorem it_back {p : Int → Prop} {P many : Nat} {L : Int → Int} (hL : ∀ d, IsLs p d (L d)) (hP : Pdc p (P : Int)) (hc : ∀ s, cnt p s P = many) {g : Int} (hg : p g) : it (fun d => L (d + -1)) many g = g - P := by
  have hN : ∀ d, IsNx (fun d => p (-d)) d (-(L (-d))) := fun d => by
    obtain ⟨a1, a2, a3⟩ := hL (-d)
    refine ⟨by omega, (show p (- -(L (-d))) by rw [show - -(L (-d)) = L (-d) by omega]; exact a2), fun e h1 h2 => ?_⟩
    have := a3 (-e) (by omega) h2
    omega
  have h1 := it_many (P := P) (many := many) hN (fun d => by
    have := hP (-(d + P))
    rw [show -(d + (P : Int)) + P = -d by omega] at this
    exact this.symm) (fun s => by rw [cnt_rev]; exact hc _) (g := -g) (by rw [show - -g = g by omega]; exact hg)
  have h2 := it_neg (F := fun d => -(L (-(d + 1)))) (G := fun d => L (d + -1)) (fun d => by
    show L (d + -1) = - -(L (-(-d + 1)))
    rw [show -(-d + 1) = d + -1 by omega]
    omega) many g
  rw [h2, h1]
  omega
end Dy
set_option pp.maxSteps 700
set_option Elab.async false
set_option linter.all false
set_option maxRecDepth 100000
set_option maxHeartbeats 4000000
namespace Z
open Dy
open PySem PySem.Spec PyProof.Rows L2
open C8 (pss_cut tCut)
local macro_rules | `(tactic| walk_at "num") => `(tactic| first | rfl | omega | decide | exact Nat.le_of_lt (small1000 (by simp)) | exact ⟨by omega, by omega⟩ | exact ⟨by omega, by omega, by omega⟩ | exact ⟨by decide, by decide, by decide⟩ | exact Or.inl ⟨by omega, by omega⟩ | exact Or.inr ⟨by omega, by omega⟩)
local macro_rules | `(tactic| walk_at "go") => `(tactic| repeat (first | refine ⟨_, rfl, ?_⟩ | refine ⟨_, _, rfl, rfl, ?_⟩ | refine ⟨_, _, rfl, ?_⟩ | (refine ⟨_, _, rfl, rfl, ?_, ?_⟩; focus walk_at "num") | refine Or.inl ⟨_, rfl, ?_⟩ | refine ⟨_, _, _, _, rfl, rfl, (by assumption), (by rfl), ?_⟩ | refine ⟨_, _, _, _, _, rfl, (by assumption), (by assumption), (by assumption), (by rfl), ?_⟩ | refine ⟨rfl, ?_⟩ | (refine And.intro ?_ ?_; focus walk_at "num")))
abbrev s_check_bounds : Stmt := topS 17
abbrev N_check_bounds : List Str := ["many", "bounds", "at", "bound"]
abbrev P_check_bounds : List Str := ["many", "bounds"]
theorem sc_check_bounds : FnScope N_check_bounds P_check_bounds (defScope s_check_bounds) := ⟨rfl, rfl, rfl, by decide +kernel, rfl, by decide +kernel, by decide +kernel⟩
abbrev s_common_period : Stmt := topS 14
abbrev N_common_period : List Str := ["rules", "period", "rule"]
abbrev P_common_period : List Str := ["rules"]
theorem sc_common_period : FnScope N_common_period P_common_period (defScope s_common_period) := ⟨rfl, rfl, rfl, by decide +kernel, rfl, by decide +kernel, by decide +kernel⟩
abbrev s_forces_of : Stmt := topS 18
abbrev N_forces_of : List Str := ["bounds", "found", "word", "i", "j", "rule"]
abbrev P_forces_of : List Str := ["bounds"]
theorem sc_forces_of : FnScope N_forces_of P_forces_of (defScope s_forces_of) := ⟨rfl, rfl, rfl, by decide +kernel, rfl, by decide +kernel, by decide +kernel⟩
/-! ### bounds -/
structure Bd where
  fr : Bool
  i : Nat
  j : Nat
  n : Addr
  F : Int → Int
def wrd (b : Bool) : Str := if b then Str.ofString "from" else Str.ofString "by"
def bdV (b : Bd) : List V := [.str (wrd b.fr), .int (b.i : Int), .int (b.j : Int), .ref b.n]
/-- bounds: a list (or tuple) of lists (or tuples) -/
structure BdL (C : Addr) (K : PySem.W.Frag) (H : Hp) (M : Nat) (q q2 : Bool) (l : Addr) (zs : List (Addr × Bd)) : Prop where
  sq : SqK q K H l (zs.map fun z => V.ref z.1)
  at_ : ∀ z ∈ zs, SqK q2 K H z.1 (bdV z.2)
  rl : ∀ z ∈ zs, RuleF C K H z.2.n M z.2.F
theorem BdL.mono {C : Addr} {K : PySem.W.Frag} {H H' : Hp} {M : Nat} {q q2 : Bool} {l : Addr} {zs : List (Addr × Bd)} (s : Same H H') (b : BdL C K H M q q2 l zs) : BdL C K H' M q q2 l zs := ⟨Z.Same.sqK s b.sq, fun z m => Z.Same.sqK s (b.at_ z m), fun z m => (b.rl z m).mono s⟩
def Ok (many : Nat) (zs : List (Addr × Bd)) : Prop := ∀ z ∈ zs, z.2.i < many ∧ z.2.j < many
/-- bounds with any numbers -/
structure Bi where
  fr : Bool
  i : Int
  j : Int
  n : Addr
def biV (b : Bi) : List V := [.str (wrd b.fr), .int b.i, .int b.j, .ref b.n]
structure BiL (K : PySem.W.Frag) (H : Hp) (q q2 : Bool) (l : Addr) (zs : List (Addr × Bi)) : Prop where
  sq : SqK q K H l (zs.map fun z => V.ref z.1)
  at_ : ∀ z ∈ zs, SqK q2 K H z.1 (biV z.2)
theorem BiL.mono {K : PySem.W.Frag} {H H' : Hp} {q q2 : Bool} {l : Addr} {zs : List (Addr × Bi)} (s : Same H H') (b : BiL K H q q2 l zs) : BiL K H' q q2 l zs := ⟨Z.Same.sqK s b.sq, fun z m => Z.Same.sqK s (b.at_ z m)⟩
def EvOk (many : Nat) (b : Bi) : Prop := (0 ≤ b.i ∧ b.i < many) ∧ 0 ≤ b.j ∧ b.j < many
def FstB (many : Nat) (zs : List (Addr × Bi)) (k : Nat) : Prop := (∃ z, zs[k]? = some z ∧ ¬ EvOk many z.2) ∧ ∀ j z, j < k → zs[j]? = some z → EvOk many z.2
theorem FstB.not {many : Nat} {zs : List (Addr × Bi)} {k : Nat} (h : FstB many zs k) : ¬ ∀ z ∈ zs, EvOk many z.2 := fun g => by
  obtain ⟨⟨z, e, n⟩, _⟩ := h
  exact n (g z (List.mem_of_getElem? e))
theorem FstB.uniq {many : Nat} {zs : List (Addr × Bi)} {k j : Nat} (h : FstB many zs k) (g : FstB many zs j) : k = j := by
  obtain ⟨⟨z, e, n⟩, a⟩ := h
  obtain ⟨⟨y, e2, n2⟩, b⟩ := g
  rcases Nat.lt_trichotomy k j with c | c | c
  · exact absurd (b k z c e) n
  · exact c
  · exact absurd (a j y c e2) n2
def bi (b : Bd) : Bi := ⟨b.fr, b.i, b.j, b.n⟩
theorem BdL.bi {C : Addr} {K : PySem.W.Frag} {H : Hp} {M : Nat} {q q2 : Bool} {l : Addr} {zs : List (Addr × Bd)} (b : BdL C K H M q q2 l zs) : BiL K H q q2 l (zs.map fun z => (z.1, Z.bi z.2)) := ⟨by rw [List.map_map]; exact b.sq, fun z m => by
  obtain ⟨y, hy, rfl⟩ := List.mem_map.mp m
  exact b.at_ y hy⟩
theorem Ok.ev {many : Nat} {zs : List (Addr × Bd)} (h : Ok many zs) : ∀ z ∈ zs.map fun z => (z.1, Z.bi z.2), EvOk many z.2 := fun z m => by
  obtain ⟨y, hy, rfl⟩ := List.mem_map.mp m
  obtain ⟨a, b⟩ := h y hy
  exact ⟨⟨Int.natCast_nonneg _, Int.ofNat_lt.mpr a⟩, Int.natCast_nonneg _, Int.ofNat_lt.mpr b⟩
/-- a force in the heap -/
structure FcAt (K : PySem.W.Frag) (H : Hp) (M : Nat) (a : Addr) (f : Dl.Fc) : Prop where
  ex : ∃ (t : Addr) (ds : List Int), H a = some (.tup [.int (f.s : Int), .int (f.t : Int), .ref t]) ∧ H t = some (.tup (ds.map V.int)) ∧ Of f.F ds ∧ ds.length ≤ M
  per : Per f.F (M : Int)
  mon : Mon f.F
theorem FcAt.mono {K : PySem.W.Frag} {H H' : Hp} {M : Nat} {a : Addr} {f : Dl.Fc} (s : Same H H') (h : FcAt K H M a f) : FcAt K H' M a f := by
  obtain ⟨⟨t, ds, e1, e2, e3, e4⟩, p, m⟩ := h
  exact ⟨⟨t, ds, s _ _ e1, s _ _ e2, e3, e4⟩, p, m⟩
structure FcL (K : PySem.W.Frag) (H : Hp) (M : Nat) (l : Addr) (ys : List (Addr × Dl.Fc)) : Prop where
  sq : H l = some (.lst (ys.map fun z => V.ref z.1))
  at_ : ∀ z ∈ ys, FcAt K H M z.1 z.2
theorem FcL.mono {K : PySem.W.Frag} {H H' : Hp} {M : Nat} {l : Addr} {ys : List (Addr × Dl.Fc)} (s : Same H H') (h : FcL K H M l ys) : FcL K H' M l ys := ⟨s _ _ h.sq, fun z m => (h.at_ z m).mono s⟩
/-- the force of a bound -/
def FcOf (b : Bd) (f : Dl.Fc) : Prop := (b.fr = true ∧ f = ⟨b.i, b.j, b.F⟩) ∨ (b.fr = false ∧ ∃ S, Soo b.F S ∧ f = ⟨b.j, b.i, S⟩)
theorem FcOf.uniq {b : Bd} {f g : Dl.Fc} (h : FcOf b f) (k : FcOf b g) : f = g := by
  rcases h with ⟨e, rfl⟩ | ⟨e, S, s, rfl⟩
  · rcases k with ⟨_, rfl⟩ | ⟨e2, _⟩
    · rfl
    · rw [e] at e2
      cases e2
  · rcases k with ⟨e2, _⟩ | ⟨_, S', s', rfl⟩
    · rw [e] at e2
      cases e2
    · rw [show S = S' from funext fun l => s.uniq s' l]
def FcsOf (bs : List Bd) (fs : List Dl.Fc) : Prop := bs.length = fs.length ∧ ∀ (k : Nat) b f, bs[k]? = some b → fs[k]? = some f → FcOf b f
theorem FcsOf.uniq {bs : List Bd} {fs gs : List Dl.Fc} (h : FcsOf bs fs) (k : FcsOf bs gs) : fs = gs := by
  refine List.ext_getElem (by rw [← h.1, ← k.1]) fun i h1 h2 => ?_
  have hb : i < bs.length := by rw [h.1]; exact h1
  exact (h.2 i _ _ (List.getElem?_eq_getElem hb) (List.getElem?_eq_getElem h1)).uniq (k.2 i _ _ (List.getElem?_eq_getElem hb) (List.getElem?_eq_getElem h2))
theorem FcsOf.snoc {bs : List Bd} {fs : List Dl.Fc} (h : FcsOf bs fs) {b : Bd} {f : Dl.Fc} (k : FcOf b f) : FcsOf (bs ++ [b]) (fs ++ [f]) := by
  refine ⟨by rw [List.length_append, List.length_append, h.1]; rfl, fun i b' f' hb hf => ?_⟩
  rcases Dl.get_app hb with ⟨c, e⟩ | ⟨e, rfl⟩
  · rcases Dl.get_app hf with ⟨c2, e2⟩ | ⟨e2, _⟩
    · exact h.2 i b' f' e e2
    · have := h.1
      omega
  · rcases Dl.get_app hf with ⟨c2, e2⟩ | ⟨e2, rfl⟩
    · have := h.1
      omega
    · exact k
abbrev gFour (K : PySem.W.Frag) (i j k l : Nat) : TG := gOr (gUnl K 4 (gCons (gName i) (gCons (gName j) (gCons (gName k) (gCons (gName l) gNil))))) (gTup K 4 (gCons (gName i) (gCons (gName j) (gCons (gName k) (gCons (gName l) gNil)))))
theorem gfour_of {c : Bool} {K : PySem.W.Frag} {i j k l : Nat} {p : Addr} {x y u v : V} {σ : L2.St} {H : Hp} {Q : L2.St → Hp → Prop} (h : SqK c K H p [x, y, u, v]) (q : Q ((((σ.set i (some x)).set j (some y)).set k (some u)).set l (some v)) H) : gFour K i j k l (.ref p) σ H Q := by
  cases c
  · exact .inr ⟨p, _, rfl, h, rfl, x, _, rfl, y, _, rfl, u, _, rfl, v, _, rfl, rfl, q⟩
  · exact .inl ⟨p, _, rfl, h, rfl, x, _, rfl, y, _, rfl, u, _, rfl, v, _, rfl, rfl, q⟩
theorem FcL.put {K : PySem.W.Frag} {H J : Hp} {M : Nat} {l t : Addr} {ys : List (Addr × Dl.Fc)} (h : FcL K H M l ys) (s : Same H J) (nt : H t = none) {f : Dl.Fc} {u : Addr} {ds : List Int} (eu : H u = some (.tup (ds.map V.int))) (et : J t = some (.tup [.int (f.s : Int), .int (f.t : Int), .ref u])) (o : Of f.F ds) (lM : ds.length ≤ M) (p : Per f.F (M : Int)) (m : Mon f.F) :
    FcL K (upd J l (.lst (((ys.map fun z => V.ref z.1)) ++ [.ref t]))) M l (ys ++ [(t, f)]) := by
  have tl : t ≠ l := fun e => by have := h.sq; rw [← e, nt] at this; cases this
  have keep : ∀ {a : Addr} {xs : List V}, H a = some (.tup xs) → (upd J l (.lst (((ys.map fun z => V.ref z.1)) ++ [.ref t]))) a = some (.tup xs) := fun {a xs} e => by
    rw [upd_ne (fun z => by have := h.sq; rw [← z, e] at this; cases this)]
    exact s _ _ e
  refine ⟨by rw [upd_same, List.map_append]; rfl, fun z hz => ?_⟩
  rcases List.mem_append.mp hz with hz | hz
  · obtain ⟨⟨t', ds', e1, e2, e3, e4⟩, p', m'⟩ := h.at_ z hz
    exact ⟨⟨t', ds', keep e1, keep e2, e3, e4⟩, p', m'⟩
  · rw [List.mem_singleton.mp hz]
    exact ⟨⟨u, ds, by rw [upd_ne tl]; exact et, keep eu, o, lM⟩, p, m⟩
theorem ixv {b : Bool} {K : PySem.W.Frag} {H : Hp} {a : Addr} {xs : List V} {i : Int} {v : V} {Q : VK} (hS : SqK b K H a xs) (e : atI xs i = some v) (q : Q v H) : rIx K (.ref a) (.int i) H Q := by
  cases b
  · exact .inr (.inl ⟨a, _, _, _, rfl, rfl, hS, e, q⟩)
  · exact .inl ⟨a, _, _, _, rfl, rfl, hS, e, q⟩
section
variable {P : Program} {w : World} {K : PySem.W.Frag} {mg : Str → Option Value} {base : Heap} {f C CD CE : Addr} {fd : FuncData}
def spChkB (CE : Addr) (K : PySem.W.Frag) : Sp := fun vs H Q E => ∃ (l : Addr) (q q2 : Bool) (many : Nat) (zs : List (Addr × Bi)), vs = [.int (many : Int), .ref l] ∧ BiL K H q q2 l zs ∧ zs.length ≤ 1000 ∧ ((∀ z ∈ zs, EvOk many z.2) → ∀ H', Same H H' → Q .non H') ∧ ∀ k, FstB many zs k → ∀ H' d, Same H H' → H' d = none → E (.ref CE) (some d) (upd H' d (.xd [("at", .int (k : Int))]))
theorem ok_check_bounds (F : FnP K "check_bounds" s_check_bounds f fd) (m_enumerate : mg "enumerate" = none) (x_BadEvent : Exn P w K mg base "BadEvent" CE "at") : FnOk P w K mg base (L2N.CX P w) 3 f fd P_check_bounds (spChkB CE K) := by
  refine F.ok sc_check_bounds (fun vs H Q E h => ?_) (fun cdv A outer s H vs Q E hr h => ?_)
  · obtain ⟨l, q, q2, many, zs, rfl, _⟩ := h
    rfl
  · obtain ⟨l, q, q2, many, zs, rfl, hB, lz, qq, qe⟩ := h
    have tk := takes_fn (P := P) (w := w) (K := K) (mg := mg) (base := base) (N := N_check_bounds) (qual := "check_bounds") (scope := defScope s_check_bounds) (f := f) (cd := cdv) (A := A) (outer := outer) (s := s) (H := H) (E := E)
    refine ⟨_, (pss_one (ps_for (passes_of rfl) rfl (pi_enumM (by rfl) m_enumerate (pa_cons (pv 1) pa_nil)) (pg_tup rfl (pgs_cons (pg_name (i := 2) sc_check_bounds.nd rfl (by first | exact .inl rfl | exact .inr rfl)) (pgs_cons (pg_name (i := 3) sc_check_bounds.nd rfl (by first | exact .inl rfl | exact .inr rfl)) pgs_nil)))
        (pss_one (ps_if (PW.pt (pw_or (pt_not (pt_chain op_le op_lt pe_int (pe_ix ix_seq (pv 3) pe_int (fun _ _ => rfl)) (pv 0))) (pw_or1 (pt_not (pt_chain op_le op_lt pe_int (pe_ix ix_seq (pv 3) pe_int (fun _ _ => rfl)) (pv 0)))))) (pss_one (ps_exn rfl tk x_BadEvent hr (by decide) (by rfl) (pa_cons (pv 2) pa_nil))) pss_nil)))), ?_⟩
    walk_at "go"
    refine ⟨q, _, _, rfl, hB.sq, ?_⟩
    refine for_enum hB.sq (fun k σ H1 => Same H H1 ∧ (∀ j z, j < k → zs[j]? = some z → EvOk many z.2) ∧ ∃ v2 v3, σ = [some (.int (many : Int)), some (.ref l), v2, v3]) ⟨Same.refl _, fun j z h => absurd h (Nat.not_lt_zero _), _, _, rfl⟩ (fun k σ H1 p => p.1) ?_ ?_
    · rintro k x σ H1 H2 ex ⟨s1, ok, v2, v3, rfl⟩ s2
      rw [List.getElem?_map] at ex
      obtain ⟨z, ez, rfl⟩ := Option.map_eq_some_iff.mp ex
      have zm := List.mem_of_getElem? ez
      have hz := Z.Same.sqK (s1.trans s2) (hB.at_ z zm)
      have a1 : atI (biV z.2) 1 = some (.int z.2.i) := atI_nat (j := 1) rfl
      have a2 : atI (biV z.2) 2 = some (.int z.2.j) := atI_nat (j := 2) rfl
      have bad : ¬ EvOk many z.2 → FstB many zs k := fun h => ⟨⟨z, ez, h⟩, ok⟩
      walk_at "go"
      refine ixv hz a1 ?_
      walk_at "go"
      by_cases i0 : 0 ≤ z.2.i
      rotate_left
      · rw [decide_eq_false i0]
        walk_at "go"
        exact mkx_of (fun d nd => qe k (bad fun h => i0 h.1.1) H2 d (s1.trans s2) nd)
      rw [decide_eq_true i0]
      walk_at "go"
      by_cases i1 : z.2.i < (many : Int)
      rotate_left
      · rw [decide_eq_false i1]
        walk_at "go"
        exact mkx_of (fun d nd => qe k (bad fun h => i1 h.1.2) H2 d (s1.trans s2) nd)
      rw [decide_eq_true i1]
      walk_at "go"
      refine ixv hz a2 ?_
      walk_at "go"
      by_cases j0 : 0 ≤ z.2.j
      rotate_left
      · rw [decide_eq_false j0]
        walk_at "go"
        exact mkx_of (fun d nd => qe k (bad fun h => j0 h.2.1) H2 d (s1.trans s2) nd)
      rw [decide_eq_true j0]
      walk_at "go"
      by_cases j1 : z.2.j < (many : Int)
      rotate_left
      · rw [decide_eq_false j1]
        walk_at "go"
        exact mkx_of (fun d nd => qe k (bad fun h => j1 h.2.2) H2 d (s1.trans s2) nd)
      rw [decide_eq_true j1]
      walk_at "go"
      refine ⟨s1.trans s2, fun j z' hj ez' => ?_, _, _, rfl⟩
      by_cases c : j = k
      · subst c
        rw [ez] at ez'
        cases ez'
        exact ⟨⟨i0, i1⟩, j0, j1⟩
      · exact ok j z' (by omega) ez'
    · rintro σ H1 ⟨s1, ok, v2, v3, rfl⟩
      walk_at "go"
      refine qq (fun z hz => ?_) H1 s1
      obtain ⟨j, hj, rfl⟩ := List.getElem_of_mem hz
      rw [List.length_map] at ok
      exact ok j _ hj (List.getElem?_eq_getElem hj)
/-! ### common_period, any number of rules -/
def lcmL : List Nat → Nat := List.foldl Nat.lcm 1
def spPerN (C : Addr) (K : PySem.W.Frag) : Sp := fun vs H Q _ => ∃ (l : Addr) (M : Nat) (rs : List (Addr × List Int)), vs = [.ref l] ∧ H l = some (.lst (rs.map fun z => V.ref z.1)) ∧ (∀ z ∈ rs, RuleAt C K H z.1 z.2 ∧ 0 < z.2.length ∧ z.2.length ∣ M) ∧ 0 < M ∧ M ≤ 30000 ∧
  ∀ H', Same H H' → Q (.int (lcmL (rs.map fun z => z.2.length) : Nat)) H'
theorem ok_common_period (F : FnP K "common_period" s_common_period f fd) (m_len : mg "len" = none) (cls : Cls K C) (n_days : NoAttr K C "days") (c_common_divisor : Cal P w K mg base 1 "common_divisor" (spGcd K)) : FnOk P w K mg base CX0 2 f fd P_common_period (spPerN C K) := by
  refine F.ok sc_common_period (fun vs H Q E h => ?_) (fun cdv A outer s H vs Q E hr h => ?_)
  · obtain ⟨l, M, rs, rfl, _⟩ := h
    rfl
  · obtain ⟨l, M, rs, rfl, hL, hrs, m0, m1, q⟩ := h
    refine ⟨_, PSs.nox (pss_cons (ps_set (i := 1) sc_common_period.nd rfl (by first | exact .inl rfl | exact .inr rfl) pe_int)
      (pss_cons (ps_for PassesOwn.never rfl (pi_list (pv 0)) (pg_name (i := 2) sc_common_period.nd rfl (by first | exact .inl rfl | exact .inr rfl))
        (pss_one (ps_set (i := 1) sc_common_period.nd rfl (by first | exact .inl rfl | exact .inr rfl) (pe_op op_fdiv (pe_op op_mul (pv 1) (pe_callB call_len_seq (by rfl) m_len PySem.boot_len (pa_cons (pe_fld (pv 2) rfl) pa_nil))) (pe_cl c_common_divisor hr (by decide) (by rfl) (pa_cons (pe_lst (pa_cons (pv 1) (pa_cons (pe_callB call_len_seq (by rfl) m_len PySem.boot_len (pa_cons (pe_fld (pv 2) rfl) pa_nil)) pa_nil))) pa_nil))))))
      (pss_one (ps_ret (pv 1))))), ?_⟩
    walk_at "go"
    refine ⟨⟨_, SqL.of hL⟩, ?_⟩
    refine for_vs (SqL.of hL) (fun k σ H1 => Same H H1 ∧ ∃ (p : Nat) (v2 : Option V), p = lcmL ((rs.take k).map fun z => z.2.length) ∧ p ∣ M ∧ σ = [some (.ref l), some (.int (p : Int)), v2]) ⟨Same.refl _, 1, none, rfl, Nat.one_dvd _, rfl⟩ (fun k σ H1 p => p.1) ?_ ?_
    · rintro k x σ H1 ex ⟨s1, p, v2, hp, dp, rfl⟩
      rw [List.getElem?_map] at ex
      obtain ⟨z, ez, rfl⟩ := Option.map_eq_some_iff.mp ex
      obtain ⟨hO, f0, fd⟩ := hrs z (List.mem_of_getElem? ez)
      have nx : lcmL ((rs.take (k + 1)).map fun z => z.2.length) = Nat.lcm p z.2.length := by
        rw [List.take_succ, ez, hp]
        unfold lcmL
        rw [List.map_append, List.foldl_append]
        rfl
      obtain ⟨o, fs⟩ := z
      dsimp only at hO f0 fd nx
      obtain ⟨dx, t, a1, a2⟩ := hO.mono s1
      have p0 : 0 < p := Nat.pos_of_dvd_of_pos dp m0
      have g0 : 0 < Nat.gcd p fs.length := Nat.gcd_pos_of_pos_left _ p0
      have pM := Nat.le_of_dvd m0 dp
      have g1 : Nat.gcd p fs.length ≤ p := Nat.le_of_dvd p0 (Nat.gcd_dvd_left _ _)
      have fM := Nat.le_of_dvd m0 fd
      walk_at "go"
      refine ⟨t, _, rfl, .inr (SqT.of a2), ?_⟩
      rw [List.length_map]
      walk_at "go"
      refine ⟨t, _, rfl, .inr (SqT.of a2), ?_⟩
      rw [List.length_map]
      walk_at "go"
      intro G nG
      generalize eH_ : upd H1 G _ = H2
      have s2 : Same H1 H2 := by rw [← eH_]; exact same_new nG
      have eG : H2 G = some (.lst (([(p : Int), (fs.length : Int)] : List Int).map V.int)) := by rw [← eH_]; exact upd_same
      clear eH_
      walk_at "go"
      refine ⟨G, p, fs.length, rfl, SqL.of eG, ?_⟩
      have e9 : (p : Int) * (fs.length : Int) / ((Nat.gcd p fs.length : Nat) : Int) = ((p * fs.length / Nat.gcd p fs.length : Nat) : Int) := by rw [Int.natCast_ediv, Int.natCast_mul]
      refine ⟨_, _, rfl, rfl, ⟨by omega, by omega⟩, ?_⟩
      walk_at "go"
      refine ⟨s1.trans s2, p * fs.length / Nat.gcd p fs.length, _, nx.symm, Nat.lcm_dvd dp fd, by rw [← e9]; rfl⟩
    · rintro σ H1 ⟨s1, p, v2, hp, dp, rfl⟩
      rw [List.length_map, List.take_length] at hp
      walk_at "go"
      rw [hp]
      exact q H1 s1
/-! ### forces_of -/
def spForces (C : Addr) (K : PySem.W.Frag) : Sp := fun vs H Q _ => ∃ (l : Addr) (q q2 : Bool) (M : Nat) (zs : List (Addr × Bd)), vs = [.ref l] ∧ BdL C K H M q q2 l zs ∧ 0 < M ∧ M ≤ 30000 ∧ zs.length ≤ 1000 ∧
  ∀ (L : Addr) (ys : List (Addr × Dl.Fc)) H', Same H H' → FcL K H' M L ys → FcsOf (zs.map (·.2)) (ys.map (·.2)) → Q (.ref L) H'
theorem ok_forces_of (F : FnP K "forces_of" s_forces_of f fd) (cls : Cls K C) (n_days : NoAttr K C "days") (me_soonest : Met P w K mg base 6 C "soonest" (spSoonest C K)) : FnOk P w K mg base CX0 7 f fd P_forces_of (spForces C K) := by
  refine F.ok sc_forces_of (fun vs H Q E h => ?_) (fun cdv A outer s H vs Q E hr h => ?_)
  · obtain ⟨l, q, q2, M, zs, rfl, _⟩ := h
    rfl
  · obtain ⟨l, q, q2, M, zs, rfl, hB, m0, m1, lz, qq⟩ := h
    refine ⟨_, PSs.nox (pss_cons (ps_set (i := 1) sc_forces_of.nd rfl (by first | exact .inl rfl | exact .inr rfl) (pe_lst pa_nil))
      (pss_cons (ps_for PassesOwn.never rfl (pi_sq (pv 0)) (pg_or (pg_unl rfl (pgs_cons (pg_name (i := 2) sc_forces_of.nd rfl (by first | exact .inl rfl | exact .inr rfl)) (pgs_cons (pg_name (i := 3) sc_forces_of.nd rfl (by first | exact .inl rfl | exact .inr rfl)) (pgs_cons (pg_name (i := 4) sc_forces_of.nd rfl (by first | exact .inl rfl | exact .inr rfl)) (pgs_cons (pg_name (i := 5) sc_forces_of.nd rfl (by first | exact .inl rfl | exact .inr rfl)) pgs_nil))))) (pg_tup rfl (pgs_cons (pg_name (i := 2) sc_forces_of.nd rfl (by first | exact .inl rfl | exact .inr rfl)) (pgs_cons (pg_name (i := 3) sc_forces_of.nd rfl (by first | exact .inl rfl | exact .inr rfl)) (pgs_cons (pg_name (i := 4) sc_forces_of.nd rfl (by first | exact .inl rfl | exact .inr rfl)) (pgs_cons (pg_name (i := 5) sc_forces_of.nd rfl (by first | exact .inl rfl | exact .inr rfl)) pgs_nil))))))
        (pss_one (ps_if (pt_cmpR op_eq (pv 2) pe_str (nomark _)) (pss_one (ps_expr (pe_bm PySem.F.plainAttrs_list PySem.F.slot_list_append PySem.F.type_list_append mt_append (pv 1) (pa_cons (pe_tup (pa_cons (pv 3) (pa_cons (pv 4) (pa_cons (pe_fld (pv 5) rfl) pa_nil)))) pa_nil)))) (pss_one (ps_expr (pe_bm PySem.F.plainAttrs_list PySem.F.slot_list_append PySem.F.type_list_append mt_append (pv 1) (pa_cons (pe_tup (pa_cons (pv 4) (pa_cons (pv 3) (pa_cons (pe_fld (pe_me0 me_soonest (pv 5) hr (by decide)) rfl) pa_nil)))) pa_nil)))))))
      (pss_one (ps_ret (pv 1))))), ?_⟩
    walk_at "go"
    intro L nL
    have sL := same_new (o := .lst []) nL
    have f0 : FcL K (upd H L (.lst [])) M L [] := ⟨upd_same, fun z m => absurd m (by simp)⟩
    generalize upd H L (.lst []) = H1 at sL f0
    walk_at "go"
    refine rd_sq (b := q) rfl (hB.mono sL).sq ?_
    refine for_gen (n := zs.length) (fun k σ J => Same H J ∧ (∃ ys, FcL K J M L ys ∧ FcsOf ((zs.take k).map (·.2)) (ys.map (·.2))) ∧ ∃ v2 v3 v4 v5, σ = [some (.ref l), some (.ref L), v2, v3, v4, v5]) ⟨sL, ⟨[], f0, rfl, fun k b f h => by simp at h⟩, _, _, _, _, rfl⟩ ?_ ?_ ?_ ?_
    · rintro k σ J hk ⟨s1, _⟩
      exact itq_go (hB.mono s1).sq (x := .ref zs[k].1) (by rw [List.getElem?_map, List.getElem?_eq_getElem hk]; rfl)
    · rintro σ J ⟨s1, _⟩
      exact itq_stop (hB.mono s1).sq (by rw [List.length_map]; exact Nat.le_refl _)
    · rintro k σ J x J' hk ⟨s1, ⟨ys, hy, fo⟩, v2, v3, v4, v5, rfl⟩ y
      obtain ⟨rfl, ex⟩ := itq_yld (hB.mono s1).sq y
      rw [List.getElem?_map, List.getElem?_eq_getElem hk] at ex
      cases ex
      have zm := List.getElem_mem hk
      have hz := Z.Same.sqK s1 (hB.at_ _ zm)
      have hR := (hB.rl _ zm).mono s1
      have tk : zs.take (k + 1) = zs.take k ++ [zs[k]] := by
        rw [List.take_succ, List.getElem?_eq_getElem hk]
        rfl
      generalize zs[k] = z at zm hz hR tk
      obtain ⟨za, zf, zi, zj, zn, zF⟩ := z
      dsimp only at hR
      have hz : SqK q2 K J' za [.str (wrd zf), .int (zi : Int), .int (zj : Int), .ref zn] := hz
      refine gfour_of hz ?_
      have ly : ys.length ≤ 1000 := by
        have := fo.1
        rw [List.length_map, List.length_map, List.length_take] at this
        omega
      have eL := hy.sq
      cases zf
      · obtain ⟨⟨ds, rN, oF, lF⟩, pF, moF⟩ := id hR
        obtain ⟨dx, t0, en, e2⟩ := id rN
        walk_at "go"
        refine ⟨.inl ⟨rfl, _, SqL.of eL⟩, ?_⟩
        walk_at "go"
        refine ⟨zn, dx, _, rfl, en, rfl, zn, M, _, rfl, hR, m0, m1, fun r H2 S s2 soo rF => ?_⟩
        obtain ⟨⟨es, rR, oR, lR⟩, pR, mR⟩ := rF
        have les := lp_le lR m0 pR
        obtain ⟨dz, u, c1, c2⟩ := id rR
        walk_at "go"
        intro t nt
        have st := same_new (o := .tup [.int (zj : Int), .int (zi : Int), .ref u]) nt
        have hy2 := hy.mono s2
        refine ⟨_, _, _, rfl, rfl, st _ _ hy2.sq, by rw [List.length_map]; exact Nat.lt_of_lt_of_le (show ys.length < 2000 by omega) (by decide), ?_⟩
        refine ⟨Z.Same.mut (s1.trans (s2.trans st)) nL, ⟨ys ++ [(t, ⟨zj, zi, S⟩)], hy2.put st nt (f := ⟨zj, zi, S⟩) c2 upd_same oR les pR mR, ?_⟩, _, _, _, _, rfl⟩
        rw [tk, List.map_append, List.map_append]
        exact fo.snoc (.inr ⟨rfl, S, soo, rfl⟩)
      · obtain ⟨⟨ds, rN, oF, lF⟩, pF, moF⟩ := id hR
        have les := lp_le lF m0 pF
        obtain ⟨dx, t0, en, e2⟩ := id rN
        walk_at "go"
        refine ⟨.inl ⟨rfl, _, SqL.of eL⟩, ?_⟩
        walk_at "go"
        intro t nt
        have st := same_new (o := .tup [.int (zi : Int), .int (zj : Int), .ref t0]) nt
        refine ⟨_, _, _, rfl, rfl, st _ _ hy.sq, by rw [List.length_map]; exact Nat.lt_of_lt_of_le (show ys.length < 2000 by omega) (by decide), ?_⟩
        refine ⟨Z.Same.mut (s1.trans st) nL, ⟨ys ++ [(t, ⟨zi, zj, zF⟩)], hy.put st nt (f := ⟨zi, zj, zF⟩) e2 upd_same oF les pF moF, ?_⟩, _, _, _, _, rfl⟩
        rw [tk, List.map_append, List.map_append]
        exact fo.snoc (.inl ⟨rfl, rfl⟩)
    · rintro σ J ⟨s1, ⟨ys, hy, fo⟩, v2, v3, v4, v5, rfl⟩
      rw [List.take_length] at fo
      walk_at "go"
      exact qq L ys J s1 hy fo
end
end Z
set_option pp.maxSteps 700
set_option Elab.async false
set_option linter.all false
set_option maxRecDepth 100000
set_option maxHeartbeats 4000000
namespace Z
open Dy
open PySem PySem.Spec PyProof.Rows L2
open C8 (pss_cut tCut)
local macro_rules | `(tactic| walk_at "num") => `(tactic| first | rfl | omega | decide | exact Nat.le_of_lt (small1000 (by simp)) | exact ⟨by omega, by omega⟩ | exact ⟨by omega, by omega, by omega⟩ | exact ⟨by decide, by decide, by decide⟩ | exact Or.inl ⟨by omega, by omega⟩ | exact Or.inr ⟨by omega, by omega⟩)
local macro_rules | `(tactic| walk_at "go") => `(tactic| repeat (first | refine ⟨_, rfl, ?_⟩ | refine ⟨_, _, rfl, rfl, ?_⟩ | refine ⟨_, _, rfl, ?_⟩ | (refine ⟨_, _, rfl, rfl, ?_, ?_⟩; focus walk_at "num") | refine Or.inl ⟨_, rfl, ?_⟩ | refine ⟨_, _, _, _, rfl, rfl, (by assumption), (by rfl), ?_⟩ | refine ⟨_, _, _, _, _, rfl, (by assumption), (by assumption), (by assumption), (by rfl), ?_⟩ | refine ⟨rfl, ?_⟩ | (refine And.intro ?_ ?_; focus walk_at "num")))
abbrev s_limit_of : Stmt := topS 19
abbrev N_limit_of : List Str := ["many", "forces", "period", "start", "source", "target", "days", "at", "gains"]
abbrev P_limit_of : List Str := ["many", "forces", "period", "start"]
theorem sc_limit_of : FnScope N_limit_of P_limit_of (defScope s_limit_of) := ⟨rfl, rfl, rfl, by decide +kernel, rfl, by decide +kernel, by decide +kernel⟩
theorem lcR_gen {J : It} {n : Nat} {H0 : Hp} {Qd : Hp → Prop} {R : (Hp → Prop) → V → Hp → Prop} (Pv : Nat → Hp → Prop) (h0 : Pv 0 H0) (hgo : ∀ i H, i < n → Pv i H → J.go i H) (hst : ∀ H, Pv n H → J.stop n H)
    (hs : ∀ i H x H', i < n → Pv i H → J.yld i H x H' → R (Pv (i + 1)) x H') (hd : ∀ H, Pv n H → Qd H) :
    ∃ W : Nat → Nat → Hp → Prop, (∃ m, W 0 m H0) ∧ ∀ i m H, W i m H → (J.stop i H ∧ Qd H) ∨ (J.go i H ∧ ∃ Nx : Hp → Prop, (∀ H', Nx H' → ∃ m', m' < m ∧ W (i + 1) m' H') ∧ ∀ x H', J.yld i H x H' → R Nx x H') := by
  refine ⟨fun i m H => m = n - i ∧ i ≤ n ∧ Pv i H, ⟨n, by omega, Nat.zero_le _, h0⟩, fun i m H w => ?_⟩
  obtain ⟨rfl, hi, p⟩ := w
  by_cases hlt : i < n
  · exact .inr ⟨hgo i H hlt p, Pv (i + 1), fun H' z => ⟨n - (i + 1), by omega, rfl, hlt, z⟩, fun x H' y => hs i H x H' hlt p y⟩
  · have e : i = n := by omega
    subst e
    exact .inl ⟨hst H p, hd H p⟩
theorem gain_of {F : Int → Int} {ds : List Int} {G : Int} (o : Of F ds) (h : ∀ a, a < ds.length → ds.getD a 0 - (a : Int) ≤ G) (d : Int) : F d ≤ d + G := by
  rw [← o.dv]
  unfold dv
  have hn : 0 < (ds.length : Int) := by have := o.pos; omega
  have h1 := Int.emod_nonneg d (show (ds.length : Int) ≠ 0 by omega)
  have h2 := Int.emod_lt_of_pos d hn
  have h3 := Int.emod_add_mul_ediv d (ds.length : Int)
  have := h (d % (ds.length : Int)).toNat (by omega)
  rw [Int.toNat_of_nonneg h1] at this
  omega
theorem gain_at {F : Int → Int} {ds : List Int} (o : Of F ds) {a : Nat} (h : a < ds.length) : F (a : Int) = (a : Int) + (ds.getD a 0 - (a : Int)) := by
  rw [← o.dv]
  unfold dv
  rw [Int.emod_eq_of_lt (by omega) (by omega), Int.ediv_eq_zero_of_lt (by omega) (by omega), Int.toNat_natCast]
  omega
theorem szB {n : Nat} (h : n ≤ 200000) : n < sizeLine := Nat.lt_of_le_of_lt h (by decide)
section
variable {P : Program} {w : World} {K : PySem.W.Frag} {mg : Str → Option Value} {base : Heap} {f C CD CE : Addr} {fd : FuncData}
def spLimit (K : PySem.W.Frag) : Sp := fun vs H Q _ => ∃ (l : Addr) (M many P : Nat) (start : Int) (ys : List (Addr × Dl.Fc)), vs = [.int (many : Int), .ref l, .int (P : Int), .int start] ∧ FcL K H M l ys ∧ 0 < M ∧ M ≤ 30000 ∧ ys.length * M ≤ 100000 ∧ many ≤ 1000 ∧
  ∀ (G : Int) H', Same H H' → 0 ≤ G → (∀ z ∈ ys, ∀ d, z.2.F d ≤ d + G) → (G = 0 ∨ ∃ z ∈ ys, ∃ d, z.2.F d = d + G) → Q (.int (start + (many : Int) * ((P : Int) + G))) H'
theorem ok_limit_of (F : FnP K "limit_of" s_limit_of f fd) (m_len : mg "len" = none) (m_range : mg "range" = none) (m_max : mg "max" = none) : FnOk P w K mg base CX0 1 f fd P_limit_of (spLimit K) := by
  refine F.ok sc_limit_of (fun vs H Q E h => ?_) (fun cdv A outer s H vs Q E hr h => ?_)
  · obtain ⟨l, M, many, P, start, ys, rfl, _⟩ := h
    rfl
  · obtain ⟨l, M, many, Pd, start, ys, rfl, hF, m0, m1, ly, mm, q⟩ := h
    refine ⟨_, PSs.nox (pss_cons (ps_setLc2 (i := 8) (own := [("source", 4), ("target", 5), ("days", 6), ("at", 7)]) (vs1 := [7]) (g := (gTup K 3 (gCons (gName 4) (gCons (gName 5) (gCons (gName 6) gNil))))) (tt := tYes) (g1 := (gName 7)) (tt1 := tYes) (by rfl) sc_limit_of.nd rfl rfl (sw_true rfl rfl rfl (by decide +kernel)) (pi_list (pv 1)) (blkOk_by (own := [("source", 4), ("target", 5), ("days", 6), ("at", 7)]) (N := N_limit_of) (sc := defScope s_limit_of) (by decide +kernel)) (by decide) (fun _ _ _ _ _ => (pg_tup rfl (pgs_cons (pg_name (i := 4) sc_limit_of.nd rfl (by first | exact .inl rfl | exact .inr rfl)) (pgs_cons (pg_name (i := 5) sc_limit_of.nd rfl (by first | exact .inl rfl | exact .inr rfl)) (pgs_cons (pg_name (i := 6) sc_limit_of.nd rfl (by first | exact .inl rfl | exact .inr rfl)) pgs_nil))))) (fun _ _ _ _ _ => pts_nil) (fun _ _ _ _ _ => (pi_range1 (by rfl) m_range (pa_cons (pe_callB (call_len_seq_K (K := K) rfl) (by rfl) m_len PySem.boot_len (pa_cons (pv 6) pa_nil)) pa_nil))) (fun _ _ _ _ _ => (pg_name (i := 7) sc_limit_of.nd rfl (by first | exact .inl rfl | exact .inr rfl))) (fun _ _ _ _ _ => pts_nil) (fun _ _ _ _ _ => (pe_op op_sub (pe_ix (ix_tup_K (K := K) rfl) (pv 6) (pv 7) (fun _ _ => rfl)) (pv 7))))
      (pss_one (ps_ret (pe_op op_add (pv 3) (pe_op op_mul (pv 0) (pe_op op_add (pv 2) (pe_callB (cr_max rfl) (by rfl) m_max (by decide +kernel) (pa_cons (pe_op op_cat (pe_lst (pa_cons pe_int pa_nil)) (pv 8)) pa_nil)))))))), ?_⟩
    walk_at "go"
    refine ⟨⟨_, SqL.of hF.sq⟩, fun D nD => ?_⟩
    refine lcR_gen (n := ys.length) (fun k J => Same H J ∧ ∃ gl : List Int, J D = some (.lst (gl.map V.int)) ∧ gl.length ≤ k * M ∧ (∀ (m : Nat) z, m < k → ys[m]? = some z → ∀ d B, (∀ g ∈ gl, g ≤ B) → z.2.F d ≤ d + B) ∧ ∀ g ∈ gl, ∃ z ∈ ys, ∃ d, z.2.F d = d + g) ⟨same_new nD, [], upd_same, Nat.zero_le _, fun m z h => absurd h (Nat.not_lt_zero _), fun g h => absurd h (by simp)⟩ ?_ ?_ ?_ ?_
    · rintro k J hk ⟨s1, _⟩
      exact ⟨_, .ref ys[k].1, SqL.of (hF.mono s1).sq, by rw [List.getElem?_map, List.getElem?_eq_getElem hk]; rfl⟩
    · rintro J ⟨s1, _⟩
      exact ⟨_, SqL.of (hF.mono s1).sq, by rw [List.length_map]; exact Nat.le_refl _⟩
    · rintro k J x J' hk ⟨s1, gl, eg, lg, hg, hw⟩ ⟨rfl, hx⟩
      have hx := hx _ (SqL.of (hF.mono s1).sq)
      rw [List.getElem?_map, List.getElem?_eq_getElem hk] at hx
      cases hx
      obtain ⟨⟨t, ds, e1H, e2H, o, ld⟩, _⟩ := hF.at_ _ (List.getElem_mem hk)
      have e1 := s1 _ _ e1H
      have e2 := s1 _ _ e2H
      have kM : (k + 1) * M ≤ 100000 := Nat.le_trans (Nat.mul_le_mul_right M hk) ly
      have nDH : H D = none := nD
      refine ⟨_, _, rfl, SqT.of e1, rfl, _, _, rfl, _, _, rfl, _, _, rfl, rfl, ?_⟩
      walk_at "go"
      refine ⟨t, _, rfl, .inr (SqT.of e2), ?_⟩
      rw [List.length_map]
      walk_at "go"
      refine lcR_gen (n := ds.length) (fun a J => Same H J ∧ J D = some (.lst ((gl ++ (List.range a).map fun a => ds.getD a 0 - (a : Int)).map V.int))) ⟨s1, by rw [eg]; simp⟩ ?_ ?_ ?_ ?_
      · intro a J ha _
        show a < ((ds.length : Int)).toNat
        omega
      · intro J _
        show ((ds.length : Int)).toNat ≤ ds.length
        omega
      · rintro a J x J2 ha ⟨s2, eD2⟩ ⟨rfl, rfl⟩
        walk_at "go"
        refine ⟨t, _, _, _, rfl, rfl, SqT.of (s2 _ _ e2H), at_of (j := a) (v := .int (ds.getD a 0)) (by omega) (by rw [List.getElem?_map, List.getElem?_eq_getElem ha, List.getD_eq_getElem?_getD, List.getElem?_eq_getElem ha]; rfl), ?_⟩
        walk_at "go"
        refine ⟨_, eD2, szB (by rw [List.length_map, List.length_append, List.length_map, List.length_range]; rw [Nat.add_mul, Nat.one_mul] at kM; omega), Z.Same.mut s2 nDH, ?_⟩
        rw [upd_same, List.range_succ, List.map_append, List.map_append, List.map_append, List.map_append]
        simp
      · rintro J ⟨s2, eD2⟩
        refine ⟨s2, _, eD2, ?_, fun m z hm ez d B hB => ?_, fun g hg2 => ?_⟩
        · rw [List.length_append, List.length_map, List.length_range, Nat.add_mul, Nat.one_mul]
          omega
        · by_cases c : m = k
          · subst c
            rw [List.getElem?_eq_getElem hk] at ez
            cases ez
            exact gain_of o (fun a ha => hB _ (List.mem_append_right _ (List.mem_map.mpr ⟨a, List.mem_range.mpr ha, rfl⟩))) d
          · exact hg m z (by omega) ez d B fun g hg2 => hB g (List.mem_append_left _ hg2)
        · rcases List.mem_append.mp hg2 with hg2 | hg2
          · exact hw g hg2
          · obtain ⟨a, ha, rfl⟩ := List.mem_map.mp hg2
            exact ⟨_, List.getElem_mem hk, a, gain_at o (List.mem_range.mp ha)⟩
    rintro J ⟨s1, gl, eg, lg, hg, hw⟩
    walk_at "go"
    intro l1 nl1
    have s2 := same_new (o := .lst [.int 0]) nl1
    have el1 : (upd J l1 (.lst [.int 0])) l1 = some (.lst (([0] : List Int).map V.int)) := upd_same
    have eD2 := s2 _ _ eg
    generalize upd J l1 (.lst [.int 0]) = J1 at s2 el1 eD2
    walk_at "go"
    refine ⟨l1, D, _, _, rfl, rfl, el1, eD2, ?_, fun l3 nl3 => ?_⟩
    · rw [List.length_map, List.length_map]
      exact Nat.le_of_lt (szB (show 1 + gl.length ≤ 200000 by omega))
    rw [← List.map_append]
    have s3 := same_new (o := .lst ((([0] : List Int) ++ gl).map V.int)) nl3
    have el3 : (upd J1 l3 (.lst ((([0] : List Int) ++ gl).map V.int))) l3 = some (.lst ((([0] : List Int) ++ gl).map V.int)) := upd_same
    generalize upd J1 l3 (.lst ((([0] : List Int) ++ gl).map V.int)) = J3 at s3 el3
    walk_at "go"
    refine ⟨l3, _, rfl, SqL.of el3, by simp, fun m hm hmax => ?_⟩
    walk_at "go"
    refine q m _ (s1.trans (s2.trans s3)) (hmax 0 (by simp)) (fun z hz d => ?_) ?_
    · obtain ⟨i, hi, rfl⟩ := List.getElem_of_mem hz
      exact hg i _ hi (List.getElem?_eq_getElem hi) d m fun g h => hmax g (List.mem_append_right _ h)
    · rcases List.mem_append.mp hm with hm | hm
      · exact .inl (List.mem_singleton.mp hm)
      · exact .inr (hw m hm)
end
end Z
set_option pp.maxSteps 700
set_option Elab.async false
set_option linter.all false
set_option maxRecDepth 100000
set_option maxHeartbeats 4000000
namespace Z
open Dy
open PySem PySem.Spec PyProof.Rows L2
open C8 (pss_cut tCut)
local macro_rules | `(tactic| walk_at "num") => `(tactic| first | rfl | omega | decide | exact Nat.le_of_lt (small1000 (by simp)) | exact ⟨by omega, by omega⟩ | exact ⟨by omega, by omega, by omega⟩ | exact ⟨by decide, by decide, by decide⟩ | exact Or.inl ⟨by omega, by omega⟩ | exact Or.inr ⟨by omega, by omega⟩)
local macro_rules | `(tactic| walk_at "go") => `(tactic| repeat (first | refine ⟨_, rfl, ?_⟩ | refine ⟨_, _, rfl, rfl, ?_⟩ | refine ⟨_, _, rfl, ?_⟩ | (refine ⟨_, _, rfl, rfl, ?_, ?_⟩; focus walk_at "num") | refine Or.inl ⟨_, rfl, ?_⟩ | refine ⟨_, _, _, _, rfl, rfl, (by assumption), (by rfl), ?_⟩ | refine ⟨_, _, _, _, _, rfl, (by assumption), (by assumption), (by assumption), (by rfl), ?_⟩ | refine ⟨rfl, ?_⟩ | (refine And.intro ?_ ?_; focus walk_at "num")))
abbrev s_raise_days : Stmt := topS 20
abbrev N_raise_days : List Str := ["many", "forces", "start", "limit", "most", "event", "raises", "newest", "changed", "number", "source", "target", "days", "day", "chain"]
abbrev P_raise_days : List Str := ["many", "forces", "start", "limit", "most"]
theorem sc_raise_days : FnScope N_raise_days P_raise_days (defScope s_raise_days) := ⟨rfl, rfl, rfl, by decide +kernel, rfl, by decide +kernel, by decide +kernel⟩
theorem none_of {H J : Hp} {p : Addr} (s : Same H J) (n : J p = none) : H p = none := by
  cases e : H p with
  | none => rfl
  | some o =>
    have := s p o e
    rw [n] at this
    cases this
/-! ### raises in the heap -/
def opV : Option Nat → V
  | none => .non
  | some n => .int (n : Int)
def rcV (r : Dl.Rc) : List V := [.int (r.e : Int), .int r.d, opV (r.bp.map (·.1)), opV (r.bp.map (·.2)), .int (r.c : Int)]
structure RcL (H : Hp) (R : Addr) (rs : List (Addr × Dl.Rc)) : Prop where
  sq : H R = some (.lst (rs.map fun z => V.ref z.1))
  at_ : ∀ z ∈ rs, H z.1 = some (.tup (rcV z.2))
theorem RcL.mono {H H' : Hp} {R : Addr} {rs : List (Addr × Dl.Rc)} (s : Same H H') (h : RcL H R rs) : RcL H' R rs := ⟨s _ _ h.sq, fun z m => s _ _ (h.at_ z m)⟩
theorem RcL.put {H J : Hp} {R t : Addr} {rs : List (Addr × Dl.Rc)} (h : RcL H R rs) (s : Same H J) (nt : H t = none) {r : Dl.Rc} (et : J t = some (.tup (rcV r))) : RcL (upd J R (.lst ((rs.map fun z => V.ref z.1) ++ [.ref t]))) R (rs ++ [(t, r)]) := by
  have tR : t ≠ R := fun e => by have := h.sq; rw [← e, nt] at this; cases this
  refine ⟨by rw [upd_same, List.map_append]; rfl, fun z hz => ?_⟩
  rcases List.mem_append.mp hz with hz | hz
  · rw [upd_ne (fun e => by have := h.at_ z hz; rw [e, h.sq] at this; cases this)]
    exact s _ _ (h.at_ z hz)
  · rw [List.mem_singleton.mp hz, upd_ne tR]
    exact et
theorem RcL.get {H : Hp} {R : Addr} {rs : List (Addr × Dl.Rc)} (h : RcL H R rs) {i : Nat} {r : Dl.Rc} (e : (rs.map (·.2))[i]? = some r) : ∃ a, atI (rs.map fun z => V.ref z.1) (i : Int) = some (.ref a) ∧ H a = some (.tup (rcV r)) := by
  rw [List.getElem?_map] at e
  obtain ⟨z, ez, rfl⟩ := Option.map_eq_some_iff.mp e
  exact ⟨z.1, atI_nat (by rw [List.getElem?_map, ez]; rfl), h.at_ z (List.mem_of_getElem? ez)⟩
def NwL (H : Hp) (W : Addr) (many : Nat) (nw : Nat → Nat) : Prop := H W = some (.lst ((List.range many).map fun e => V.int (nw e : Int)))
theorem NwL.at_ {many : Nat} {nw : Nat → Nat} {e : Nat} (h : e < many) : atI ((List.range many).map fun e => V.int (nw e : Int)) (e : Int) = some (.int (nw e : Int)) := atI_nat (by rw [List.getElem?_map, List.getElem?_range h]; rfl)
theorem szC {n : Nat} (h : n ≤ 200000) : n < sizeLine := Nat.lt_of_le_of_lt h (by decide)
theorem nw_set {many : Nat} {nw : Nat → Nat} {e v : Nat} (he : e < many) : ((List.range many).map fun k => V.int (nw k : Int)).set e (.int (v : Int)) = (List.range many).map fun k => V.int ((if k = e then v else nw k : Nat) : Int) := by
  refine List.ext_getElem (by rw [List.length_set, List.length_map, List.length_map]) fun i h1 h2 => ?_
  rw [List.length_map, List.length_range] at h2
  rw [List.getElem_set, List.getElem_map, List.getElem_map, List.getElem_range]
  by_cases c : e = i
  · rw [if_pos c, if_pos c.symm]
  · rw [if_neg c, if_neg (fun z => c z.symm)]
theorem ixN_nat {n j : Nat} (h : j < n) : ixN n (j : Int) = some j := by
  unfold ixN
  rw [if_pos (by omega)]
  first
    | (rw [if_pos (by omega)]; congr 1)
    | simp [h]
theorem rc_1 (r : Dl.Rc) : atI (rcV r) 1 = some (.int r.d) := atI_nat (j := 1) rfl
theorem rc_4 (r : Dl.Rc) : atI (rcV r) 4 = some (.int (r.c : Int)) := atI_nat (j := 4) rfl
section
variable {P : Program} {w : World} {K : PySem.W.Frag} {mg : Str → Option Value} {base : Heap} {f C CD CE : Addr} {fd : FuncData}
def fcs (ys : List (Addr × Dl.Fc)) : List Dl.Fc := ys.map (·.2)
def rcs (rs : List (Addr × Dl.Rc)) : List Dl.Rc := rs.map (·.2)
def spRaise (K : PySem.W.Frag) : Sp := fun vs H Q _ => ∃ (l : Addr) (M many most : Nat) (start limit : Int) (ys : List (Addr × Dl.Fc)), vs = [.int (many : Int), .ref l, .int start, .int limit, .int (most : Int)] ∧ FcL K H M l ys ∧ 0 < M ∧ M ≤ 30000 ∧ (∀ z ∈ ys, z.2.s < many ∧ z.2.t < many) ∧ many + (most + 1) * (ys.length + 1) ≤ 150000 ∧ start ≤ limit ∧
  (∀ (t R W : Addr) (rs : List (Addr × Dl.Rc)) (nw : Nat → Nat) (x : Dl.Dy) (T : Nat) H', Same H H' → H' t = some (.tup [.ref R, .ref W, .bl false]) → RcL H' R rs → NwL H' W many nw → Dl.St many (fcs ys) start (rcs rs) nw x → T ≤ most → x = Dl.swn (fcs ys) T (fun _ => start) → Dl.sw (fcs ys) x = x → (∃ n, Dl.Rn (fcs ys) many start limit most n (rcs rs) nw x) → Q (.ref t) H') ∧
  (∀ (t R W : Addr) (rs : List (Addr × Dl.Rc)) (r : Dl.Rc) (nw : Nat → Nat) (x : Dl.Dy) H', Same H H' → H' t = some (.tup [.ref R, .ref W, .bl true]) → RcL H' R rs → Dl.St many (fcs ys) start (rcs rs) nw x → (rcs rs)[rs.length - 1]? = some r → (limit < r.d ∨ most < r.c) → Dl.Ends (fcs ys) many start limit most (rcs rs) → Q (.ref t) H')
def WdR (many most : Nat) (l R W : Addr) (start limit : Int) (ys : List (Addr × Dl.Fc)) (H : Hp) (m : Nat) (σ : L2.St) (J : Hp) : Prop := ∃ (T : Nat) (rs : List (Addr × Dl.Rc)) (nw : Nat → Nat) (x : Dl.Dy) (ch : Bool), Same H J ∧ RcL J R rs ∧ NwL J W many nw ∧ Dl.St many (fcs ys) start (rcs rs) nw x ∧ (ch = true → Dl.Sta (fcs ys) (rcs rs) nw x T 0) ∧ T ≤ most ∧ x = Dl.swn (fcs ys) T (fun _ => start) ∧ (ch = false → Dl.sw (fcs ys) x = x) ∧ (ch = true → rs.length ≤ many + T * ys.length) ∧ m = (if ch then most + 1 - T else 0) ∧ (∃ n, Dl.Rn (fcs ys) many start limit most n (rcs rs) nw x ∧ (ch = true → n = T * ys.length)) ∧ ∃ v9 v10 v11 v12 v13 v14, σ = [some (.int (many : Int)), some (.ref l), some (.int start), some (.int limit), some (.int (most : Int)), none, some (.ref R), some (.ref W), some (.bl ch), v9, v10, v11, v12, v13, v14]
theorem ok_raise_days (F : FnP K "raise_days" s_raise_days f fd) (m_len : mg "len" = none) (m_range : mg "range" = none) (m_list : mg "list" = none) (m_enumerate : mg "enumerate" = none) (c_day_at : Cal P w K mg base 1 "day_at" (spDayAt K)) : FnOk P w K mg base CX0 2 f fd P_raise_days (spRaise K) := by
  refine F.ok sc_raise_days (fun vs H Q E h => ?_) (fun cdv A outer s H vs Q E hr h => ?_)
  · obtain ⟨l, M, many, most, start, limit, ys, rfl, _⟩ := h
    rfl
  · obtain ⟨l, M, many, most, start, limit, ys, rfl, hF, m0, m1, ok, sz, sl, q1, q2⟩ := h
    refine ⟨_, PSs.nox (pss_cons (ps_setLc (i := 6) (own := [("event", 5)]) (g := (gName 5)) (tt := tYes) (by rfl) sc_raise_days.nd rfl rfl (sw_true rfl rfl rfl (by decide +kernel)) (pi_range1 (by rfl) m_range (pa_cons (pv 0) pa_nil)) (blkOk_by (own := [("event", 5)]) (N := N_raise_days) (sc := defScope s_raise_days) (by decide +kernel)) (fun _ _ _ _ _ => (pg_name (i := 5) sc_raise_days.nd rfl (by first | exact .inl rfl | exact .inr rfl))) (fun _ _ _ _ _ => pts_nil) (fun _ _ _ _ _ => (pe_tup (pa_cons (pv 5) (pa_cons (pv 2) (pa_cons pe_non (pa_cons pe_non (pa_cons pe_int pa_nil))))))))
      (pss_cons (ps_set (i := 7) sc_raise_days.nd rfl (by first | exact .inl rfl | exact .inr rfl) (pe_listRg rfl (by rfl) m_list (prg_1 (by rfl) m_range (pv 0))))
      (pss_cons (ps_set (i := 8) sc_raise_days.nd rfl (by first | exact .inl rfl | exact .inr rfl) pe_bl)
      (pss_cons (ps_while PassesOwn.never (pt_val (pv 8))
        (pss_cons (ps_set (i := 8) sc_raise_days.nd rfl (by first | exact .inl rfl | exact .inr rfl) pe_bl)
      (pss_one (ps_for PassesOwn.never rfl (pi_enumM (by rfl) m_enumerate (pa_cons (pv 1) pa_nil)) (pg_tup rfl (pgs_cons (pg_name (i := 9) sc_raise_days.nd rfl (by first | exact .inl rfl | exact .inr rfl)) (pgs_cons (pg_tup rfl (pgs_cons (pg_name (i := 10) sc_raise_days.nd rfl (by first | exact .inl rfl | exact .inr rfl)) (pgs_cons (pg_name (i := 11) sc_raise_days.nd rfl (by first | exact .inl rfl | exact .inr rfl)) (pgs_cons (pg_name (i := 12) sc_raise_days.nd rfl (by first | exact .inl rfl | exact .inr rfl)) pgs_nil)))) pgs_nil)))
        (pss_cons (ps_set (i := 13) sc_raise_days.nd rfl (by first | exact .inl rfl | exact .inr rfl) (pe_cl c_day_at hr (by decide) (by rfl) (pa_cons (pv 12) (pa_cons (pe_ix ix_tup (pe_ix ix_list (pv 6) (pe_ix ix_list (pv 7) (pv 10) (fun _ _ => rfl)) (fun _ _ => rfl)) pe_int (fun _ _ => rfl)) pa_nil))))
      (pss_one (ps_if (pt_cmpR op_gt (pv 13) (pe_ix ix_tup (pe_ix ix_list (pv 6) (pe_ix ix_list (pv 7) (pv 11) (fun _ _ => rfl)) (fun _ _ => rfl)) pe_int (fun _ _ => rfl)) (nomark _)) (pss_cons (ps_set (i := 14) sc_raise_days.nd rfl (by first | exact .inl rfl | exact .inr rfl) (pe_op op_add (pe_ix ix_tup (pe_ix ix_list (pv 6) (pe_ix ix_list (pv 7) (pv 10) (fun _ _ => rfl)) (fun _ _ => rfl)) pe_int (fun _ _ => rfl)) pe_int))
      (pss_cons (ps_expr (pe_bm PySem.F.plainAttrs_list PySem.F.slot_list_append PySem.F.type_list_append mt_append (pv 6) (pa_cons (pe_tup (pa_cons (pv 11) (pa_cons (pv 13) (pa_cons (pv 9) (pa_cons (pe_ix ix_list (pv 7) (pv 10) (fun _ _ => rfl)) (pa_cons (pv 14) pa_nil)))))) pa_nil)))
      (pss_cons (ps_asg (pe_op op_sub (pe_callB call_len_seq (by rfl) m_len PySem.boot_len (pa_cons (pv 6) pa_nil)) pe_int) (pg_sub (pv 7) (pv 11) set_list))
      (pss_cons (ps_set (i := 8) sc_raise_days.nd rfl (by first | exact .inl rfl | exact .inr rfl) pe_bl)
      (pss_one (ps_if (PW.pt (pw_or (pt_cmpR op_gt (pv 13) (pv 3) (nomark _)) (pw_or1 (pt_cmpR op_gt (pv 14) (pv 4) (nomark _))))) (pss_one (ps_ret (pe_tup (pa_cons (pv 6) (pa_cons (pv 7) (pa_cons pe_bl pa_nil)))))) pss_nil)))))) pss_nil)))))))
      (pss_one (ps_ret (pe_tup (pa_cons (pv 6) (pa_cons (pv 7) (pa_cons pe_bl pa_nil)))))))))), ?_⟩
    walk_at "go"
    intro R nR
    refine lc_gen (n := many) (fun k J => Same H J ∧ ∃ rs : List (Addr × Dl.Rc), RcL J R rs ∧ rs.map (·.2) = (List.range k).map fun e => ⟨e, start, none, 0⟩) ⟨same_new nR, [], ⟨upd_same, fun z m => absurd m (by simp)⟩, rfl⟩ ?_ ?_ ?_ ?_
    · intro k J hk _
      show k < ((many : Int)).toNat
      omega
    · intro J _
      show ((many : Int)).toNat ≤ many
      omega
    · rintro k J x J' hk ⟨s1, rs, hr1, er⟩ ⟨rfl, rfl⟩
      walk_at "go"
      intro t nt
      have st := same_new (o := .tup (rcV ⟨k, start, none, 0⟩)) nt
      have et : (upd J' t (.tup [.int (0 + (k : Int)), .int start, .non, .non, .int 0])) = upd J' t (.tup (rcV ⟨k, start, none, 0⟩)) := by
        rw [Int.zero_add]
        rfl
      rw [et]
      have lr : rs.length = k := by
        have := congrArg List.length er
        rwa [List.length_map, List.length_map, List.length_range] at this
      refine ⟨_, st _ _ hr1.sq, by rw [List.length_map, lr]; exact szC (by omega), Z.Same.mut (s1.trans st) nR, rs ++ [(t, ⟨k, start, none, 0⟩)], hr1.put st nt upd_same, ?_⟩
      rw [List.map_append, er, List.range_succ, List.map_append]
      rfl
    rintro J0 ⟨s0, rs0, hr0, er0⟩
    walk_at "go"
    intro W nW
    have rg : rgV 0 (many : Int) = (List.range many).map fun (e : Nat) => V.int (e : Int) := by
      unfold rgV
      rw [show ((many : Int) - 0).toNat = many by omega]
      exact List.map_congr_left fun e _ => by rw [Int.zero_add]
    rw [rg]
    have s2 := same_new (o := .lst ((List.range many).map fun (e : Nat) => V.int (e : Int))) nW
    have hw0 : NwL (upd J0 W (.lst ((List.range many).map fun (e : Nat) => V.int (e : Int)))) W many fun e => e := upd_same
    have hr2 := hr0.mono s2
    have sm := s0.trans s2
    have RW : R ≠ W := ne_of_none hr0.sq nW
    have nWH := none_of s0 nW
    have nRH : H R = none := nR
    generalize upd J0 W (.lst ((List.range many).map fun (e : Nat) => V.int (e : Int))) = J1 at hw0 hr2 sm
    have er0 : rcs rs0 = (List.range many).map fun e => ⟨e, start, none, 0⟩ := er0
    have st0 : Dl.St many (fcs ys) start (rcs rs0) (fun e => e) (fun _ => start) := by
      rw [er0]
      have at_ : ∀ (i : Nat) (r : Dl.Rc), ((List.range many).map fun e => (⟨e, start, none, 0⟩ : Dl.Rc))[i]? = some r → i < many ∧ r = ⟨i, start, none, 0⟩ := fun i r h => by
        have hl := Dl.get_lt h
        rw [List.length_map, List.length_range] at hl
        rw [List.getElem?_map, List.getElem?_range hl] at h
        exact ⟨hl, (Option.some.inj h).symm⟩
      refine ⟨fun e he => by rw [List.getElem?_map, List.getElem?_range he]; rfl, fun e he => ⟨⟨e, start, none, 0⟩, by rw [List.getElem?_map, List.getElem?_range he]; rfl, rfl, rfl⟩, fun i r h hm => ?_, fun i j r q hij hi hj he => ?_, fun i r h => ?_⟩
      · have := (at_ i r h).1
        omega
      · rw [(at_ i r hi).2, (at_ j q hj).2] at he
        have he : i = j := he
        omega
      · obtain ⟨a, rfl⟩ := at_ i r h
        exact ⟨a, Nat.le_refl _⟩
    have sta0 : Dl.Sta (fcs ys) (rcs rs0) (fun e => e) (fun _ => start) 0 0 := fun k f hk hx => by
      obtain ⟨z, mz, rfl⟩ := List.mem_map.mp (List.mem_of_getElem? hk)
      have := (ok z mz).1
      refine ⟨⟨z.2.s, start, none, 0⟩, by rw [er0, List.getElem?_map, List.getElem?_range this]; rfl, ?_⟩
      rw [if_neg (Nat.not_lt_zero _)]
      exact Nat.zero_le _
    have rn0 : Dl.Rn (fcs ys) many start limit most 0 (rcs rs0) (fun e => e) (fun _ => start) := by
      rw [er0]
      exact Dl.Rn.base sl
    have lr0 : rs0.length = many := by
      have := congrArg List.length er0
      unfold rcs at this
      rwa [List.length_map, List.length_map, List.length_range] at this
    clear hr0 s0 s2 er0 nW nR rg
    dsimp only [List.set]
    walk_at "go"
    refine ⟨fun m σ J => WdR many most l R W start limit ys H m σ J, ?_, ?_⟩
    · exact ⟨_, 0, rs0, _, _, true, sm, hr2, hw0, st0, fun _ => sta0, Nat.zero_le _, rfl, (fun e => by cases e), fun _ => by omega, rfl, ⟨0, rn0, fun _ => (Nat.zero_mul _).symm⟩, _, _, _, _, _, _, rfl⟩
    clear rn0 st0 sta0 hr2 hw0 sm lr0
    rintro m σ J ⟨T, rs, nw, x, ch, sm, hr, hw, st, sta, Tm, ex, fx, lr, rfl, ⟨n, rn, en⟩, v9, v10, v11, v12, v13, v14, rfl⟩
    walk_at "go"
    cases ch
    · walk_at "go"
      intro t nt
      have s9 := same_new (o := .tup [.ref R, .ref W, .bl false]) nt
      exact q1 t R W rs nw x T _ (sm.trans s9) upd_same (hr.mono s9) (s9 _ _ hw) st Tm ex (fx rfl) ⟨n, rn⟩
    have sta := sta rfl
    have en := en rfl
    subst en
    have ly : (fcs ys).length = ys.length := List.length_map ..
    have lr := lr rfl
    walk_at "go"
    refine ite2 (fun _ => ?_) (fun e => absurd rfl e)
    refine ⟨fun σ' J' => ∃ m', m' < most + 1 - T ∧ WdR many most l R W start limit ys H m' σ' J', fun σ' J' z => z, ?_⟩
    walk_at "go"
    refine ⟨true, l, _, rfl, SqL.of (hF.mono sm).sq, ?_⟩
    refine for_gen (n := ys.length) (fun j σ J => ∃ (rs : List (Addr × Dl.Rc)) (nw : Nat → Nat) (y : Dl.Dy) (ch : Bool), Same H J ∧ RcL J R rs ∧ NwL J W many nw ∧ Dl.St many (fcs ys) start (rcs rs) nw y ∧ Dl.Sta (fcs ys) (rcs rs) nw y T j ∧ y = ((fcs ys).take j).foldl Dl.rz x ∧ (ch = false → y = x) ∧ (ch = true → T + 1 ≤ most) ∧ rs.length ≤ many + T * ys.length + j ∧ Dl.Rn (fcs ys) many start limit most (T * ys.length + j) (rcs rs) nw y ∧ ∃ v9 v10 v11 v12 v13 v14, σ = [some (.int (many : Int)), some (.ref l), some (.int start), some (.int limit), some (.int (most : Int)), none, some (.ref R), some (.ref W), some (.bl ch), v9, v10, v11, v12, v13, v14]) ⟨rs, nw, x, false, sm, hr, hw, st, sta, rfl, fun _ => rfl, (fun e => by cases e), by omega, rn, _, _, _, _, _, _, rfl⟩ ?_ ?_ ?_ ?_
    · rintro j σ J hj ⟨_, _, _, _, s1, _⟩
      exact ⟨_, .ref ys[j].1, SqL.of (hF.mono s1).sq, by rw [List.getElem?_map, List.getElem?_eq_getElem hj]; rfl⟩
    · rintro σ J ⟨_, _, _, _, s1, _⟩
      exact ⟨_, SqL.of (hF.mono s1).sq, by rw [List.length_map]⟩
    · rintro j σ J xx J' hj ⟨rs, nw, y, ch, s1, hr, hw, st, sta, ey, nc, yc, lr, rn, v9, v10, v11, v12, v13, v14, rfl⟩ ⟨T0, z, rfl, nT, rfl, e⟩
      have hz := e _ (SqL.of (hF.mono s1).sq)
      rw [List.getElem?_map, List.getElem?_eq_getElem hj] at hz
      cases hz
      obtain ⟨⟨tt, ds, e1, e2, o, ld⟩, _⟩ := (hF.mono s1).at_ _ (List.getElem_mem hj)
      obtain ⟨fs_, ft_⟩ := ok _ (List.getElem_mem hj)
      have fj : (fcs ys)[j]? = some ys[j].2 := by unfold fcs; rw [List.getElem?_map, List.getElem?_eq_getElem hj]; rfl
      have s2 := same_new (o := .tup [.int (j : Int), .ref ys[j].1]) nT
      have tk : (fcs ys).take (j + 1) = (fcs ys).take j ++ [ys[j].2] := by rw [List.take_succ, fj]; rfl
      refine ⟨T0, _, rfl, SqT.of upd_same, rfl, _, _, rfl, _, _, rfl, ys[j].1, _, rfl, SqT.of (s2 _ _ e1), rfl, _, _, rfl, _, _, rfl, _, _, rfl, rfl, rfl, ?_⟩
      have s12 := s1.trans s2
      have e2 := s2 _ _ e2
      have hr2 := hr.mono s2
      have hw2 : NwL _ W many nw := s2 _ _ hw
      generalize upd J T0 (.tup [.int (j : Int), .ref ys[j].1]) = J2 at s12 e2 hr2 hw2
      have hrJ := hr
      clear e1 s2 nT hr hw e
      generalize ys[j].2 = g at o ld fs_ ft_ fj tk
      obtain ⟨rS, hS1, hS2, hS3⟩ := st.new g.s fs_
      obtain ⟨rT, hT1, hT2, hT3⟩ := st.new g.t ft_
      obtain ⟨aS, iS, tS⟩ := hr2.get hS1
      obtain ⟨aT, iT, tT⟩ := hr2.get hT1
      have wS := NwL.at_ (nw := nw) fs_
      have wT := NwL.at_ (nw := nw) ft_
      dsimp only [List.set]
      walk_at "go"
      refine ⟨W, _, _, _, rfl, rfl, SqL.of hw2, wS, ?_⟩
      refine ⟨R, _, _, _, rfl, rfl, SqL.of hr2.sq, iS, ?_⟩
      walk_at "go"
      refine ⟨aS, _, _, _, rfl, rfl, SqT.of tS, rc_1 rS, ?_⟩
      walk_at "go"
      refine ⟨false, tt, ds, rS.d, rfl, SqT.of e2, o.pos, by omega, ?_⟩
      rw [o.dv]
      walk_at "go"
      refine ⟨W, _, _, _, rfl, rfl, SqL.of hw2, wT, ?_⟩
      refine ⟨R, _, _, _, rfl, rfl, SqL.of hr2.sq, iT, ?_⟩
      walk_at "go"
      refine ⟨aT, _, _, _, rfl, rfl, SqT.of tT, rc_1 rT, ?_⟩
      walk_at "go"
      rw [hS3, hT3]
      refine ite2 (fun e => ?_) (fun e => ?_)
      · have e : y g.t < g.F (y g.s) := of_decide_eq_true e
        obtain ⟨sta2, cT⟩ := sta.step (d := g.F (y g.s)) (bp := some (j, nw g.s)) fj e hS1
        have st2 := st.step fj fs_ ft_ e hS1
        have ej : (T * ys.length + j) % (fcs ys).length = j := by rw [ly, Nat.mul_add_mod', Nat.mod_eq_of_lt hj]
        have rn2 := rn.raise ej fj e hS1
        walk_at "go"
        refine ⟨W, _, _, _, rfl, rfl, SqL.of hw2, wS, ?_⟩
        refine ⟨R, _, _, _, rfl, rfl, SqL.of hr2.sq, iS, ?_⟩
        walk_at "go"
        refine ⟨aS, _, _, _, rfl, rfl, SqT.of tS, rc_4 rS, ?_⟩
        walk_at "go"
        refine ⟨.inl ⟨rfl, _, SqL.of hr2.sq⟩, ?_⟩
        walk_at "go"
        refine ⟨W, _, _, _, rfl, rfl, SqL.of hw2, wS, ?_⟩
        walk_at "go"
        intro t nt
        have st_ := same_new (o := .tup (rcV ⟨g.t, g.F (y g.s), some (j, nw g.s), rS.c + 1⟩)) nt
        have hr3 := hr2.put st_ nt (r := ⟨g.t, g.F (y g.s), some (j, nw g.s), rS.c + 1⟩) upd_same
        have hw3 : NwL (upd J2 t (.tup (rcV ⟨g.t, g.F (y g.s), some (j, nw g.s), rS.c + 1⟩))) W many nw := st_ _ _ hw2
        have sq3 := st_ _ _ hr2.sq
        have s3 := s12.trans st_
        have et : upd J2 t (.tup [.int (g.t : Int), .int (g.F (y g.s)), .int (j : Int), .int (nw g.s : Int), .int ((rS.c : Int) + 1)]) = upd J2 t (.tup (rcV ⟨g.t, g.F (y g.s), some (j, nw g.s), rS.c + 1⟩)) := rfl
        dsimp only
        rw [et]
        generalize upd J2 t (.tup (rcV ⟨g.t, g.F (y g.s), some (j, nw g.s), rS.c + 1⟩)) = J3 at hr3 hw3 sq3 s3
        walk_at "go"
        have lz : rs.length < 150000 := by
          have h1 : T * ys.length + ys.length ≤ (most + 1) * (ys.length + 1) := by
            have a1 : T * ys.length ≤ most * (ys.length + 1) := Nat.mul_le_mul Tm (Nat.le_succ _)
            have a2 : (most + 1) * (ys.length + 1) = most * (ys.length + 1) + (ys.length + 1) := by rw [Nat.add_mul, Nat.one_mul]
            omega
          omega
        refine ⟨_, _, _, rfl, rfl, sq3, by rw [List.length_map]; exact szC (by omega), ?_⟩
        have s4 : Same H (upd J3 R (.lst ((rs.map fun z => V.ref z.1) ++ [.ref t]))) := Z.Same.mut s3 nRH
        have hw4 : NwL (upd J3 R (.lst ((rs.map fun z => V.ref z.1) ++ [.ref t]))) W many nw := by
          show (upd J3 R _) W = _
          rw [upd_ne RW.symm]
          exact hw3
        generalize upd J3 R (.lst ((rs.map fun z => V.ref z.1) ++ [.ref t])) = J4 at hr3 hw4 s4
        walk_at "go"
        refine ⟨R, _, rfl, .inl (SqL.of hr3.sq), ?_⟩
        rw [List.length_map, List.length_append]
        walk_at "go"
        refine ⟨W, _, _, g.t, rfl, rfl, hw4, by rw [List.length_map, List.length_range]; exact ixN_nat ft_, ?_⟩
        have e5 : ((rs.length + [(t, (⟨g.t, g.F (y g.s), some (j, nw g.s), rS.c + 1⟩ : Dl.Rc))].length : Nat) : Int) - 1 = (rs.length : Int) := by
          rw [List.length_singleton]
          omega
        dsimp only
        rw [e5, nw_set ft_]
        have el : (rcs rs).length = rs.length := List.length_map ..
        rw [el] at st2 sta2 rn2
        have ea : rcs rs ++ [⟨g.t, g.F (y g.s), some (j, nw g.s), rS.c + 1⟩] = rcs (rs ++ [(t, ⟨g.t, g.F (y g.s), some (j, nw g.s), rS.c + 1⟩)]) := by
          unfold rcs
          rw [List.map_append]
          rfl
        rw [ea] at st2 sta2
        have rnE := fun b => rn.ends (rn2) (b : Dl.Byd limit most _)
        have rnM := fun b => rn.more (rn2) (b : ¬ Dl.Byd limit most _)
        rw [ea] at rnE rnM
        have hr5 : RcL (upd J4 W (.lst ((List.range many).map fun k => V.int ((if k = g.t then rs.length else nw k : Nat) : Int)))) R (rs ++ [(t, ⟨g.t, g.F (y g.s), some (j, nw g.s), rS.c + 1⟩)]) :=
          ⟨by rw [upd_ne RW]; exact hr3.sq, fun z m => by rw [upd_ne (fun q => by have := hr3.at_ z m; rw [q, hw4] at this; cases this)]; exact hr3.at_ z m⟩
        have hw5 : NwL (upd J4 W (.lst ((List.range many).map fun k => V.int ((if k = g.t then rs.length else nw k : Nat) : Int)))) W many (fun k => if k = g.t then rs.length else nw k) := upd_same
        have s5 := Z.Same.mut (o := .lst ((List.range many).map fun k => V.int ((if k = g.t then rs.length else nw k : Nat) : Int))) s4 nWH
        generalize upd J4 W (.lst ((List.range many).map fun k => V.int ((if k = g.t then rs.length else nw k : Nat) : Int))) = J5 at hr5 hw5 s5
        clear hr3 hw4 s4 hw3 sq3 s3 et e5
        walk_at "go"
        refine ite2 (fun e1 => ?_) (fun e1 => ?_)
        · have e1 : limit < g.F (y g.s) := of_decide_eq_true e1
          walk_at "go"
          intro u nu
          have s6 := same_new (o := .tup [.ref R, .ref W, .bl true]) nu
          refine q2 u R W _ ⟨g.t, g.F (y g.s), some (j, nw g.s), rS.c + 1⟩ _ _ _ (s5.trans s6) upd_same (hr5.mono s6) st2 ?_ (.inl e1) (rnE (.inl e1))
          rw [List.length_append, List.length_singleton, Nat.add_sub_cancel, ← ea, ← el]
          exact Dl.get_new _ _
        · walk_at "go"
          refine ite2 (fun e2 => ?_) (fun e2 => ?_)
          · have e2 : (most : Int) < (rS.c : Int) + 1 := of_decide_eq_true e2
            walk_at "go"
            intro u nu
            have s6 := same_new (o := .tup [.ref R, .ref W, .bl true]) nu
            refine q2 u R W _ ⟨g.t, g.F (y g.s), some (j, nw g.s), rS.c + 1⟩ _ _ _ (s5.trans s6) upd_same (hr5.mono s6) st2 ?_ (.inr (by dsimp only; omega)) (rnE (.inr (by dsimp only; omega)))
            rw [List.length_append, List.length_singleton, Nat.add_sub_cancel, ← ea, ← el]
            exact Dl.get_new _ _
          · have e2 : ¬ (most : Int) < (rS.c : Int) + 1 := fun z => e2 (decide_eq_true z)
            refine ⟨_, _, _, true, s5, hr5, hw5, st2, sta2, ?_, (fun z => by cases z), fun _ => by omega, ?_, rnM ?_, _, _, _, _, _, _, rfl⟩
            · rw [tk, List.foldl_append, ← ey]
              rfl
            · rw [List.length_append, List.length_singleton]
              omega
            · rintro (z | z)
              · exact e1 (decide_eq_true z)
              · have z : most < rS.c + 1 := z
                omega
      · have e : ¬ y g.t < g.F (y g.s) := fun z => e (decide_eq_true z)
        have ej : (T * ys.length + j) % (fcs ys).length = j := by rw [ly, Nat.mul_add_mod', Nat.mod_eq_of_lt hj]
        refine ⟨rs, nw, y, ch, s12, hr2, hw2, st, sta.skip fj e, ?_, nc, yc, by omega, rn.same ej fj e, _, _, _, _, _, _, rfl⟩
        rw [tk, List.foldl_append, ← ey]
        show y = Dl.rz y g
        rw [Dl.rz_no e]
    · rintro σ J ⟨rs, nw, y, ch, s1, hr, hw, st, sta, ey, nc, yc, lr, rn, v9, v10, v11, v12, v13, v14, rfl⟩
      rw [List.take_of_length_le (by unfold fcs; rw [List.length_map]; exact Nat.le_refl _)] at ey
      have ey : y = Dl.sw (fcs ys) x := ey
      cases ch
      · have yx := nc rfl
        refine ⟨0, by omega, T, rs, nw, y, false, s1, hr, hw, st, (fun e => by cases e), Tm, by rw [yx]; exact ex, fun _ => ?_, (fun e => by cases e), rfl, ⟨_, rn, fun e => by cases e⟩, _, _, _, _, _, _, rfl⟩
        rw [yx]
        rw [yx] at ey
        exact ey.symm
      · have T1 := yc rfl
        refine ⟨most + 1 - (T + 1), by omega, T + 1, rs, nw, y, true, s1, hr, hw, st, fun _ => ?_, T1, ?_, (fun e => by cases e), fun _ => ?_, rfl, ⟨_, rn, fun _ => by rw [Nat.add_mul, Nat.one_mul]⟩, _, _, _, _, _, _, rfl⟩
        · have : (fcs ys).length = ys.length := by unfold fcs; rw [List.length_map]
          rw [← this] at sta
          exact sta.next
        · rw [ey, ex]
          rfl
        · rw [Nat.add_mul, Nat.one_mul]
          omega
end
end Z
set_option pp.maxSteps 700
set_option Elab.async false
set_option linter.all false
set_option maxRecDepth 100000
set_option maxHeartbeats 4000000
namespace Z
open Dy
open PySem PySem.Spec PyProof.Rows L2
open C8 (pss_cut tCut)
local macro_rules | `(tactic| walk_at "num") => `(tactic| first | rfl | omega | decide | exact Nat.le_of_lt (small1000 (by simp)) | exact ⟨by omega, by omega⟩ | exact ⟨by omega, by omega, by omega⟩ | exact ⟨by decide, by decide, by decide⟩ | exact Or.inl ⟨by omega, by omega⟩ | exact Or.inr ⟨by omega, by omega⟩)
local macro_rules | `(tactic| walk_at "go") => `(tactic| repeat (first | refine ⟨_, rfl, ?_⟩ | refine ⟨_, _, rfl, rfl, ?_⟩ | refine ⟨_, _, rfl, ?_⟩ | (refine ⟨_, _, rfl, rfl, ?_, ?_⟩; focus walk_at "num") | refine Or.inl ⟨_, rfl, ?_⟩ | refine ⟨_, _, _, _, rfl, rfl, (by assumption), (by rfl), ?_⟩ | refine ⟨_, _, _, _, _, rfl, (by assumption), (by assumption), (by assumption), (by rfl), ?_⟩ | refine ⟨rfl, ?_⟩ | (refine And.intro ?_ ?_; focus walk_at "num")))
abbrev s_ring_in : Stmt := topS 21
abbrev N_ring_in : List Str := ["raises", "period", "greatest", "numbers", "event", "day", "number", "parent", "walk"]
abbrev P_ring_in : List Str := ["raises", "period"]
theorem sc_ring_in : FnScope N_ring_in P_ring_in (defScope s_ring_in) := ⟨rfl, rfl, rfl, by decide +kernel, rfl, by decide +kernel, by decide +kernel⟩
/-! ### a dict with numbers as keys -/
def tabI (ks : List Nat) (v : Nat → V) : List (Key × V) := ks.map fun (k : Nat) => ((Sum.inl (k : Int) : Key), v k)
theorem tabI_len (ks : List Nat) (v : Nat → V) : (tabI ks v).length = ks.length := List.length_map ..
theorem inlN {a b : Nat} (h : (Sum.inl (a : Int) : Key) = Sum.inl (b : Int)) : a = b := by
  have := Sum.inl.inj h
  omega
theorem tabI_val (v : Nat → V) (k : Nat) : ∀ ks : List Nat, valV (tabI ks v) (Sum.inl (k : Int)) = if k ∈ ks then some (v k) else none := by
  intro ks
  induction ks with
  | nil => rfl
  | cons j r ih =>
    by_cases e : j = k
    · subst e
      rw [if_pos List.mem_cons_self]
      exact valV_pos rfl
    · have ne : ¬ (Sum.inl (j : Int) : Key) = Sum.inl (k : Int) := fun z => e (inlN z)
      show valV ((Sum.inl (j : Int), v j) :: tabI r v) _ = _
      rw [valV_neg ne, ih]
      by_cases m : k ∈ r
      · rw [if_pos m, if_pos (List.mem_cons_of_mem _ m)]
      · rw [if_neg m, if_neg (fun z => (List.mem_cons.mp z).elim (fun z => e z.symm) m)]
theorem tabI_add {ks : List Nat} {v v' : Nat → V} {k : Nat} (n : k ∉ ks) (h : ∀ j ∈ ks, v' j = v j) : putK (tabI ks v) (Sum.inl (k : Int)) (v' k) = tabI (ks ++ [k]) v' := by
  unfold putK
  rw [valV_any, tabI_val, if_neg n, if_neg (by simp)]
  unfold tabI
  rw [List.map_append]
  congr 1
  exact List.map_congr_left fun j hj => by rw [h j hj]
/-- the greatest day of each event, and where it was met -/
structure GD (H : Hp) (G : Addr) (ks : List Nat) (fi : Nat → Nat) (ga : Nat → Addr) (dn : Nat → Int) : Prop where
  e : H G = some (.dK (tabI ks fun e => .ref (ga e)))
  at_ : ∀ e ∈ ks, H (ga e) = some (.tup [.int (dn (fi e)), .int (fi e : Int)])
theorem GD.mono {H H' : Hp} {G : Addr} {ks : List Nat} {fi : Nat → Nat} {ga : Nat → Addr} {dn : Nat → Int} (s : Same H H') (g : GD H G ks fi ga dn) : GD H' G ks fi ga dn := ⟨s _ _ g.e, fun e m => s _ _ (g.at_ e m)⟩
theorem GD.get {H : Hp} {G : Addr} {ks : List Nat} {fi : Nat → Nat} {ga : Nat → Addr} {dn : Nat → Int} (g : GD H G ks fi ga dn) (k : Nat) : DGet H G (.int (k : Int)) (if k ∈ ks then some (.ref (ga k)) else none) := by
  have z := DGet.k (k := Sum.inl (k : Int)) g.e
  rw [tabI_val] at z
  exact z
theorem cut4 (r : Dl.Rc) : cutV (rcV r) none (some 4) = [.int (r.e : Int), .int r.d, opV (r.bp.map (·.1)), opV (r.bp.map (·.2))] := rfl
theorem lastI {xs : List V} {v : V} (h : xs[xs.length - 1]? = some v) : atI xs (-1) = some v := by
  rcases List.eq_nil_or_concat xs with rfl | ⟨r, x, e⟩
  · cases h
  · rw [List.concat_eq_append] at e
    subst e
    rw [List.length_append, List.length_singleton, Nat.add_sub_cancel, List.getElem?_append_right (Nat.le_refl _), Nat.sub_self] at h
    cases h
    exact atI_last _ _
theorem cut_drop {xs : List V} {a : Nat} (h : a ≤ xs.length) : cutV xs (some (a : Int)) none = xs.drop a := by
  unfold cutV
  have e : HT.sIx xs.length 0 (some (a : Int)) = a := by
    rw [HT.sIx_nat]
    omega
  have e2 : HT.sIx xs.length xs.length none = xs.length := rfl
  rw [e, e2, List.take_of_length_le (by rw [List.length_drop]; omega)]
abbrev evN (rr : List Dl.Rc) (i k : Nat) : Nat := (Dl.rcd rr (Dl.nd rr i k)).e
abbrev dvN (rr : List Dl.Rc) (i k : Nat) : Int := (Dl.rcd rr (Dl.nd rr i k)).d
abbrev bpN (rr : List Dl.Rc) (i k : Nat) : Option (Nat × Nat) := (Dl.rcd rr (Dl.nd rr i k)).bp
/-- what is known of the k raises passed -/
structure Psd (rr : List Dl.Rc) (i C Pd k : Nat) (ks : List Nat) (fi : Nat → Nat) : Prop where
  fk : ∀ e ∈ ks, fi e < k ∧ evN rr i (fi e) = e
  cov : ∀ j, j < k → evN rr i j ∈ ks ∧ fi (evN rr i j) ≤ j
  kc : k ≤ C
  ns : ∀ k', k' < k → ∀ j, j < k' → evN rr i j = evN rr i k' → dvN rr i j < dvN rr i k' + (Pd : Int)
  lk : ks.length ≤ k
def WdI (R Gd N : Addr) (Pd : Nat) (rr : List Dl.Rc) (i C : Nat) (H : Hp) (m : Nat) (σ : L2.St) (J : Hp) : Prop := ∃ (k : Nat) (ks : List Nat) (fi : Nat → Nat) (ga : Nat → Addr), Same H J ∧ GD J Gd ks fi ga (dvN rr i) ∧ J N = some (.lst ((Dl.nums rr i k).map fun (b : Nat) => V.int (b : Int))) ∧ Psd rr i C Pd k ks fi ∧ m = C - k ∧ σ = [some (.ref R), some (.int (Pd : Int)), some (.ref Gd), some (.ref N), some (.int (evN rr i k : Int)), some (.int (dvN rr i k)), some (opV ((bpN rr i k).map (·.1))), some (opV ((bpN rr i k).map (·.2))), none]
section
variable {P : Program} {w : World} {K : PySem.W.Frag} {mg : Str → Option Value} {base : Heap} {f C CD CE : Addr} {fd : FuncData}
def spRingIn (K : PySem.W.Frag) : Sp := fun vs H Q _ => ∃ (R : Addr) (Pd many : Nat) (start G : Int) (fs : List Dl.Fc) (rs : List (Addr × Dl.Rc)) (r0 : Dl.Rc) (nw : Nat → Nat) (x : Dl.Dy), vs = [.ref R, .int (Pd : Int)] ∧ RcL H R rs ∧ Dl.St many fs start (rcs rs) nw x ∧ (rcs rs)[rs.length - 1]? = some r0 ∧ 0 < Pd ∧ 0 ≤ G ∧ (∀ f ∈ fs, ∀ d, f.F d ≤ d + G) ∧ (start + (many : Int) * (Pd + G) < r0.d ∨ many * Pd < r0.c) ∧ r0.c ≤ 100000 ∧
  ∀ (t T : Addr) (bs : List Nat) (d : Int) H', Same H H' → H' t = some (.tup [.str (Str.ofString "ring"), .ref T, .int d]) → H' T = some (.tup (bs.map fun (b : Nat) => V.int (b : Int))) → Dl.IsRing (rcs rs) (rs.length - 1) r0.c Pd bs d → Q (.ref t) H'
theorem ok_ring_in (F : FnP K "ring_in" s_ring_in f fd) (m_len : mg "len" = none) (m_tuple : mg "tuple" = none) : FnOk P w K mg base CX0 1 f fd P_ring_in (spRingIn K) := by
  refine F.ok sc_ring_in (fun vs H Q E h => ?_) (fun cdv A outer s H vs Q E hr h => ?_)
  · obtain ⟨R, Pd, many, start, G, fs, rs, r0, nw, x, rfl, _⟩ := h
    rfl
  · obtain ⟨R, Pd, many, start, G, fs, rs, r0, nw, x, rfl, hR, st, h0, p0, g0, gain, big, c0, q⟩ := h
    refine ⟨_, PSs.nox (pss_cons (ps_set (i := 2) sc_ring_in.nd rfl (by first | exact .inl rfl | exact .inr rfl) pe_dnewK)
      (pss_cons (ps_set (i := 3) sc_ring_in.nd rfl (by first | exact .inl rfl | exact .inr rfl) (pe_lst pa_nil))
      (pss_cons (ps_asg (pe_slice sl_tup (pe_ix ix_list (pv 0) (pe_un un_neg pe_int) (fun _ _ => rfl)) po_none (po_some pe_int)) (pg_tup rfl (pgs_cons (pg_name (i := 4) sc_ring_in.nd rfl (by first | exact .inl rfl | exact .inr rfl)) (pgs_cons (pg_name (i := 5) sc_ring_in.nd rfl (by first | exact .inl rfl | exact .inr rfl)) (pgs_cons (pg_name (i := 6) sc_ring_in.nd rfl (by first | exact .inl rfl | exact .inr rfl)) (pgs_cons (pg_name (i := 7) sc_ring_in.nd rfl (by first | exact .inl rfl | exact .inr rfl)) pgs_nil))))))
      (pss_cons (ps_while PassesOwn.never (PW.pt (pw_or (pt_cmp (pc_dnotin (hu_of hr) (pv 4) (pv 2)) (by rfl)) (pw_or1 (pt_cmpR op_lt (pe_ix ix_tup (pe_dget (hu_of hr) (pv 2) (pv 4) (fun _ _ => rfl)) pe_int (fun _ _ => rfl)) (pe_op op_add (pv 5) (pv 1)) (nomark _)))))
        (pss_cut (ps_if (PW.pt (pw_or (pt_cmp (pc_dnotin (hu_of hr) (pv 4) (pv 2)) (by rfl)) (pw_or1 (pt_cmpR op_lt (pe_ix ix_tup (pe_dget (hu_of hr) (pv 2) (pv 4) (fun _ _ => rfl)) pe_int (fun _ _ => rfl)) (pv 5) (nomark _))))) (pss_one (ps_dput (hu_of hr) (pv 2) (pv 4) (pe_tup (pa_cons (pv 5) (pa_cons (pe_callB call_len_seq (by rfl) m_len PySem.boot_len (pa_cons (pv 3) pa_nil)) pa_nil))) rfl)) pss_nil)
      (pss_cons (ps_expr (pe_bm PySem.F.plainAttrs_list PySem.F.slot_list_append PySem.F.type_list_append mt_append (pv 3) (pa_cons (pv 6) pa_nil)))
      (pss_one (ps_asg (pe_slice sl_tup (pe_ix ix_list (pv 0) (pv 7) (fun _ _ => rfl)) po_none (po_some pe_int)) (pg_tup rfl (pgs_cons (pg_name (i := 4) sc_ring_in.nd rfl (by first | exact .inl rfl | exact .inr rfl)) (pgs_cons (pg_name (i := 5) sc_ring_in.nd rfl (by first | exact .inl rfl | exact .inr rfl)) (pgs_cons (pg_name (i := 6) sc_ring_in.nd rfl (by first | exact .inl rfl | exact .inr rfl)) (pgs_cons (pg_name (i := 7) sc_ring_in.nd rfl (by first | exact .inl rfl | exact .inr rfl)) pgs_nil))))))))))
      (pss_cons (ps_set (i := 8) sc_ring_in.nd rfl (by first | exact .inl rfl | exact .inr rfl) (pe_slice sl_list (pv 3) (po_some (pe_ix ix_tup (pe_dget (hu_of hr) (pv 2) (pv 4) (fun _ _ => rfl)) pe_int (fun _ _ => rfl))) po_none))
      (pss_one (ps_ret (pe_tup (pa_cons pe_str (pa_cons (pe_callTy call_tuple_of (by rfl) m_tuple (by decide +kernel) (pa_cons (pe_revL (pv 8)) pa_nil)) (pa_cons (pv 5) pa_nil))))))))))), ?_⟩
    walk_at "go"
    intro Gd nG
    have s1 := same_new (o := .dK []) nG
    have g1 : GD (upd H Gd (.dK [])) Gd [] (fun _ => 0) (fun _ => R) (fun _ => 0) := ⟨upd_same, fun e m => absurd m (by simp)⟩
    generalize upd H Gd (.dK []) = H1 at s1 g1
    walk_at "go"
    intro N nN
    have s2 := same_new (o := .lst []) nN
    have g2 := g1.mono s2
    have hR2 := hR.mono (s1.trans s2)
    have s12 := s1.trans s2
    have eN : (upd H1 N (.lst [])) N = some (.lst []) := upd_same
    have nNH := none_of s1 nN
    have nGH : H Gd = none := nG
    have GN : Gd ≠ N := ne_of_none g1.e nN
    generalize upd H1 N (.lst []) = H2 at s12 g2 hR2 eN
    clear s1 s2 g1 nG nN
    obtain ⟨aL, iL, tL⟩ : ∃ a, (rs.map fun z => V.ref z.1)[rs.length - 1]? = some (.ref a) ∧ H2 a = some (.tup (rcV r0)) := by
      have e := h0
      unfold rcs at e
      rw [List.getElem?_map] at e
      obtain ⟨z, ez, rfl⟩ := Option.map_eq_some_iff.mp e
      exact ⟨z.1, by rw [List.getElem?_map, ez]; rfl, hR2.at_ z (List.mem_of_getElem? ez)⟩
    have iL : atI (rs.map fun z => V.ref z.1) (-1) = some (.ref aL) := lastI (by rw [List.length_map]; exact iL)
    dsimp only [List.set]
    walk_at "go"
    refine ⟨R, _, _, _, rfl, rfl, SqL.of hR2.sq, iL, ?_⟩
    walk_at "go"
    refine ⟨aL, _, rfl, SqT.of tL, fun y => absurd (show (4 : Nat) = 5 from y.2) (by decide), fun T nT => ?_⟩
    rw [cut4]
    have sT := same_new (o := .tup [.int (r0.e : Int), .int r0.d, opV (r0.bp.map (·.1)), opV (r0.bp.map (·.2))]) nT
    have eT : (upd H2 T (.tup [.int (r0.e : Int), .int r0.d, opV (r0.bp.map (·.1)), opV (r0.bp.map (·.2))])) T = some (.tup [.int (r0.e : Int), .int r0.d, opV (r0.bp.map (·.1)), opV (r0.bp.map (·.2))]) := upd_same
    have g3 := g2.mono sT
    have s3 := s12.trans sT
    have eN3 := sT _ _ eN
    generalize upd H2 T (.tup [.int (r0.e : Int), .int r0.d, opV (r0.bp.map (·.1)), opV (r0.bp.map (·.2))]) = H3 at sT eT g3 s3 eN3
    clear g2 s12 eN tL iL nT hR2
    refine ⟨T, _, rfl, SqT.of eT, rfl, _, _, rfl, _, _, rfl, _, _, rfl, _, _, rfl, rfl, ?_⟩
    dsimp only [List.set]
    obtain ⟨rr, err⟩ : ∃ rr, rr = rcs rs := ⟨_, rfl⟩
    rw [← err] at st h0
    generalize ei0 : rs.length - 1 = i0 at h0
    have n0 : Dl.rcd rr (Dl.nd rr i0 0) = r0 := Dl.rcd_of h0
    have stop := Dl.ring_stop st h0 p0 g0 gain big
    have dec : ∀ k j, j < k → k ≤ r0.c → (Dl.rcd rr (Dl.nd rr i0 j)).e = (Dl.rcd rr (Dl.nd rr i0 k)).e → (Dl.rcd rr (Dl.nd rr i0 k)).d < (Dl.rcd rr (Dl.nd rr i0 j)).d := fun k j h1 h2 h3 => by
      obtain ⟨r, a1, _⟩ := st.node h0 k h2
      obtain ⟨q, b1, _⟩ := st.node h0 j (by omega)
      rw [Dl.rcd_of a1, Dl.rcd_of b1] at h3 ⊢
      exact st.inc _ _ r q (st.ord h0 k h1 h2) a1 b1 h3.symm
    walk_at "go"
    refine ⟨fun m σ J => WdI R Gd N Pd rr i0 r0.c H m σ J, ?_, ?_⟩
    · exact ⟨_, 0, [], fun _ => 0, fun _ => R, s3, ⟨g3.e, fun e m => absurd m (by simp)⟩, eN3, ⟨fun e m => absurd m (by simp), fun j h => absurd h (Nat.not_lt_zero _), Nat.zero_le _, fun k h => absurd h (Nat.not_lt_zero _), Nat.zero_le _⟩, rfl, by unfold evN dvN bpN; rw [n0]; rfl⟩
    clear g3 eN3 s3 sT eT
    rintro m σ J ⟨k, ks, fi, ga, sJ, gJ, eJ, ps, rfl, rfl⟩
    have kc := ps.kc
    have lk := ps.lk
    obtain ⟨tb, htb⟩ : ∃ tb : Bool, tb = true ↔ ¬ (evN rr i0 k ∈ ks ∧ dvN rr i0 k + (Pd : Int) ≤ dvN rr i0 (fi (evN rr i0 k))) := ⟨decide _, decide_eq_true_iff⟩
    refine (show ∀ Qf : Bool → Hp → Prop, Qf tb J → tOr _ _ _ J Qf from fun Qf hq => ?_) _ ?_
    · walk_at "go"
      by_cases m : evN rr i0 k ∈ ks
      · have gg := gJ.get (evN rr i0 k)
        rw [if_pos m] at gg
        refine ⟨Gd, _, rfl, gg, ?_⟩
        walk_at "go"
        refine ⟨Gd, _, rfl, gg, ?_⟩
        walk_at "go"
        refine ⟨_, _, _, _, rfl, rfl, SqT.of (gJ.at_ _ m), (atI_nat (j := 0) rfl : atI [V.int (dvN rr i0 (fi (evN rr i0 k))), V.int (fi (evN rr i0 k) : Int)] 0 = _), ?_⟩
        walk_at "go"
        by_cases c : dvN rr i0 (fi (evN rr i0 k)) < dvN rr i0 k + (Pd : Int)
        · rw [decide_eq_true c]
          rw [htb.mpr (fun z => by have := z.2; omega)] at hq
          exact hq
        · rw [decide_eq_false c]
          have : tb = false := by
            cases tb
            · rfl
            · exact absurd ⟨m, by omega⟩ (htb.mp rfl)
          rw [this] at hq
          exact hq
      · have gg := gJ.get (evN rr i0 k)
        rw [if_neg m] at gg
        refine ⟨Gd, _, rfl, gg, ?_⟩
        walk_at "go"
        rw [htb.mpr (fun z => m z.1)] at hq
        exact hq
    refine ite2 (fun e => ?_) (fun e => ?_)
    · have ng := htb.mp e
      -- no ring with the k-th
      have nk : ∀ j, j < k → evN rr i0 j = evN rr i0 k → dvN rr i0 j < dvN rr i0 k + (Pd : Int) := fun j hj he => by
        obtain ⟨m1, m2⟩ := ps.cov j hj
        rw [he] at m1 m2
        have h1 : ¬ dvN rr i0 k + (Pd : Int) ≤ dvN rr i0 (fi (evN rr i0 k)) := fun z => ng ⟨m1, z⟩
        by_cases c : fi (evN rr i0 k) = j
        · rw [c] at h1
          omega
        · have := dec j (fi (evN rr i0 k)) (by omega) (by omega) ((ps.fk _ m1).2.trans he.symm)
          have : dvN rr i0 j < dvN rr i0 (fi (evN rr i0 k)) := this
          omega
      have kC : k < r0.c := Nat.lt_of_le_of_ne kc fun z => by
        obtain ⟨k', j, h1, h2, h3, h4⟩ := stop
        by_cases c : k' = k
        · subst c
          have := nk j h1 h3
          have h4 : dvN rr i0 k' + (Pd : Int) ≤ dvN rr i0 j := h4
          omega
        · have := ps.ns k' (by omega) j h1 h3
          have h4 : dvN rr i0 k' + (Pd : Int) ≤ dvN rr i0 j := h4
          omega
      obtain ⟨b, fb, rk, qk, b1, b2, b3, _, b5, _⟩ := st.back h0 kC
      have ebp : bpN rr i0 k = some (b, Dl.nd rr i0 (k + 1)) := by
        unfold bpN
        rw [Dl.rcd_of b1, b3]
      have ebn : Dl.bnd rr i0 k = b := by
        unfold Dl.bnd
        rw [show (Dl.rcd rr (Dl.nd rr i0 k)).bp = some (b, Dl.nd rr i0 (k + 1)) from ebp]
        rfl
      rw [ebp]
      have eq1 : Dl.rcd rr (Dl.nd rr i0 (k + 1)) = qk := Dl.rcd_of b2
      refine ⟨fun σ' J' => ∃ m', m' < r0.c - k ∧ WdI R Gd N Pd rr i0 r0.c H m' σ' J', fun σ' J' z => z, ?_⟩
      refine ⟨fun σ' J' => ∃ (ks' : List Nat) (fi' : Nat → Nat) (ga' : Nat → Addr), Same H J' ∧ GD J' Gd ks' fi' ga' (dvN rr i0) ∧ J' N = some (.lst ((Dl.nums rr i0 k).map fun (b : Nat) => V.int (b : Int))) ∧ Psd rr i0 r0.c Pd (k + 1) ks' fi' ∧ σ' = [some (.ref R), some (.int (Pd : Int)), some (.ref Gd), some (.ref N), some (.int (evN rr i0 k : Int)), some (.int (dvN rr i0 k)), some (.int (b : Int)), some (.int (Dl.nd rr i0 (k + 1) : Int)), none], ?_, ?_⟩
      · walk_at "go"
        by_cases m : evN rr i0 k ∈ ks
        · have gg := gJ.get (evN rr i0 k)
          rw [if_pos m] at gg
          refine ⟨Gd, _, rfl, gg, ?_⟩
          walk_at "go"
          refine ⟨Gd, _, rfl, gg, ?_⟩
          walk_at "go"
          refine ⟨_, _, _, _, rfl, rfl, SqT.of (gJ.at_ _ m), (atI_nat (j := 0) rfl : atI [V.int (dvN rr i0 (fi (evN rr i0 k))), V.int (fi (evN rr i0 k) : Int)] 0 = _), ?_⟩
          walk_at "go"
          obtain ⟨f1, f2⟩ := ps.fk _ m
          have dk : dvN rr i0 k < dvN rr i0 (fi (evN rr i0 k)) := dec k _ f1 kc f2
          rw [decide_eq_false (by omega)]
          walk_at "go"
          refine ⟨ks, fi, ga, sJ, gJ, eJ, ⟨fun e he => ⟨Nat.lt_succ_of_lt (ps.fk e he).1, (ps.fk e he).2⟩, fun j hj => ?_, kC, fun k' hk' => ?_, Nat.le_succ_of_le lk⟩, rfl⟩
          · by_cases c : j = k
            · subst c
              exact ⟨m, Nat.le_of_lt f1⟩
            · exact ps.cov j (by omega)
          · by_cases c : k' = k
            · subst c
              exact nk
            · exact ps.ns k' (by omega)
        · have gg := gJ.get (evN rr i0 k)
          rw [if_neg m] at gg
          refine ⟨Gd, _, rfl, gg, ?_⟩
          walk_at "go"
          refine ⟨N, _, rfl, .inl (SqL.of eJ), ?_⟩
          rw [List.length_map, Dl.nums_len]
          walk_at "go"
          intro t nt
          walk_at "go"
          have sT := same_new (o := .tup [.int (dvN rr i0 k), .int (k : Int)]) nt
          have et : (upd J t (.tup [.int (dvN rr i0 k), .int (k : Int)])) t = some (.tup [.int (dvN rr i0 k), .int (k : Int)]) := upd_same
          have gt := gJ.mono sT
          have eJt := sT _ _ eJ
          have sHt := sJ.trans sT
          generalize upd J t (.tup [.int (dvN rr i0 k), .int (k : Int)]) = J1 at sT et gt eJt sHt
          have pk : putK (tabI ks fun e => V.ref (ga e)) (Sum.inl (evN rr i0 k : Int)) (.ref t) = tabI (ks ++ [evN rr i0 k]) fun e => V.ref (if e = evN rr i0 k then t else ga e) := by
            have z := tabI_add (v := fun e => V.ref (ga e)) (v' := fun e => V.ref (if e = evN rr i0 k then t else ga e)) m (fun j hj => congrArg V.ref (if_neg (fun (z : j = evN rr i0 k) => m (by rw [← z]; exact hj))))
            rw [if_pos rfl] at z
            exact z
          have dp := DPut.k (k := Sum.inl (evN rr i0 k : Int)) (v := .ref t) gt.e (by rw [tabI_len]; exact szC (by omega))
          rw [pk] at dp
          refine ⟨Gd, _, rfl, dp, ?_⟩
          refine ⟨ks ++ [evN rr i0 k], fun e => if e = evN rr i0 k then k else fi e, fun e => if e = evN rr i0 k then t else ga e, Z.Same.mut sHt nGH, ⟨upd_same, fun e he => ?_⟩, by rw [upd_ne GN.symm]; exact eJt, ⟨fun e he => ?_, fun j hj => ?_, kC, fun k' hk' => ?_, by rw [List.length_append, List.length_singleton]; omega⟩, rfl⟩
          · by_cases c : e = evN rr i0 k
            · rw [if_pos c, if_pos c, upd_ne (fun z => by rw [z, gt.e] at et; cases et)]
              exact et
            · have he : e ∈ ks := (List.mem_append.mp he).elim id fun z => absurd (List.mem_singleton.mp z) c
              rw [if_neg c, if_neg c, upd_ne (fun z => by have := gt.at_ e he; rw [z, gt.e] at this; cases this)]
              exact gt.at_ e he
          · by_cases c : e = evN rr i0 k
            · rw [if_pos c]
              exact ⟨Nat.lt_succ_self k, c.symm⟩
            · have he : e ∈ ks := (List.mem_append.mp he).elim id fun z => absurd (List.mem_singleton.mp z) c
              rw [if_neg c]
              exact ⟨Nat.lt_succ_of_lt (ps.fk e he).1, (ps.fk e he).2⟩
          · by_cases c : j = k
            · subst c
              rw [if_pos rfl]
              exact ⟨by simp, Nat.le_refl _⟩
            · obtain ⟨z1, z2⟩ := ps.cov j (by omega)
              rw [if_neg (fun z => m (by rw [← z]; exact z1))]
              exact ⟨List.mem_append_left _ z1, z2⟩
          · by_cases c : k' = k
            · subst c
              exact nk
            · exact ps.ns k' (by omega)
      rintro σ' J' ⟨ks', fi', ga', sJ', gJ', eJ', ps', rfl⟩
      walk_at "go"
      refine ⟨.inl ⟨rfl, _, SqL.of eJ'⟩, ?_⟩
      walk_at "go"
      refine ⟨_, _, _, rfl, rfl, eJ', by rw [List.length_map, Dl.nums_len]; exact szC (by omega), ?_⟩
      have eA : (Dl.nums rr i0 k).map (fun (b : Nat) => V.int (b : Int)) ++ [V.int (b : Int)] = (Dl.nums rr i0 (k + 1)).map fun (b : Nat) => V.int (b : Int) := by
        rw [Dl.nums_succ, List.map_append, ebn]
        rfl
      rw [eA]
      have s5 := Z.Same.mut (o := .lst ((Dl.nums rr i0 (k + 1)).map fun (b : Nat) => V.int (b : Int))) sJ' nNH
      have e5 : (upd J' N (.lst ((Dl.nums rr i0 (k + 1)).map fun (b : Nat) => V.int (b : Int)))) N = some (.lst ((Dl.nums rr i0 (k + 1)).map fun (b : Nat) => V.int (b : Int))) := upd_same
      have g5 : GD (upd J' N (.lst ((Dl.nums rr i0 (k + 1)).map fun (b : Nat) => V.int (b : Int)))) Gd ks' fi' ga' (dvN rr i0) := ⟨by rw [upd_ne GN]; exact gJ'.e, fun e m => by rw [upd_ne (fun z => by have := gJ'.at_ e m; rw [z, eJ'] at this; cases this)]; exact gJ'.at_ e m⟩
      generalize upd J' N (.lst ((Dl.nums rr i0 (k + 1)).map fun (b : Nat) => V.int (b : Int))) = J5 at s5 e5 g5
      clear gJ' eJ' sJ' gJ eJ sJ
      have hR5 := hR.mono s5
      obtain ⟨aP, iP, tP⟩ := hR5.get (i := Dl.nd rr i0 (k + 1)) (r := qk) (by rw [err] at b2 ⊢; exact b2)
      walk_at "go"
      refine ⟨R, _, _, _, rfl, rfl, SqL.of hR5.sq, iP, ?_⟩
      walk_at "go"
      refine ⟨aP, _, rfl, SqT.of tP, fun y => absurd (show (4 : Nat) = 5 from y.2) (by decide), fun T nT => ?_⟩
      rw [cut4]
      have sT := same_new (o := .tup [.int (qk.e : Int), .int qk.d, opV (qk.bp.map (·.1)), opV (qk.bp.map (·.2))]) nT
      have eT : (upd J5 T (.tup [.int (qk.e : Int), .int qk.d, opV (qk.bp.map (·.1)), opV (qk.bp.map (·.2))])) T = some (.tup [.int (qk.e : Int), .int qk.d, opV (qk.bp.map (·.1)), opV (qk.bp.map (·.2))]) := upd_same
      have g6 := g5.mono sT
      have s6 := s5.trans sT
      have e6 := sT _ _ e5
      generalize upd J5 T (.tup [.int (qk.e : Int), .int qk.d, opV (qk.bp.map (·.1)), opV (qk.bp.map (·.2))]) = J6 at sT eT g6 s6 e6
      refine ⟨T, _, rfl, SqT.of eT, rfl, _, _, rfl, _, _, rfl, _, _, rfl, _, _, rfl, rfl, ?_⟩
      refine ⟨r0.c - (k + 1), by omega, k + 1, ks', fi', ga', s6, g6, e6, ps', rfl, ?_⟩
      unfold evN dvN bpN
      rw [eq1]
      rfl
    · have ht : evN rr i0 k ∈ ks ∧ dvN rr i0 k + (Pd : Int) ≤ dvN rr i0 (fi (evN rr i0 k)) := Classical.byContradiction fun z => e (htb.mpr z)
      walk_at "go"
      have gg := gJ.get (evN rr i0 k)
      rw [if_pos ht.1] at gg
      refine ⟨Gd, _, rfl, gg, ?_⟩
      walk_at "go"
      refine ⟨_, _, _, _, rfl, rfl, SqT.of (gJ.at_ _ ht.1), (atI_nat (j := 1) rfl : atI [V.int (dvN rr i0 (fi (evN rr i0 k))), V.int (fi (evN rr i0 k) : Int)] 1 = _), ?_⟩
      walk_at "go"
      obtain ⟨f1, f2⟩ := ps.fk _ ht.1
      refine ⟨N, _, rfl, SqL.of eJ, fun W nW => ?_⟩
      rw [cut_drop (by rw [List.length_map, Dl.nums_len]; omega), ← List.map_drop]
      have sW := same_new (o := .lst (((Dl.nums rr i0 k).drop (fi (evN rr i0 k))).map fun (b : Nat) => V.int (b : Int))) nW
      have eW : (upd J W (.lst (((Dl.nums rr i0 k).drop (fi (evN rr i0 k))).map fun (b : Nat) => V.int (b : Int)))) W = some (.lst (((Dl.nums rr i0 k).drop (fi (evN rr i0 k))).map fun (b : Nat) => V.int (b : Int))) := upd_same
      have s5 := sJ.trans sW
      generalize upd J W (.lst (((Dl.nums rr i0 k).drop (fi (evN rr i0 k))).map fun (b : Nat) => V.int (b : Int))) = J1 at sW eW s5
      walk_at "go"
      refine ⟨W, _, rfl, SqL.of eW, fun Vq nV => ?_⟩
      rw [← List.map_reverse]
      have sV := same_new (o := .lst ((((Dl.nums rr i0 k).drop (fi (evN rr i0 k))).reverse).map fun (b : Nat) => V.int (b : Int))) nV
      have eV : (upd J1 Vq (.lst ((((Dl.nums rr i0 k).drop (fi (evN rr i0 k))).reverse).map fun (b : Nat) => V.int (b : Int)))) Vq = some (.lst ((((Dl.nums rr i0 k).drop (fi (evN rr i0 k))).reverse).map fun (b : Nat) => V.int (b : Int))) := upd_same
      have s6 := s5.trans sV
      generalize upd J1 Vq (.lst ((((Dl.nums rr i0 k).drop (fi (evN rr i0 k))).reverse).map fun (b : Nat) => V.int (b : Int))) = J2 at sV eV s6
      walk_at "go"
      refine ⟨Vq, _, rfl, .inl ⟨SqL.of eV, fun U nU => ?_⟩⟩
      have sU := same_new (o := .tup ((((Dl.nums rr i0 k).drop (fi (evN rr i0 k))).reverse).map fun (b : Nat) => V.int (b : Int))) nU
      have eU : (upd J2 U (.tup ((((Dl.nums rr i0 k).drop (fi (evN rr i0 k))).reverse).map fun (b : Nat) => V.int (b : Int)))) U = some (.tup ((((Dl.nums rr i0 k).drop (fi (evN rr i0 k))).reverse).map fun (b : Nat) => V.int (b : Int))) := upd_same
      have s7 := s6.trans sU
      generalize upd J2 U (.tup ((((Dl.nums rr i0 k).drop (fi (evN rr i0 k))).reverse).map fun (b : Nat) => V.int (b : Int))) = J3 at sU eU s7
      walk_at "go"
      intro t nt
      have st_ := same_new (o := .tup [.str (Str.ofString "ring"), .ref U, .int (dvN rr i0 k)]) nt
      refine q t U _ _ _ (s7.trans st_) upd_same (st_ _ _ eU) ?_
      rw [← err, ei0]
      exact ⟨k, fi (evN rr i0 k), kc, f1, f2, ht.2, ps.ns, fun j' h1 h2 => by have := (ps.cov j' h1).2; rw [show evN rr i0 j' = evN rr i0 k from h2] at this; exact this, rfl, rfl⟩
end
end Z
set_option pp.maxSteps 700
set_option Elab.async false
set_option linter.all false
set_option maxRecDepth 100000
set_option maxHeartbeats 4000000
namespace Dl
def GainOf (fs : List Fc) (G : Int) : Prop := 0 ≤ G ∧ (∀ f ∈ fs, ∀ d, f.F d ≤ d + G) ∧ (G = 0 ∨ ∃ f ∈ fs, ∃ d, f.F d = d + G)
theorem GainOf.uniq {fs : List Fc} {G G' : Int} (h : GainOf fs G) (k : GainOf fs G') : G = G' := by
  have le : ∀ {A B : Int}, GainOf fs A → GainOf fs B → A ≤ B := fun {A B} a b => by
    rcases a.2.2 with e | ⟨f, m, d, e⟩
    · have := b.1
      omega
    · have := b.2.1 f m d
      omega
  have := le h k
  have := le k h
  omega
def DaysA (fs : List Fc) (many : Nat) (start : Int) (Pd : Nat) (x : Dy) : Prop := (∃ T, x = swn fs T (fun _ => start) ∧ T ≤ many * Pd) ∧ sw fs x = x ∧ ∃ G n rs nw, GainOf fs G ∧ Rn fs many start (start + (many : Int) * ((Pd : Int) + G)) (many * Pd) n rs nw x
def RingA (fs : List Fc) (many : Nat) (start : Int) (Pd : Nat) (bs : List Nat) (d : Int) : Prop := (RingOf fs Pd bs d ∧ (∀ b ∈ bs, b < fs.length) ∧ bs.length ≤ many * Pd + 1) ∧ ∃ G rs r0, GainOf fs G ∧ Ends fs many start (start + (many : Int) * ((Pd : Int) + G)) (many * Pd) rs ∧ rs[rs.length - 1]? = some r0 ∧ IsRing rs (rs.length - 1) r0.c Pd bs d
theorem DaysA.uniq {fs : List Fc} {many : Nat} {start : Int} {Pd : Nat} {x y : Dy} (h : DaysA fs many start Pd x) (k : DaysA fs many start Pd y) : x = y := by
  obtain ⟨⟨T, a1, _⟩, a2, _⟩ := h
  obtain ⟨⟨U, b1, _⟩, b2, _⟩ := k
  exact swn_det a1 a2 b1 b2
theorem RingA.uniq {fs : List Fc} {many : Nat} {start : Int} {Pd : Nat} {bs bs' : List Nat} {d d' : Int} (h : RingA fs many start Pd bs d) (k : RingA fs many start Pd bs' d') : bs = bs' ∧ d = d' := by
  obtain ⟨_, G, rs, r0, a1, a2, a3, a4⟩ := h
  obtain ⟨_, G', rs', r0', b1, b2, b3, b4⟩ := k
  have := a1.uniq b1
  subst this
  have := a2.uniq b2
  subst this
  exact a4.uniq b4
theorem DaysA.not_ring {fs : List Fc} {many : Nat} {start : Int} {Pd : Nat} {x : Dy} {bs : List Nat} {d : Int} (h : DaysA fs many start Pd x) (k : RingA fs many start Pd bs d) : False := by
  obtain ⟨_, fx, G, n, rs, nw, a1, a2⟩ := h
  obtain ⟨_, G', rs', r0, b1, b2, _⟩ := k
  have := a1.uniq b1
  subst this
  exact a2.not_ends fx b2
theorem Ends.cnt {fs : List Fc} {many : Nat} {start limit : Int} {most : Nat} {rs : List Rc} {nw : Nat → Nat} {x : Dy} (s : St many fs start rs nw x) (h : Ends fs many start limit most rs) {r0 : Rc} (h0 : rs[rs.length - 1]? = some r0) : r0.c ≤ most + 1 := by
  obtain ⟨n, pre, r, _, e, _, no⟩ := h
  rcases s.low h0 with ⟨_, z, _⟩ | ⟨hm, _⟩
  · omega
  · obtain ⟨b, p, f, q, g1, g2, g3, g4, g5, g6, g7, g8⟩ := s.link _ r0 h0 hm
    have : q ∈ pre := by
      have lp : rs.length - 1 = pre.length := by rw [e]; simp
      rw [lp] at g2
      rw [e, List.getElem?_append_left g2] at g4
      exact List.mem_of_getElem? g4
    have := no q this
    have h2 : ¬ most < q.c := fun z => this (.inr z)
    omega
end Dl
namespace Z
open Dy
open PySem PySem.Spec PyProof.Rows L2
open C8 (pss_cut tCut)
local macro_rules | `(tactic| walk_at "num") => `(tactic| first | rfl | omega | decide | exact Nat.le_of_lt (small1000 (by simp)) | exact ⟨by omega, by omega⟩ | exact ⟨by omega, by omega, by omega⟩ | exact ⟨by decide, by decide, by decide⟩ | exact Or.inl ⟨by omega, by omega⟩ | exact Or.inr ⟨by omega, by omega⟩)
local macro_rules | `(tactic| walk_at "go") => `(tactic| repeat (first | refine ⟨_, rfl, ?_⟩ | refine ⟨_, _, rfl, rfl, ?_⟩ | refine ⟨_, _, rfl, ?_⟩ | (refine ⟨_, _, rfl, rfl, ?_, ?_⟩; focus walk_at "num") | refine Or.inl ⟨_, rfl, ?_⟩ | refine ⟨_, _, _, _, rfl, rfl, (by assumption), (by rfl), ?_⟩ | refine ⟨_, _, _, _, _, rfl, (by assumption), (by assumption), (by assumption), (by rfl), ?_⟩ | refine ⟨rfl, ?_⟩ | (refine And.intro ?_ ?_; focus walk_at "num")))
abbrev s_plan_days : Stmt := topS 22
abbrev N_plan_days : List Str := ["many", "bounds", "start", "forces", "bound", "period", "limit", "raises", "newest", "endless", "at"]
abbrev P_plan_days : List Str := ["many", "bounds", "start"]
theorem sc_plan_days : FnScope N_plan_days P_plan_days (defScope s_plan_days) := ⟨rfl, rfl, rfl, by decide +kernel, rfl, by decide +kernel, by decide +kernel⟩
theorem lcmL_dvd {M : Nat} : ∀ {ps : List Nat}, (∀ p ∈ ps, p ∣ M) → lcmL ps ∣ M := by
  have go : ∀ (ps : List Nat) (a : Nat), a ∣ M → (∀ p ∈ ps, p ∣ M) → ps.foldl Nat.lcm a ∣ M := by
    intro ps
    induction ps with
    | nil => exact fun a h _ => h
    | cons p r ih => exact fun a h k => ih _ (Nat.lcm_dvd h (k p List.mem_cons_self)) fun q m => k q (List.mem_cons_of_mem _ m)
  exact fun {ps} h => go ps 1 (Nat.one_dvd _) h
/-- the common period of the bounds -/
def PerOf (bs : List Bd) (Pd : Nat) : Prop := ∃ ps : List Nat, ps.length = bs.length ∧ (∀ (k : Nat) b p, bs[k]? = some b → ps[k]? = some p → Lp b.F p) ∧ Pd = lcmL ps
theorem PerOf.uniq {bs : List Bd} {p q : Nat} (h : PerOf bs p) (k : PerOf bs q) : p = q := by
  obtain ⟨ps, a1, a2, rfl⟩ := h
  obtain ⟨qs, b1, b2, rfl⟩ := k
  congr 1
  refine List.ext_getElem (by rw [a1, b1]) fun i h1 h2 => ?_
  have hb : i < bs.length := by omega
  exact (a2 i _ _ (List.getElem?_eq_getElem hb) (List.getElem?_eq_getElem h1)).uniq (b2 i _ _ (List.getElem?_eq_getElem hb) (List.getElem?_eq_getElem h2))
theorem rules_of {C : Addr} {K : PySem.W.Frag} {H : Hp} {M : Nat} : ∀ (zs : List (Addr × Bd)), (∀ z ∈ zs, RuleF C K H z.2.n M z.2.F) → ∃ rs : List (Addr × List Int), rs.map (·.1) = zs.map (fun z => z.2.n) ∧ (∀ r ∈ rs, RuleAt C K H r.1 r.2 ∧ 0 < r.2.length ∧ r.2.length ∣ M) ∧ ∀ (k : Nat) b p, (zs.map (·.2))[k]? = some b → (rs.map fun r => r.2.length)[k]? = some p → Lp b.F p
  | [], _ => ⟨[], rfl, fun r m => absurd m (by simp), fun k b p h => by simp at h⟩
  | z :: zs, h => by
    obtain ⟨rs, e1, e2, e3⟩ := rules_of zs fun y m => h y (List.mem_cons_of_mem _ m)
    obtain ⟨⟨ds, a1, a2, a3⟩, pF, _⟩ := h z List.mem_cons_self
    refine ⟨(z.2.n, ds) :: rs, by rw [List.map_cons, List.map_cons, e1], fun r m => ?_, fun k b p hb hp => ?_⟩
    · rcases List.mem_cons.mp m with rfl | m
      · exact ⟨a1, a2.pos, Nat.dvd_of_mod_eq_zero (a3.dvd pF)⟩
      · exact e2 r m
    · cases k with
      | zero =>
        cases hb
        cases hp
        exact a3
      | succ k => exact e3 k b p hb hp
theorem ends_ok {many : Nat} {zs : List (Addr × Bd)} (ok : Ok many zs) {ys : List (Addr × Dl.Fc)} (fo : FcsOf (zs.map (·.2)) (ys.map (·.2))) : ∀ z ∈ ys, z.2.s < many ∧ z.2.t < many := fun z hz => by
  obtain ⟨k, hk, rfl⟩ := List.getElem_of_mem hz
  have l1 := fo.1
  rw [List.length_map, List.length_map] at l1
  have hk2 : k < zs.length := by omega
  obtain ⟨a, b⟩ := ok _ (List.getElem_mem hk2)
  rcases fo.2 k zs[k].2 ys[k].2 (by rw [List.getElem?_map, List.getElem?_eq_getElem hk2]; rfl) (by rw [List.getElem?_map, List.getElem?_eq_getElem hk]; rfl) with ⟨_, e⟩ | ⟨_, S, _, e⟩
  · rw [e]
    exact ⟨a, b⟩
  · rw [e]
    exact ⟨b, a⟩
section
variable {P : Program} {w : World} {K : PySem.W.Frag} {mg : Str → Option Value} {base : Heap} {f C CD CE : Addr} {fd : FuncData}
def spPlan (C : Addr) (K : PySem.W.Frag) : Sp := fun vs H Q _ => ∃ (l : Addr) (q q2 : Bool) (M many : Nat) (start : Int) (zs : List (Addr × Bd)), vs = [.int (many : Int), .ref l, .int start] ∧ BdL C K H M q q2 l zs ∧ Ok many zs ∧ 0 < M ∧ zs.length ≤ 16 ∧ many ≤ 8 ∧ M ≤ 420 ∧
  (∀ (t T : Addr) (x : Dl.Dy) (fs : List Dl.Fc) (Pd : Nat) H', Same H H' → H' t = some (.tup [.str (Str.ofString "days"), .ref T]) → H' T = some (.tup (((List.range many).map x).map V.int)) → FcsOf (zs.map (·.2)) fs → PerOf (zs.map (·.2)) Pd → Pd ≤ M → Dl.DaysA fs many start Pd x → Q (.ref t) H') ∧
  (∀ (t T : Addr) (bs : List Nat) (d : Int) (fs : List Dl.Fc) (Pd : Nat) H', Same H H' → H' t = some (.tup [.str (Str.ofString "ring"), .ref T, .int d]) → H' T = some (.tup (bs.map fun (b : Nat) => V.int (b : Int))) → FcsOf (zs.map (·.2)) fs → PerOf (zs.map (·.2)) Pd → Pd ≤ M → Dl.RingA fs many start Pd bs d → Q (.ref t) H')
def spPlanE (C CE : Addr) (K : PySem.W.Frag) : Sp := fun vs H Q E => spPlan C K vs H Q E ∨ ∃ (l : Addr) (q q2 : Bool) (many k : Nat) (start : Int) (zs : List (Addr × Bi)), vs = [.int (many : Int), .ref l, .int start] ∧ BiL K H q q2 l zs ∧ zs.length ≤ 1000 ∧ FstB many zs k ∧ ∀ H' d, Same H H' → H' d = none → E (.ref CE) (some d) (upd H' d (.xd [("at", .int (k : Int))]))
theorem ok_plan_days (F : FnP K "plan_days" s_plan_days f fd) (m_tuple : mg "tuple" = none) (c_check_bounds : CalX P w K mg base 3 "check_bounds" (spChkB CE K)) (c_forces_of : Cal P w K mg base 7 "forces_of" (spForces C K)) (c_common_period : Cal P w K mg base 2 "common_period" (spPerN C K)) (c_limit_of : Cal P w K mg base 1 "limit_of" (spLimit K)) (c_raise_days : Cal P w K mg base 2 "raise_days" (spRaise K)) (c_ring_in : Cal P w K mg base 1 "ring_in" (spRingIn K)) : FnOk P w K mg base (L2N.CX P w) 8 f fd P_plan_days (spPlanE C CE K) := by
  refine F.ok sc_plan_days (fun vs H Q E h => ?_) (fun cdv A outer s H vs Q E hr h => ?_)
  · rcases h with ⟨l, q, q2, M, many, start, zs, rfl, _⟩ | ⟨l, q, q2, many, k, start, zs, rfl, _⟩
    · rfl
    · rfl
  · skip
    have tk := takes_fn (P := P) (w := w) (K := K) (mg := mg) (base := base) (N := N_plan_days) (qual := "plan_days") (scope := defScope s_plan_days) (f := f) (cd := cdv) (A := A) (outer := outer) (s := s) (H := H) (E := E)
    refine ⟨_, (pss_cons (ps_expr (pe_clE c_check_bounds (fun σ => L2N.passAt tk σ) hr (by decide) (by rfl) (pa_cons (pv 0) (pa_cons (pv 1) pa_nil))))
      (pss_cons (ps_set (i := 3) sc_plan_days.nd rfl (by first | exact .inl rfl | exact .inr rfl) (pe_cl c_forces_of hr (by decide) (by rfl) (pa_cons (pv 1) pa_nil)))
      (pss_cons (ps_set (i := 5) sc_plan_days.nd rfl (by first | exact .inl rfl | exact .inr rfl) (pe_cl c_common_period hr (by decide) (by rfl) (pa_cons (pe_lc (own := [("bound", 4)]) (g := (gName 4)) (tt := tYes) (by rfl) sc_plan_days.nd (pi_sq (pv 1)) (blkOk_by (own := [("bound", 4)]) (N := N_plan_days) (sc := defScope s_plan_days) (by decide +kernel)) (fun _ _ _ _ _ => (pg_name (i := 4) sc_plan_days.nd rfl (by first | exact .inl rfl | exact .inr rfl))) (fun _ _ _ _ _ => pts_nil) (fun _ _ _ _ _ => (pe_ix (ix_seq_K (K := K) rfl) (pv 4) pe_int (fun _ _ => rfl)))) pa_nil)))
      (pss_cons (ps_set (i := 6) sc_plan_days.nd rfl (by first | exact .inl rfl | exact .inr rfl) (pe_cl c_limit_of hr (by decide) (by rfl) (pa_cons (pv 0) (pa_cons (pv 3) (pa_cons (pv 5) (pa_cons (pv 2) pa_nil))))))
      (pss_cons (ps_asg (pe_cl c_raise_days hr (by decide) (by rfl) (pa_cons (pv 0) (pa_cons (pv 3) (pa_cons (pv 2) (pa_cons (pv 6) (pa_cons (pe_op op_mul (pv 0) (pv 5)) pa_nil)))))) (pg_tup rfl (pgs_cons (pg_name (i := 7) sc_plan_days.nd rfl (by first | exact .inl rfl | exact .inr rfl)) (pgs_cons (pg_name (i := 8) sc_plan_days.nd rfl (by first | exact .inl rfl | exact .inr rfl)) (pgs_cons (pg_name (i := 9) sc_plan_days.nd rfl (by first | exact .inl rfl | exact .inr rfl)) pgs_nil)))))
      (pss_cons (ps_if (pt_val (pv 9)) (pss_one (ps_ret (pe_cl c_ring_in hr (by decide) (by rfl) (pa_cons (pv 7) (pa_cons (pv 5) pa_nil))))) pss_nil)
      (pss_one (ps_ret (pe_tup (pa_cons pe_str (pa_cons (pe_callTy call_tuple_of (by rfl) m_tuple (by decide +kernel) (pa_cons (pe_lc (own := [("at", 10)]) (g := (gName 10)) (tt := tYes) (by rfl) sc_plan_days.nd (pi_list (pv 8)) (blkOk_by (own := [("at", 10)]) (N := N_plan_days) (sc := defScope s_plan_days) (by decide +kernel)) (fun _ _ _ _ _ => (pg_name (i := 10) sc_plan_days.nd rfl (by first | exact .inl rfl | exact .inr rfl))) (fun _ _ _ _ _ => pts_nil) (fun _ _ _ _ _ => (pe_ix (ix_tup_K (K := K) rfl) (pe_ix (ix_list_K (K := K) rfl) (pv 7) (pv 10) (fun _ _ => rfl)) pe_int (fun _ _ => rfl)))) pa_nil)) pa_nil))))))))))), ?_⟩
    rcases h with ⟨l, q, q2, M, many, start, zs, rfl, hB, ok, m0, lz, lm, lM, q1, q2'⟩ | ⟨l, q, q2, many, k, start, zs, rfl, hB, lz, fb, qe⟩
    rotate_left
    · walk_at "go"
      exact ⟨l, q, q2, many, zs, rfl, hB, lz, fun ok => absurd ok fb.not, fun k' fb' H' d s nd => by rw [fb'.uniq fb]; exact qe H' d s nd⟩
    walk_at "go"
    refine ⟨l, q, q2, many, _, rfl, hB.bi, by rw [List.length_map]; omega, fun _ H1 s1 => ?_, fun k fb => absurd ok.ev fb.not⟩
    walk_at "go"
    refine ⟨l, q, q2, M, zs, rfl, hB.mono s1, m0, by omega, by omega, fun L ys H2 s2 hF fo => ?_⟩
    have s12 := s1.trans s2
    have hB2 := hB.mono s12
    refine rd_sq (b := q) rfl hB2.sq ?_
    intro D nD
    refine lc_gen (n := zs.length) (fun k J => Same H2 J ∧ J D = some (.lst ((zs.take k).map fun z => V.ref z.2.n))) ⟨same_new nD, upd_same⟩ ?_ ?_ ?_ ?_
    · rintro k J hk ⟨s3, _⟩
      exact itq_go (hB2.mono s3).sq (x := .ref zs[k].1) (by rw [List.getElem?_map, List.getElem?_eq_getElem hk]; rfl)
    · rintro J ⟨s3, _⟩
      exact itq_stop (hB2.mono s3).sq (by rw [List.length_map]; exact Nat.le_refl _)
    · rintro k J x J' hk ⟨s3, eD⟩ y
      obtain ⟨rfl, ex⟩ := itq_yld (hB2.mono s3).sq y
      rw [List.getElem?_map, List.getElem?_eq_getElem hk] at ex
      cases ex
      walk_at "go"
      refine ixv (b := q2) ((hB2.mono s3).at_ _ (List.getElem_mem hk)) (atI_nat (j := 3) rfl) ?_
      refine ⟨_, eD, by rw [List.length_map]; exact szC (by rw [List.length_take]; omega), Z.Same.mut s3 nD, ?_⟩
      rw [upd_same, List.take_succ, List.getElem?_eq_getElem hk, List.map_append]
      rfl
    rintro J ⟨s3, eD⟩
    rw [List.take_length] at eD
    have hF3 := hF.mono s3
    have hB3 := hB2.mono s3
    obtain ⟨rs, e1, e2, e3⟩ := rules_of zs hB3.rl
    walk_at "go"
    refine ⟨D, M, rs, rfl, ?_, e2, m0, by omega, fun H4 s4 => ?_⟩
    · rw [eD]
      have z := congrArg (fun l => l.map V.ref) e1
      have z : (rs.map (·.1)).map V.ref = (zs.map (fun z => z.2.n)).map V.ref := z
      rw [List.map_map, List.map_map] at z
      exact congrArg (fun l => some (HO.lst l)) z.symm
    have lrs : rs.length = zs.length := by
      have := congrArg List.length e1
      rwa [List.length_map, List.length_map] at this
    have lys : ys.length = zs.length := by
      have := fo.1
      rw [List.length_map, List.length_map] at this
      exact this.symm
    obtain ⟨Pd, ePd⟩ : ∃ p, p = lcmL (rs.map fun z => z.2.length) := ⟨_, rfl⟩
    have per : PerOf (zs.map (·.2)) Pd := ⟨rs.map fun z => z.2.length, by rw [List.length_map, List.length_map, lrs], e3, ePd⟩
    have PdM : Pd ∣ M := by
      rw [ePd]
      refine lcmL_dvd fun p hp => ?_
      obtain ⟨r, hr, rfl⟩ := List.mem_map.mp hp
      exact (e2 r hr).2.2
    have Pd0 : 0 < Pd := Nat.pos_of_dvd_of_pos PdM m0
    have PdL : Pd ≤ M := Nat.le_of_dvd m0 PdM
    rw [← ePd]
    have s14 := s12.trans (s3.trans s4)
    have hF4 := hF3.mono s4
    clear eD hF3 hB3 hF hB2
    walk_at "go"
    refine ⟨L, M, many, Pd, start, ys, rfl, hF4, m0, by omega, ?_, by omega, fun G H5 s5 g0 gA gB => ?_⟩
    · have : ys.length * M ≤ 16 * 420 := Nat.mul_le_mul (by omega) lM
      omega
    have s15 := s14.trans s5
    have hF5 := hF4.mono s5
    have gain : Dl.GainOf (fcs ys) G := ⟨g0, fun f m d => by obtain ⟨z, hz, rfl⟩ := List.mem_map.mp m; exact gA z hz d, gB.elim .inl fun ⟨z, hz, d, e⟩ => .inr ⟨z.2, List.mem_map.mpr ⟨z, hz, rfl⟩, d, e⟩⟩
    have mP : many * Pd ≤ 8 * 420 := Nat.mul_le_mul lm (Nat.le_trans PdL lM)
    walk_at "go"
    refine ⟨L, M, many, many * Pd, start, start + (many : Int) * ((Pd : Int) + G), ys, by rw [Int.natCast_mul]; rfl, hF5, m0, by omega, ?_, ?_, ?_, ?_, ?_⟩
    · exact ends_ok ok fo
    · have : (many * Pd + 1) * (ys.length + 1) ≤ (8 * 420 + 1) * 17 := Nat.mul_le_mul (by omega) (by omega)
      omega
    · have : (0 : Int) ≤ (many : Int) * ((Pd : Int) + G) := Int.mul_nonneg (by omega) (by omega)
      omega
    · intro t R W rs' nw x T H6 s6 et hR hW st Tm ex fx ⟨n, rn⟩
      refine ⟨t, _, rfl, SqT.of et, rfl, _, _, rfl, _, _, rfl, _, _, rfl, rfl, ?_⟩
      dsimp only [List.set]
      walk_at "go"
      refine ⟨⟨_, SqL.of hW⟩, fun D2 nD2 => ?_⟩
      refine lc_gen (n := many) (fun k J => Same H6 J ∧ J D2 = some (.lst (((List.range k).map x).map V.int))) ⟨same_new nD2, upd_same⟩ ?_ ?_ ?_ ?_
      · rintro k J hk ⟨s7, _⟩
        exact ⟨_, .int (nw k : Int), SqL.of (s7 _ _ hW), by rw [List.getElem?_map, List.getElem?_range hk]; rfl⟩
      · rintro J ⟨s7, _⟩
        exact ⟨_, SqL.of (s7 _ _ hW), by rw [List.length_map, List.length_range]; exact Nat.le_refl _⟩
      · rintro k J xx J' hk ⟨s7, eD⟩ ⟨rfl, e⟩
        have hz := e _ (SqL.of (s7 _ _ hW))
        rw [List.getElem?_map, List.getElem?_range hk] at hz
        cases hz
        obtain ⟨r, r1, r2, r3⟩ := st.new k hk
        have hR7 := hR.mono s7
        obtain ⟨a, ia, ta⟩ := hR7.get r1
        walk_at "go"
        refine ⟨R, _, _, _, rfl, rfl, SqL.of hR7.sq, ia, ?_⟩
        walk_at "go"
        refine ⟨a, _, _, _, rfl, rfl, SqT.of ta, rc_1 r, ?_⟩
        refine ⟨_, eD, by rw [List.length_map, List.length_map, List.length_range]; exact szC (by omega), Z.Same.mut s7 nD2, ?_⟩
        rw [upd_same, List.range_succ, List.map_append, List.map_append, r3]
        rfl
      rintro J ⟨s7, eD⟩
      walk_at "go"
      refine ⟨D2, _, rfl, .inl ⟨SqL.of eD, fun U nU => ?_⟩⟩
      have sU := same_new (o := .tup (((List.range many).map x).map V.int)) nU
      have eU : (upd J U (.tup (((List.range many).map x).map V.int))) U = some (.tup (((List.range many).map x).map V.int)) := upd_same
      have s8 := s15.trans (s6.trans (s7.trans sU))
      generalize upd J U (.tup (((List.range many).map x).map V.int)) = J3 at sU eU s8
      walk_at "go"
      intro v nv
      have sv := same_new (o := .tup [.str (Str.ofString "days"), .ref U]) nv
      exact q1 v U x (fcs ys) Pd _ (s8.trans sv) upd_same (sv _ _ eU) fo per PdL ⟨⟨T, ex, Tm⟩, fx, G, n, _, nw, gain, rn⟩
    · intro t R W rs' r0 nw x H6 s6 et hR st h0 big en
      refine ⟨t, _, rfl, SqT.of et, rfl, _, _, rfl, _, _, rfl, _, _, rfl, rfl, ?_⟩
      dsimp only [List.set]
      walk_at "go"
      have c0 := en.cnt st (by rw [show (rcs rs').length = rs'.length from List.length_map ..]; exact h0)
      refine ⟨R, Pd, many, start, G, fcs ys, rs', r0, nw, x, rfl, hR, st, h0, Pd0, g0, gain.2.1, big, by omega, fun u U bs d H7 s7 eu eU ir => ?_⟩
      have lr : (rcs rs').length = rs'.length := List.length_map ..
      have rg := ir.ring st h0
      exact q2' u U bs d (fcs ys) Pd H7 (s15.trans (s6.trans s7)) eu eU fo per PdL ⟨⟨rg.1, rg.2.1, by omega⟩, G, rcs rs', r0, gain, en, by rw [lr]; exact h0, by rw [lr]; exact ir⟩
end
end Z
set_option linter.all false
set_option maxRecDepth 100000
namespace Z
open Dy
/-! ### near good days -/
def NG (good : List Int) (p : Nat) (w d r : Int) : Prop := (∃ k : Nat, k < p ∧ r = d + w * k ∧ Gof good p r ∧ ∀ j : Nat, j < k → ¬ Gof good p (d + w * j)) ∨ ((∀ j : Nat, j < p → ¬ Gof good p (d + w * j)) ∧ r = d)
theorem gof_near {good : List Int} {p : Nat} (hp : 0 < p) {w : Int} (hw : w = 1 ∨ w = -1) {d e : Int} (h : Gof good p e) : ∃ j : Nat, j < p ∧ Gof good p (d + w * j) := by
  have hp2 : (0 : Int) < p := by omega
  have key : ∀ m : Int, (d + m) % (p : Int) = e % (p : Int) → Gof good p (d + m) := fun m z => by
    unfold Gof at h ⊢
    rw [z]
    exact h
  rcases hw with rfl | rfl
  · have h1 := Int.emod_nonneg (e - d) (show (p : Int) ≠ 0 by omega)
    have h2 := Int.emod_lt_of_pos (e - d) hp2
    refine ⟨((e - d) % (p : Int)).toNat, by omega, ?_⟩
    rw [Int.toNat_of_nonneg h1]
    refine key _ ?_
    rw [Int.one_mul, Int.add_emod_emod, show d + (e - d) = e by omega]
  · have h1 := Int.emod_nonneg (d - e) (show (p : Int) ≠ 0 by omega)
    have h2 := Int.emod_lt_of_pos (d - e) hp2
    refine ⟨((d - e) % (p : Int)).toNat, by omega, ?_⟩
    rw [Int.toNat_of_nonneg h1]
    refine key _ ?_
    rw [show d + -1 * ((d - e) % (p : Int)) = d - (d - e) % (p : Int) by omega, Int.sub_emod_emod, show d - (d - e) = e by omega]
theorem NG.nx {good : List Int} {p : Nat} (hp : 0 < p) {d r : Int} (h : NG good p 1 d r) {e : Int} (he : Gof good p e) : IsNx (Gof good p) d r := by
  rcases h with ⟨k, hk, rfl, g, no⟩ | ⟨no, _⟩
  · refine ⟨by omega, g, fun x hx gx => Int.not_lt.mp fun lt => ?_⟩
    refine no (x - d).toNat (by omega) ?_
    rw [Int.toNat_of_nonneg (by omega), show d + 1 * (x - d) = x by omega]
    exact gx
  · obtain ⟨j, hj, gj⟩ := gof_near (d := d) hp (.inl rfl) he
    exact absurd gj (no j hj)
theorem NG.ls {good : List Int} {p : Nat} (hp : 0 < p) {d r : Int} (h : NG good p (-1) d r) {e : Int} (he : Gof good p e) : IsLs (Gof good p) d r := by
  rcases h with ⟨k, hk, rfl, g, no⟩ | ⟨no, _⟩
  · refine ⟨by omega, g, fun x hx gx => Int.not_lt.mp fun lt => ?_⟩
    refine no (d - x).toNat (by omega) ?_
    rw [Int.toNat_of_nonneg (by omega), show d + -1 * (d - x) = x by omega]
    exact gx
  · obtain ⟨j, hj, gj⟩ := gof_near (d := d) hp (.inr rfl) he
    exact absurd gj (no j hj)
theorem NG.mono {good : List Int} {p : Nat} (hp : 0 < p) {w : Int} (hw : w = 1 ∨ w = -1) {N : Int → Int} (h : ∀ d, NG good p w d (N d)) : Mon N ∧ Per N (p : Int) := by
  by_cases c : ∃ e, Gof good p e
  · obtain ⟨e, he⟩ := c
    rcases hw with rfl | rfl
    · exact ⟨nx_mon fun d => (h d).nx hp he, nx_per (fun d => (h d).nx hp he) (gof_pdc _ _)⟩
    · exact ⟨ls_mon fun d => (h d).ls hp he, ls_per (fun d => (h d).ls hp he) (gof_pdc _ _)⟩
  · have id : ∀ d, N d = d := fun d => by
      rcases h d with ⟨k, _, _, g, _⟩ | ⟨_, e⟩
      · exact absurd ⟨_, g⟩ c
      · exact e
    exact ⟨fun d => by rw [id, id]; omega, fun d => by rw [id, id]⟩
theorem NG.ex (good : List Int) (p : Nat) (w d : Int) : ∃ r, NG good p w d r := by
  by_cases c : ∃ k : Nat, k < p ∧ Gof good p (d + w * k)
  · have : ∃ k : Nat, k < p ∧ Gof good p (d + w * k) ∧ ∀ j : Nat, j < k → ¬ Gof good p (d + w * j) := by
      obtain ⟨k, hk, g⟩ := c
      induction k using Nat.strongRecOn with
      | ind k ih =>
        by_cases c : ∃ j : Nat, j < k ∧ Gof good p (d + w * j)
        · obtain ⟨j, hj, gj⟩ := c
          exact ih j hj (by omega) gj
        · exact ⟨k, hk, g, fun j hj gj => c ⟨j, hj, gj⟩⟩
    obtain ⟨k, hk, g, no⟩ := this
    exact ⟨_, .inl ⟨k, hk, rfl, g, no⟩⟩
  · exact ⟨d, .inr ⟨fun j hj g => c ⟨j, hj, g⟩, rfl⟩⟩
theorem NG.uniq {good : List Int} {p : Nat} {w d r s : Int} (h : NG good p w d r) (k : NG good p w d s) : r = s := by
  rcases h with ⟨a, ha, rfl, ga, na⟩ | ⟨na, rfl⟩ <;> rcases k with ⟨b, hb, rfl, gb, nb⟩ | ⟨nb, rfl⟩
  · rcases Nat.lt_trichotomy a b with c | c | c
    · exact absurd ga (nb a c)
    · rw [c]
    · exact absurd gb (na b c)
  · exact absurd ga (nb a ha)
  · exact absurd gb (na b hb)
  · rfl
/-- a list of near good days never decreases -/
theorem ng_gd {good : List Int} {p : Nat} (hp : 0 < p) {w : Int} (hw : w = 1 ∨ w = -1) {o : Int} {ds : List Int} (hl : ds.length = p) (h : ∀ k : Nat, k < p → NG good p w ((k : Int) + o) (ds.getD k 0)) : Gd ds := by
  have hN := fun d => Classical.choose_spec (NG.ex good p w d)
  obtain ⟨m, pr⟩ := NG.mono hp hw hN
  refine Gd.of (F := fun d => Classical.choose (NG.ex good p w (d + o))) ⟨by omega, fun d => ?_, fun i hi => ?_⟩ fun d => ?_
  · rw [hl]
    have := pr (d + o)
    rw [show d + o + (p : Int) = d + (p : Int) + o by omega] at this
    exact this
  · exact (h i (by omega)).uniq (hN _)
  · have := m (d + o)
    rw [show d + o + 1 = d + 1 + o by omega] at this
    exact this
end Z
set_option pp.maxSteps 700
set_option Elab.async false
set_option linter.all false
set_option maxRecDepth 100000
set_option maxHeartbeats 4000000
namespace Z
open Dy
open PySem PySem.Spec PyProof.Rows L2
open C8 (pss_cut tCut)
local macro_rules | `(tactic| walk_at "num") => `(tactic| first | rfl | omega | decide | exact Nat.le_of_lt (small1000 (by simp)) | exact ⟨by omega, by omega⟩ | exact ⟨by omega, by omega, by omega⟩ | exact ⟨by decide, by decide, by decide⟩ | exact Or.inl ⟨by omega, by omega⟩ | exact Or.inr ⟨by omega, by omega⟩)
local macro_rules | `(tactic| walk_at "go") => `(tactic| repeat (first | refine ⟨_, rfl, ?_⟩ | refine ⟨_, _, rfl, rfl, ?_⟩ | refine ⟨_, _, rfl, ?_⟩ | (refine ⟨_, _, rfl, rfl, ?_, ?_⟩; focus walk_at "num") | refine Or.inl ⟨_, rfl, ?_⟩ | refine ⟨_, _, _, _, rfl, rfl, (by assumption), (by rfl), ?_⟩ | refine ⟨_, _, _, _, _, rfl, (by assumption), (by assumption), (by assumption), (by rfl), ?_⟩ | refine ⟨rfl, ?_⟩ | (refine And.intro ?_ ?_; focus walk_at "num")))
abbrev s_near_good : Stmt := topS 31
abbrev N_near_good : List Str := ["_law_good", "_law_period_here", "_law_day", "_law_way", "_law_step"]
abbrev P_near_good : List Str := ["_law_good", "_law_period_here", "_law_day", "_law_way"]
theorem sc_near_good : FnScope N_near_good P_near_good (defScope s_near_good) := ⟨rfl, rfl, rfl, by decide +kernel, rfl, by decide +kernel, by decide +kernel⟩
abbrev s_rule : Stmt := topS 32
abbrev N_rule : List Str := ["_law_draws_here", "_law_place", "_law_low", "_law_many", "_law_whole_here", "_law_size", "_law_k", "_law_sizes", "_law_day", "_law_far", "_law_kind", "_law_good", "_law_left", "_law_days", "_law_draw", "_law_step"]
abbrev P_rule : List Str := ["_law_draws_here", "_law_place", "_law_low", "_law_many", "_law_whole_here"]
theorem sc_rule : FnScope N_rule P_rule (defScope s_rule) := ⟨rfl, rfl, rfl, by decide +kernel, rfl, by decide +kernel, by decide +kernel⟩
theorem flat_ints (xs : List Int) : (xs.map V.int).all flatV = true := by
  rw [List.all_map]
  exact List.all_eq_true.mpr fun x _ => rfl
theorem in_ints (x : Int) (xs : List Int) : inV (.int x) (xs.map V.int) = decide (x ∈ xs) := by
  unfold inV
  rw [List.any_map, Bool.eq_iff_iff, decide_eq_true_iff, List.any_eq_true]
  constructor
  · rintro ⟨y, hy, e⟩
    have e : (y == x) = true := e
    rw [beq_iff_eq] at e
    exact e ▸ hy
  · intro h
    exact ⟨x, h, show (x == x) = true by rw [beq_iff_eq]⟩
theorem getD_app_left {xs ys : List Int} {i : Nat} (h : i < xs.length) : (xs ++ ys).getD i 0 = xs.getD i 0 := by
  rw [List.getD_eq_getElem?_getD, List.getD_eq_getElem?_getD, List.getElem?_append_left h]
theorem getD_app_last {xs : List Int} {y : Int} : (xs ++ [y]).getD xs.length 0 = y := by
  rw [List.getD_eq_getElem?_getD, List.getElem?_append_right (Nat.le_refl _), Nat.sub_self]
  rfl
theorem first_day {x : Int} {z : Int} (hz : 0 ≤ z) {j : Nat} (hj : j ≤ 0) : [x].getD j 0 ≤ x + z ∧ x ≤ [x].getD j 0 := by
  obtain rfl : j = 0 := by omega
  show x ≤ x + z ∧ x ≤ x
  omega
/-! ### the draws -/
structure Tk (K : PySem.W.Frag) (a p : Addr) (ds : List Int) (n : Nat) (H0 H1 : Hp) : Prop where
  hA : H1 a = some (.lst (ds.map V.int))
  hd : Dr n ds
  ne : a ≠ p
  sb : SB p H0 H1
  pl : ∃ m : Nat, H1 p = some (.lst [.int (m : Int)])
theorem Tk.more {K : PySem.W.Frag} {a p : Addr} {ds : List Int} {n : Nat} {H0 H1 H2 : Hp} (t : Tk K a p ds n H0 H1) (s : Same H1 H2) : Tk K a p ds n H0 H2 := by
  obtain ⟨m, e⟩ := t.pl
  exact ⟨s _ _ t.hA, t.hd, t.ne, t.sb.trans (Z.Same.sb s), m, s _ _ e⟩
theorem Tk.mut {K : PySem.W.Frag} {a p q : Addr} {ds : List Int} {n : Nat} {H0 H1 : Hp} {o : HO} (t : Tk K a p ds n H0 H1) (h : H0 q = none) (h2 : SB q H1 (upd H1 q o)) (nq : q ≠ p) (na : upd H1 q o a = some (.lst (ds.map V.int))) : Tk K a p ds n H0 (upd H1 q o) := by
  obtain ⟨m, e⟩ := t.pl
  refine ⟨na, t.hd, t.ne, fun b u n1 n2 => ?_, m, h2 _ _ nq.symm e⟩
  exact h2 _ _ (ne_of_none n2 h) (t.sb b u n1 n2)
theorem Tk.next {K : PySem.W.Frag} {a p : Addr} {ds : List Int} {n m : Nat} {H0 H1 : Hp} (t : Tk K a p ds n H0 H1) (e : H1 p = some (.lst [.int (m : Int)])) : Tk K a p ds n H0 (upd H1 p (.lst [.int ((m + 1 : Nat) : Int)])) ∧ SB p H1 (upd H1 p (.lst [.int ((m + 1 : Nat) : Int)])) := by
  have sb : SB p H1 (upd H1 p (.lst [.int ((m + 1 : Nat) : Int)])) := SB.upd (Z.Same.sb (Same.refl H1))
  exact ⟨⟨sb _ _ t.ne t.hA, t.hd, t.ne, t.sb.trans sb, m + 1, upd_same⟩, sb⟩
section
variable {P : Program} {w : World} {K : PySem.W.Frag} {mg : Str → Option Value} {base : Heap} {f C CD : Addr} {fd : FuncData}
def spNear (K : PySem.W.Frag) : Sp := fun vs H Q _ => ∃ (a : Addr) (good : List Int) (p : Nat) (d w : Int), vs = [.ref a, .int (p : Int), .int d, .int w] ∧ SqL K H a (good.map V.int) ∧ 0 < p ∧ p ≤ 1000 ∧ (w = 1 ∨ w = -1) ∧ ∀ r, NG good p w d r → Q (.int r) H
theorem ok_near_good (F : FnP K "_law_near_good" s_near_good f fd) (m_int : mg "int" = none) (m_range : mg "range" = none) : FnOk P w K mg base CX0 1 f fd P_near_good (spNear K) := by
  refine F.ok sc_near_good (fun vs H Q E h => ?_) (fun cdv A outer s H vs Q E hr h => ?_)
  · obtain ⟨a, good, p, d, w, rfl, _⟩ := h
    rfl
  · obtain ⟨a, good, p, d, wy, rfl, hS, hp, hp2, hw, q⟩ := h
    refine ⟨_, PSs.nox (pss_cons (ps_for PassesOwn.never rfl (pi_range1 (by rfl) m_range (pa_cons (pv 1) pa_nil)) (pg_name (i := 4) sc_near_good.nd rfl (by first | exact .inl rfl | exact .inr rfl))
        (pss_one (ps_if (pt_cmpR op_in_seq (pe_op op_mod (pe_callTy call_int1 (by rfl) m_int (by decide +kernel) (pa_cons (pe_op op_add (pv 2) (pe_op op_mul (pv 3) (pv 4))) pa_nil)) (pv 1)) (pv 0) (by rfl)) (pss_one (ps_ret (pe_op op_add (pv 2) (pe_op op_mul (pv 3) (pv 4))))) pss_nil)))
      (pss_one (ps_ret (pv 2)))), ?_⟩
    walk_at "go"
    refine for_gen (n := p) (fun i σ H1 => H1 = H ∧ (∀ j : Nat, j < i → ¬ Gof good p (d + wy * j)) ∧ ∃ v4 : Option V, σ = [some (.ref a), some (.int (p : Int)), some (.int d), some (.int wy), v4]) ⟨rfl, fun j h => absurd h (Nat.not_lt_zero _), _, rfl⟩ ?_ ?_ ?_ ?_
    · intro i σ H1 hi _
      show i < ((p : Int)).toNat
      omega
    · intro σ H1 _
      show ((p : Int)).toNat ≤ p
      omega
    · rintro i σ H1 x H' hi ⟨rfl, no, v4, rfl⟩ ⟨rfl, rfl⟩
      rw [Int.zero_add]
      walk_at "go"
      refine ⟨a, _, rfl, .inl hS, rfl, flat_ints _, ?_⟩
      rw [in_ints]
      walk_at "go"
      refine ite2 (fun e => ?_) (fun e => ?_)
      · have e : (d + wy * i) % (p : Int) ∈ good := of_decide_eq_true e
        walk_at "go"
        exact q _ (.inl ⟨i, hi, rfl, e, no⟩)
      · have e : ¬ Gof good p (d + wy * i) := fun z => e (decide_eq_true (show (d + wy * i) % (p : Int) ∈ good from z))
        refine ⟨rfl, fun j hj => ?_, _, rfl⟩
        by_cases c : j = i
        · subst c
          exact e
        · exact no j (by omega)
    · rintro σ H1 ⟨rfl, no, v4, rfl⟩
      walk_at "go"
      exact q d (.inr ⟨no, rfl⟩)
/-! ### _law_rule -/
def spRuleL (K : PySem.W.Frag) : Sp := fun vs H Q _ => ∃ (a p : Addr) (n M many : Nat) (low wh : Int) (ds : List Int), vs = [.ref a, .ref p, .int low, .int (many : Int), .int wh] ∧ Tk K a p ds n H H ∧ 0 < many ∧ 0 < M ∧ (wh = 0 ∧ M = 420 ∨ wh = (M : Int)) ∧ M ≤ 420 ∧ ∀ (L : Addr) H' (es : List Int), H L = none → L ≠ p → Tk K a p ds n H H' → H' L = some (.lst (es.map V.int)) → es.length ∣ M → Gd es → (∀ i, i < es.length → (es.getD i 0).natAbs ≤ 2000) → Q (.ref L) H'
theorem ok_rule (F : FnP K "_law_rule" s_rule f fd) (m_int : mg "int" = none) (m_len : mg "len" = none) (m_range : mg "range" = none) (m_min : mg "min" = none) (m_max : mg "max" = none) (c_take : Cal P w K mg base 1 "_law_take" (spTake K)) (c_near_good : Cal P w K mg base 1 "_law_near_good" (spNear K)) : FnOk P w K mg base CX0 2 f fd P_rule (spRuleL K) := by
  refine F.ok sc_rule (fun vs H Q E h => ?_) (fun cdv A outer s H vs Q E hr h => ?_)
  · obtain ⟨a, p, n, M, many, low, wh, ds, rfl, _⟩ := h
    rfl
  · obtain ⟨a, p, n, M, many, low, wh, ds, rfl, hT, hm, hM, hw, hM2, q⟩ := h
    refine ⟨_, PSs.nox (pss_cons (ps_set (i := 5) sc_rule.nd rfl (by first | exact .inl rfl | exact .inr rfl) (pe_op op_add pe_int (pe_op op_mod (pe_callTy call_int1 (by rfl) m_int (by decide +kernel) (pa_cons (pe_cl c_take hr (by decide) (by rfl) (pa_cons (pv 0) (pa_cons (pv 1) pa_nil))) pa_nil)) pe_int)))
      (pss_cut (ps_if (pt_cmpR op_gt (pv 4) pe_int (nomark _)) (pss_cons (ps_setLc (i := 7) (own := [("_law_k", 6)]) (g := (gName 6)) (by rfl) sc_rule.nd rfl rfl (sw_true rfl rfl rfl (by decide +kernel)) (pi_range2 (by rfl) m_range (pa_cons pe_int (pa_cons (pe_op op_add (pe_callB (call_min2 rfl) (by rfl) m_min (by decide +kernel) (pa_cons (pv 4) (pa_cons pe_int pa_nil))) pe_int) pa_nil))) (blkOk_by (own := [("_law_k", 6)]) (N := N_rule) (sc := defScope s_rule) (by decide +kernel)) (fun _ _ _ _ _ => (pg_name (i := 6) sc_rule.nd rfl (by first | exact .inl rfl | exact .inr rfl))) (fun _ _ _ _ _ => (pts_one (pt_cmpR op_eq (pe_op op_mod (pe_callTy call_int1 (by rfl) m_int (by decide +kernel) (pa_cons (pv 4) pa_nil)) (pv 6)) pe_int (nomark _)))) (fun _ _ _ _ _ => (pv 6)))
      (pss_one (ps_set (i := 5) sc_rule.nd rfl (by first | exact .inl rfl | exact .inr rfl) (pe_ix ix_list (pv 7) (pe_op op_mod (pe_callTy call_int1 (by rfl) m_int (by decide +kernel) (pa_cons (pe_cl c_take hr (by decide) (by rfl) (pa_cons (pv 0) (pa_cons (pv 1) pa_nil))) pa_nil)) (pe_callB call_len_seq (by rfl) m_len PySem.boot_len (pa_cons (pv 7) pa_nil))) (fun _ _ => rfl))))) pss_nil)
      (pss_cons (ps_set (i := 8) sc_rule.nd rfl (by first | exact .inl rfl | exact .inr rfl) (pe_op op_add (pv 2) (pe_op op_mod (pe_callTy call_int1 (by rfl) m_int (by decide +kernel) (pa_cons (pe_cl c_take hr (by decide) (by rfl) (pa_cons (pv 0) (pa_cons (pv 1) pa_nil))) pa_nil)) (pv 3))))
      (pss_cons (ps_set (i := 9) sc_rule.nd rfl (by first | exact .inl rfl | exact .inr rfl) (pe_callTy call_int1 (by rfl) m_int (by decide +kernel) (pa_cons (pe_cl c_take hr (by decide) (by rfl) (pa_cons (pv 0) (pa_cons (pv 1) pa_nil))) pa_nil)))
      (pss_cut (ps_if (pt_cmpR op_eq (pe_op op_mod (pe_callTy call_int1 (by rfl) m_int (by decide +kernel) (pa_cons (pv 9) pa_nil)) pe_int) pe_int (nomark _)) (pss_one (ps_set (i := 8) sc_rule.nd rfl (by first | exact .inl rfl | exact .inr rfl) (pe_op op_sub (pe_op op_mod (pe_callTy call_int1 (by rfl) m_int (by decide +kernel) (pa_cons (pe_op op_fdiv (pv 9) pe_int) pa_nil)) pe_int) pe_int))) pss_nil)
      (pss_cons (ps_set (i := 8) sc_rule.nd rfl (by first | exact .inl rfl | exact .inr rfl) (pe_callB (call_min2 rfl) (by rfl) m_min (by decide +kernel) (pa_cons (pe_callB (call_max2 rfl) (by rfl) m_max (by decide +kernel) (pa_cons (pv 8) (pa_cons (pe_op op_sub (pv 5) pe_int) pa_nil))) (pa_cons (pe_op op_sub pe_int (pv 5)) pa_nil))))
      (pss_cons (ps_set (i := 10) sc_rule.nd rfl (by first | exact .inl rfl | exact .inr rfl) (pe_callTy call_int1 (by rfl) m_int (by decide +kernel) (pa_cons (pe_cl c_take hr (by decide) (by rfl) (pa_cons (pv 0) (pa_cons (pv 1) pa_nil))) pa_nil)))
      (pss_cons (ps_set (i := 11) sc_rule.nd rfl (by first | exact .inl rfl | exact .inr rfl) (pe_lc (own := [("_law_k", 6)]) (g := (gName 6)) (by rfl) sc_rule.nd (pi_range1 (by rfl) m_range (pa_cons (pv 5) pa_nil)) (blkOk_by (own := [("_law_k", 6)]) (N := N_rule) (sc := defScope s_rule) (by decide +kernel)) (fun _ _ _ _ _ => (pg_name (i := 6) sc_rule.nd rfl (by first | exact .inl rfl | exact .inr rfl))) (fun _ _ _ _ _ => (pts_one (pt_cmpR op_eq (pe_op op_mod (pe_callTy call_int1 (by rfl) m_int (by decide +kernel) (pa_cons (pe_op op_shr (pe_op op_fdiv (pv 10) pe_int) (pe_op op_mod (pe_callTy call_int1 (by rfl) m_int (by decide +kernel) (pa_cons (pv 6) pa_nil)) pe_int)) pa_nil)) pe_int) pe_int (nomark _)))) (fun _ _ _ _ _ => (pv 6))))
      (pss_cons (ps_if (pt_cmpR op_gt (pe_op op_mod (pe_callTy call_int1 (by rfl) m_int (by decide +kernel) (pa_cons (pv 10) pa_nil)) pe_int) pe_int (nomark _)) (pss_one (ps_ret (pe_lc (own := [("_law_k", 6)]) (g := (gName 6)) (tt := tYes) (by rfl) sc_rule.nd (pi_range1 (by rfl) m_range (pa_cons (pv 5) pa_nil)) (blkOk_by (own := [("_law_k", 6)]) (N := N_rule) (sc := defScope s_rule) (by decide +kernel)) (fun _ _ _ _ _ => (pg_name (i := 6) sc_rule.nd rfl (by first | exact .inl rfl | exact .inr rfl))) (fun _ _ _ _ _ => pts_nil) (fun _ _ _ _ _ => (pe_cl c_near_good hr (by decide) (by rfl) (pa_cons (pv 11) (pa_cons (pv 5) (pa_cons (pe_op op_add (pv 6) (pv 8)) (pa_cons (pe_op op_sub pe_int (pe_op op_mul pe_int (pe_op op_mod (pe_callTy call_int1 (by rfl) m_int (by decide +kernel) (pa_cons (pv 10) pa_nil)) pe_int))) pa_nil))))))))) pss_nil)
      (pss_cons (ps_set (i := 12) sc_rule.nd rfl (by first | exact .inl rfl | exact .inr rfl) (pv 5))
      (pss_cons (ps_set (i := 13) sc_rule.nd rfl (by first | exact .inl rfl | exact .inr rfl) (pe_lst (pa_cons (pv 8) pa_nil)))
      (pss_cons (ps_for PassesOwn.never rfl (pi_range1 (by rfl) m_range (pa_cons (pe_op op_sub (pv 5) pe_int) pa_nil)) (pg_name (i := 6) sc_rule.nd rfl (by first | exact .inl rfl | exact .inr rfl))
        (pss_cons (ps_set (i := 14) sc_rule.nd rfl (by first | exact .inl rfl | exact .inr rfl) (pe_callTy call_int1 (by rfl) m_int (by decide +kernel) (pa_cons (pe_cl c_take hr (by decide) (by rfl) (pa_cons (pv 0) (pa_cons (pv 1) pa_nil))) pa_nil)))
      (pss_cons (ps_set (i := 15) sc_rule.nd rfl (by first | exact .inl rfl | exact .inr rfl) (pe_callB (call_min2 rfl) (by rfl) m_min (by decide +kernel) (pa_cons (pv 12) (pa_cons (pe_ix ix_list (pe_lst (pa_cons pe_int (pa_cons pe_int (pa_cons pe_int (pa_cons (pe_op op_mod (pe_callTy call_int1 (by rfl) m_int (by decide +kernel) (pa_cons (pe_op op_fdiv (pv 14) pe_int) pa_nil)) (pe_op op_add (pv 12) pe_int)) pa_nil))))) (pe_op op_mod (pe_callTy call_int1 (by rfl) m_int (by decide +kernel) (pa_cons (pv 14) pa_nil)) pe_int) (fun _ _ => rfl)) pa_nil))))
      (pss_cons (ps_set (i := 8) sc_rule.nd rfl (by first | exact .inl rfl | exact .inr rfl) (pe_op op_add (pv 8) (pv 15)))
      (pss_cons (ps_set (i := 12) sc_rule.nd rfl (by first | exact .inl rfl | exact .inr rfl) (pe_op op_sub (pv 12) (pv 15)))
      (pss_one (ps_expr (pe_bm PySem.F.plainAttrs_list PySem.F.slot_list_append PySem.F.type_list_append mt_append (pv 13) (pa_cons (pv 8) pa_nil)))))))))
      (pss_one (ps_ret (pv 13))))))))))))))), ?_⟩
    walk_at "go"
    obtain ⟨mm, em⟩ := hT.pl
    refine ⟨a, p, n, mm, ds, rfl, SqL.of hT.hA, hT.hd, em, hT.ne, fun r r0 r1 => ?_⟩
    obtain ⟨hT1, _⟩ := hT.next em
    generalize upd H p (.lst [.int ((mm + 1 : Nat) : Int)]) = H1 at hT1 ⊢
    walk_at "go"
    refine ⟨fun σ' H' => Tk K a p ds n H H' ∧ ∃ (z : Nat) (v6 v7 : Option V), 0 < z ∧ z ≤ 400 ∧ z ∣ M ∧ σ' = [some (.ref a), some (.ref p), some (.int low), some (.int (many : Int)), some (.int wh), some (.int (z : Int)), v6, v7, none, none, none, none, none, none, none, none], ?_, ?_⟩
    · walk_at "go"
      refine ite2 (fun e => ?_) (fun e => ?_)
      · have e : 0 < wh := of_decide_eq_true e
        have hwM : wh = (M : Int) := hw.elim (fun z => by omega) id
        subst hwM
        walk_at "go"
        have hN : ((if (400 : Int) < (M : Int) then (400 : Int) else (M : Int)) + 1 - 1).toNat = min M 400 := by split <;> omega
        intro D nD
        have Dp : D ≠ p := fun z => by
          obtain ⟨m', e'⟩ := hT1.pl
          rw [z, e'] at nD
          cases nD
        have nDH : H D = none := by
          cases e : H D with
          | none => rfl
          | some o =>
            have := hT1.sb D o Dp e
            rw [nD] at this
            cases this
        refine lc_gen (n := min M 400) (fun k J => Tk K a p ds n H J ∧ ∃ xs : List Nat, J D = some (.lst ((xs.map fun (x : Nat) => (x : Int)).map V.int)) ∧ (∀ x ∈ xs, 0 < x ∧ x ≤ 400 ∧ x ∣ M) ∧ (0 < k → xs ≠ []) ∧ xs.length ≤ k) ⟨hT1.more (same_new nD), [], upd_same, fun x h => absurd h (by simp), fun h => absurd h (Nat.lt_irrefl _), Nat.le_refl _⟩ ?_ ?_ ?_ ?_
        · intro k J hk _
          show k < _
          rw [hN]
          exact hk
        · intro J _
          show _ ≤ min M 400
          rw [hN]
          exact Nat.le_refl _
        · rintro k J x J' hk ⟨hT2, xs, eD, ax, nx, lx⟩ ⟨rfl, rfl⟩
          walk_at "go"
          have eqI : (1 : Int) + (k : Int) = ((1 + k : Nat) : Int) := by omega
          by_cases c : (M : Int) % (1 + (k : Int)) = 0
          · rw [decide_eq_true (show V.int ((M : Int) % (1 + (k : Int))) = V.int 0 from congrArg V.int c)]
            dsimp only
            rw [if_pos rfl]
            walk_at "go"
            have dv : (1 + k) ∣ M := by
              rw [eqI] at c
              exact Int.natCast_dvd_natCast.mp (Int.dvd_of_emod_eq_zero c)
            refine ⟨_, eD, by rw [List.length_map, List.length_map]; exact szC (by omega), hT2.mut nDH (SB.upd (Z.Same.sb (Same.refl _))) Dp (by rw [upd_ne (ne_of_none hT1.hA nD)]; exact hT2.hA), xs ++ [1 + k], ?_, fun x hx => ?_, fun _ => by simp, by rw [List.length_append, List.length_singleton]; omega⟩
            · rw [upd_same, eqI, List.map_append, List.map_append]
              rfl
            · rcases List.mem_append.mp hx with hx | hx
              · exact ax x hx
              · rw [List.mem_singleton.mp hx]
                exact ⟨by omega, by omega, dv⟩
          · rw [decide_eq_false (show ¬ V.int ((M : Int) % (1 + (k : Int))) = V.int 0 from fun z => c (by injection z))]
            dsimp only
            rw [if_neg (by decide)]
            refine ⟨hT2, xs, eD, ax, fun _ => ?_, by omega⟩
            by_cases k0 : k = 0
            · subst k0
              exact absurd (by rw [show (1 : Int) + ((0 : Nat) : Int) = 1 by omega, Int.emod_one]) c
            · exact nx (by omega)
        rintro J ⟨hT2, xs, eD, ax, nx, lx⟩
        have lx0 : 0 < xs.length := List.length_pos_iff.mpr (nx (by omega))
        walk_at "go"
        obtain ⟨m2, em2⟩ := hT2.pl
        refine ⟨a, p, n, m2, ds, rfl, SqL.of hT2.hA, hT2.hd, em2, hT2.ne, fun r2 r20 r21 => ?_⟩
        obtain ⟨hT3, sb3⟩ := hT2.next em2
        have eD3 := sb3 _ _ Dp eD
        generalize upd J p (.lst [.int ((m2 + 1 : Nat) : Int)]) = H3 at hT3 eD3
        walk_at "go"
        refine ⟨D, _, rfl, .inl (SqL.of eD3), ?_⟩
        rw [List.length_map, List.length_map]
        walk_at "go"
        have h1 := Int.emod_nonneg r2 (show (xs.length : Int) ≠ 0 by omega)
        have h2 := Int.emod_lt_of_pos r2 (show 0 < (xs.length : Int) by omega)
        have hj : (r2 % (xs.length : Int)).toNat < xs.length := by omega
        refine ⟨D, _, _, _, rfl, rfl, SqL.of eD3, at_of (j := (r2 % (xs.length : Int)).toNat) (v := .int (xs[(r2 % (xs.length : Int)).toNat] : Int)) (by omega) (by rw [List.getElem?_map, List.getElem?_map, List.getElem?_eq_getElem hj]; rfl), ?_⟩
        obtain ⟨a1, a2, a3⟩ := ax _ (List.getElem_mem hj)
        exact ⟨hT3, _, _, _, a1, a2, a3, rfl⟩
      · have e : ¬ 0 < wh := fun z => e (decide_eq_true z)
        have hw0 : M = 420 := hw.elim (fun z => z.2) fun z => by omega
        have h1 := Int.emod_nonneg r (show (7 : Int) ≠ 0 by omega)
        have h2 := Int.emod_lt_of_pos r (show 0 < (7 : Int) by omega)
        obtain ⟨c, hc⟩ := Int.eq_ofNat_of_zero_le (show 0 ≤ 1 + r % 7 by omega)
        refine ⟨hT1, c, none, none, by omega, by omega, ?_, ?_⟩
        · rw [hw0]
          have : c = 1 ∨ c = 2 ∨ c = 3 ∨ c = 4 ∨ c = 5 ∨ c = 6 ∨ c = 7 := by omega
          rcases this with rfl | rfl | rfl | rfl | rfl | rfl | rfl <;> decide
        · rw [← hc]
          rfl
    clear hT1 em r0 r1
    rintro σ' H2 ⟨hT2, z, v6, v7, z0, z1, zM, rfl⟩
    walk_at "go"
    obtain ⟨m2, em2⟩ := hT2.pl
    refine ⟨a, p, n, m2, ds, rfl, SqL.of hT2.hA, hT2.hd, em2, hT2.ne, fun r2 r20 r21 => ?_⟩
    obtain ⟨hT3, _⟩ := hT2.next em2
    generalize upd H2 p (.lst [.int ((m2 + 1 : Nat) : Int)]) = H3 at hT3
    walk_at "go"
    obtain ⟨m3, em3⟩ := hT3.pl
    refine ⟨a, p, n, m3, ds, rfl, SqL.of hT3.hA, hT3.hd, em3, hT3.ne, fun r3 r30 r31 => ?_⟩
    obtain ⟨hT4, _⟩ := hT3.next em3
    generalize upd H3 p (.lst [.int ((m3 + 1 : Nat) : Int)]) = H4 at hT4
    walk_at "go"
    refine ⟨fun σ' H' => Tk K a p ds n H H' ∧ ∃ (dy : Int), σ' = [some (.ref a), some (.ref p), some (.int low), some (.int (many : Int)), some (.int wh), some (.int (z : Int)), v6, v7, some (.int dy), some (.int r3), none, none, none, none, none, none], ?_, ?_⟩
    · walk_at "go"
      refine ite2 (fun e => ?_) (fun e => ?_)
      · walk_at "go"
        exact ⟨_, rfl⟩
      · exact ⟨hT4, _, rfl⟩
    clear hT4 hT3 hT2 em2 em3
    rintro σ' H5 ⟨hT5, dy, rfl⟩
    walk_at "go"
    obtain ⟨dz, edz⟩ : ∃ dz : Int, dz = (if 401 - (z : Int) < (if (z : Int) - 401 > dy then (z : Int) - 401 else dy) then 401 - (z : Int) else if (z : Int) - 401 > dy then (z : Int) - 401 else dy) := ⟨_, rfl⟩
    rw [← edz]
    have hdz : (z : Int) - 401 ≤ dz ∧ dz ≤ 401 - (z : Int) := by
      rw [edz]
      split
      · omega
      · split <;> omega
    clear edz
    dsimp only [List.set]
    walk_at "go"
    obtain ⟨m5, em5⟩ := hT5.pl
    refine ⟨a, p, n, m5, ds, rfl, SqL.of hT5.hA, hT5.hd, em5, hT5.ne, fun r4 r40 r41 => ?_⟩
    obtain ⟨hT6, _⟩ := hT5.next em5
    generalize upd H5 p (.lst [.int ((m5 + 1 : Nat) : Int)]) = H6 at hT6
    clear hT5 em5
    walk_at "go"
    intro D nD
    have fr : ∀ {J D}, Tk K a p ds n H J → J D = none → D ≠ p ∧ H D = none ∧ a ≠ D := fun {J D} hT nD => by
      obtain ⟨m', e'⟩ := hT.pl
      have Dp : D ≠ p := fun z => by
        rw [z, e'] at nD
        cases nD
      refine ⟨Dp, ?_, ne_of_none hT.hA nD⟩
      cases e : H D with
      | none => rfl
      | some o =>
        have := hT.sb D o Dp e
        rw [nD] at this
        cases this
    obtain ⟨Dp, nDH, aD⟩ := fr hT6 nD
    refine lc_gen (n := z) (fun k J => Tk K a p ds n H J ∧ ∃ gs : List Int, J D = some (.lst (gs.map V.int)) ∧ gs.length ≤ k) ⟨hT6.more (same_new nD), [], upd_same, Nat.le_refl _⟩ ?_ ?_ ?_ ?_
    · intro k J hk _
      show k < ((z : Int)).toNat
      omega
    · intro J _
      show ((z : Int)).toNat ≤ z
      omega
    · rintro k J x J' hk ⟨hT7, gs, eD, lg⟩ ⟨rfl, rfl⟩
      walk_at "go"
      have h17 := Int.emod_nonneg (0 + (k : Int)) (show (17 : Int) ≠ 0 by omega)
      walk_at "go"
      dsimp only
      split
      · walk_at "go"
        refine ⟨_, eD, by rw [List.length_map]; exact szC (by omega), hT7.mut nDH (SB.upd (Z.Same.sb (Same.refl _))) Dp (by rw [upd_ne aD]; exact hT7.hA), gs ++ [0 + (k : Int)], by rw [upd_same, List.map_append]; rfl, by rw [List.length_append, List.length_singleton]; omega⟩
      · exact ⟨hT7, gs, eD, by omega⟩
    rintro J ⟨hT7, gs, eD, lg⟩
    walk_at "go"
    refine ite2 (fun e => ?_) (fun e => ?_)
    · have e : 0 < r4 % 3 := of_decide_eq_true e
      have e3 := Int.emod_lt_of_pos r4 (show (0 : Int) < 3 by omega)
      have hwy : 3 - 2 * (r4 % 3) = 1 ∨ 3 - 2 * (r4 % 3) = -1 := by omega
      walk_at "go"
      intro L nL
      obtain ⟨Lp, nLH, aL⟩ := fr hT7 nL
      have DL : D ≠ L := ne_of_none eD nL
      refine lc_gen (n := z) (fun k J => Tk K a p ds n H J ∧ J D = some (.lst (gs.map V.int)) ∧ ∃ es : List Int, J L = some (.lst (es.map V.int)) ∧ es.length = k ∧ ∀ j : Nat, j < k → NG gs z (3 - 2 * (r4 % 3)) ((j : Int) + dz) (es.getD j 0)) ⟨hT7.more (same_new nL), same_new nL _ _ eD, [], upd_same, rfl, fun j hj => absurd hj (Nat.not_lt_zero _)⟩ ?_ ?_ ?_ ?_
      · intro k J hk _
        show k < ((z : Int)).toNat
        omega
      · intro J _
        show ((z : Int)).toNat ≤ z
        omega
      · rintro k J x J' hk ⟨hT8, eD8, es, eL, le, hn⟩ ⟨rfl, rfl⟩
        walk_at "go"
        refine ⟨D, gs, z, _, _, rfl, SqL.of eD8, z0, by omega, hwy, fun r hr => ?_⟩
        rw [Int.zero_add] at hr
        refine ⟨_, eL, by rw [List.length_map]; exact szC (by omega), hT8.mut nLH (SB.upd (Z.Same.sb (Same.refl _))) Lp (by rw [upd_ne aL]; exact hT8.hA), by rw [upd_ne DL]; exact eD8, es ++ [r], by rw [upd_same, List.map_append]; rfl, by rw [List.length_append, List.length_singleton]; omega, fun j hj => ?_⟩
        by_cases c : j = k
        · subst c
          rw [← le, getD_app_last, le]
          exact hr
        · rw [getD_app_left (by omega)]
          exact hn j (by omega)
      rintro J8 ⟨hT8, eD8, es, eL, le, hn⟩
      walk_at "go"
      refine q L J8 es nLH Lp hT8 eL (by rw [le]; exact zM) (ng_gd z0 hwy le hn) fun i hi => ?_
      have := hn i (by omega)
      rcases this with ⟨k, hk, er, _⟩ | ⟨_, er⟩
      · rw [er]
        rcases hwy with w1 | w1 <;> rw [w1] <;> omega
      · rw [er]
        omega
    · walk_at "go"
      intro L nL
      obtain ⟨Lp, nLH, aL⟩ := fr hT7 nL
      have sL := same_new (o := .lst [.int dz]) nL
      have hT8 := hT7.more sL
      have eL := upd_same (H := J) (a := L) (o := .lst [.int dz])
      generalize upd J L (.lst [.int dz]) = H8 at hT8 eL ⊢
      dsimp only [List.set]
      walk_at "go"
      refine for_gen (n := z - 1) (fun i σ H3 => ∃ (es : List Int) (x l : Int) (v6 v14 v15 : Option V), Tk K a p ds n H H3 ∧ H3 L = some (.lst (es.map V.int)) ∧ es.length = i + 1 ∧ (∀ j, j < i → es.getD j 0 ≤ es.getD (j + 1) 0) ∧ es.getD i 0 = x ∧ es.getD 0 0 = dz ∧ 0 ≤ l ∧ x - es.getD 0 0 + l = z ∧ (∀ j, j ≤ i → es.getD j 0 ≤ dz + z ∧ dz ≤ es.getD j 0) ∧ σ = [some (.ref a), some (.ref p), some (.int low), some (.int (many : Int)), some (.int wh), some (.int (z : Int)), v6, v7, some (.int x), some (.int r3), some (.int r4), some (.ref D), some (.int l), some (.ref L), v14, v15]) ⟨[dz], dz, z, _, none, none, hT8, eL, rfl, (fun j hj => by omega), rfl, rfl, by omega, (by show dz - dz + (z : Int) = z; omega), fun j hj => first_day (by omega) hj, rfl⟩ ?_ ?_ ?_ ?_
      · intro i σ H3 hi _
        show i < ((z : Int) - 1).toNat
        omega
      · intro σ H3 _
        show ((z : Int) - 1).toNat ≤ z - 1
        omega
      · rintro i σ H3 x H' hi ⟨es, x, l, v6, v14, v15, hT3, eL3, el, ea, ex, ez, l0, ed, bd, rfl⟩ ⟨rfl, rfl⟩
        walk_at "go"
        obtain ⟨mm, em⟩ := hT3.pl
        refine ⟨a, p, n, mm, ds, rfl, SqL.of hT3.hA, hT3.hd, em, hT3.ne, fun r r0 r1 => ?_⟩
        obtain ⟨hT4, sb4⟩ := hT3.next em
        have eL4 := sb4 _ _ Lp eL3
        generalize upd H' p (.lst [.int ((mm + 1 : Nat) : Int)]) = H4 at hT4 eL4 ⊢
        walk_at "go"
        intro B nB
        have sB := same_new (o := .lst [.int 1, .int 1, .int 0, .int (r / 4 % (l + 1))]) nB
        have eB : SqL K (upd H4 B (.lst [.int 1, .int 1, .int 0, .int (r / 4 % (l + 1))])) B (([1, 1, 0, r / 4 % (l + 1)] : List Int).map V.int) := SqL.of upd_same
        have hT5 := hT4.more sB
        have eL5 := sB _ _ eL4
        generalize upd H4 B (.lst [.int 1, .int 1, .int 0, .int (r / 4 % (l + 1))]) = H5 at hT5 eL5 eB ⊢
        obtain ⟨y, y0, ey⟩ : ∃ y : Int, 0 ≤ y ∧ atI (([1, 1, 0, r / 4 % (l + 1)] : List Int).map V.int) (r % 4) = some (.int y) := by
          have hp : ∀ y ∈ ([1, 1, 0, r / 4 % (l + 1)] : List Int), 0 ≤ y := by
            have h1 : 0 ≤ r / 4 % (l + 1) := Int.emod_nonneg _ (by omega)
            intro y hy
            simp only [List.mem_cons, List.not_mem_nil, or_false] at hy
            omega
          have hj : (r % 4).toNat < ([1, 1, 0, r / 4 % (l + 1)] : List Int).length := by
            show (r % 4).toNat < 4
            omega
          refine ⟨_, hp _ (List.getElem_mem hj), at_of (j := (r % 4).toNat) (by omega) ?_⟩
          rw [List.getElem?_map, List.getElem?_eq_getElem hj]
          rfl
        walk_at "go"
        refine ⟨B, _, _, _, rfl, rfl, eB, ey, ?_⟩
        walk_at "go"
        have hst : 0 ≤ (if y < l then y else l) ∧ (if y < l then y else l) ≤ l := by split <;> omega
        generalize (if y < l then y else l) = st at hst
        refine ⟨.inl ⟨rfl, _, .inl (.inl eL5)⟩, ?_⟩
        walk_at "go"
        refine ⟨_, _, _, rfl, rfl, eL5, ?_, ?_⟩
        · rw [List.length_map, el]
          exact szC (by omega)
        have sbL : SB L H5 (upd H5 L (.lst (es.map V.int ++ [.int (x + st)]))) := SB.upd (Z.Same.sb (Same.refl _))
        have hT6 : Tk K a p ds n H (upd H5 L (.lst (es.map V.int ++ [.int (x + st)]))) := hT5.mut nLH sbL Lp (sbL _ _ aL hT5.hA)
        refine ⟨es ++ [x + st], x + st, l - st, _, _, _, hT6, by rw [upd_same, List.map_append]; rfl, by rw [List.length_append, el]; rfl, fun j hj => ?_, ?_, (by rw [getD_app_left (by omega)]; exact ez), by omega, ?_, fun j hj => ?_, rfl⟩
        · by_cases c : j < i
          · rw [getD_app_left (by omega), getD_app_left (by omega)]
            exact ea j c
          · obtain rfl : j = i := by omega
            rw [getD_app_left (by omega), ← el, getD_app_last, ex]
            omega
        · rw [← el]
          exact getD_app_last
        · rw [getD_app_left (by omega)]
          omega
        · by_cases c : j ≤ i
          · rw [getD_app_left (by omega)]
            exact bd j c
          · obtain rfl : j = i + 1 := by omega
            have b0 := bd i (Nat.le_refl _)
            rw [ex] at b0
            rw [← el, getD_app_last]
            omega
      · rintro σ H3 ⟨es, x, l, v6, v14, v15, hT3, eL3, el, ea, ex, ez, l0, ed, bd, rfl⟩
        walk_at "go"
        refine q L H3 es nLH Lp hT3 eL3 (by rw [show es.length = z by omega]; exact zM) ⟨by omega, fun j hj => ea j (by omega), ?_⟩ fun j hj => ?_
        · rw [el, show z - 1 + 1 - 1 = z - 1 by omega, ex]
          omega
        · have := bd j (by omega)
          omega
end
end Z
set_option pp.maxSteps 700
set_option Elab.async false
set_option linter.all false
set_option maxRecDepth 100000
set_option maxHeartbeats 4000000
namespace Z
open Dy
open PySem PySem.Spec PyProof.Rows L2
open C8 (pss_cut tCut)
local macro_rules | `(tactic| walk_at "num") => `(tactic| first | rfl | omega | decide | exact Nat.le_of_lt (small1000 (by simp)) | exact ⟨by omega, by omega⟩ | exact ⟨by omega, by omega, by omega⟩ | exact ⟨by decide, by decide, by decide⟩ | exact Or.inl ⟨by omega, by omega⟩ | exact Or.inr ⟨by omega, by omega⟩)
local macro_rules | `(tactic| walk_at "go") => `(tactic| repeat (first | refine ⟨_, rfl, ?_⟩ | refine ⟨_, _, rfl, rfl, ?_⟩ | refine ⟨_, _, rfl, ?_⟩ | (refine ⟨_, _, rfl, rfl, ?_, ?_⟩; focus walk_at "num") | refine Or.inl ⟨_, rfl, ?_⟩ | refine ⟨_, _, _, _, rfl, rfl, (by assumption), (by rfl), ?_⟩ | refine ⟨_, _, _, _, _, rfl, (by assumption), (by assumption), (by assumption), (by rfl), ?_⟩ | refine ⟨rfl, ?_⟩ | (refine And.intro ?_ ?_; focus walk_at "num")))
abbrev s_bound : Stmt := topS 33
abbrev N_bound : List Str := ["_law_cell_here", "_law_many", "_law_whole_here", "_law_draws_here", "_law_place", "_law_i", "_law_j"]
abbrev P_bound : List Str := ["_law_cell_here", "_law_many", "_law_whole_here"]
theorem sc_bound : FnScope N_bound P_bound (defScope s_bound) := ⟨rfl, rfl, rfl, by decide +kernel, rfl, by decide +kernel, by decide +kernel⟩
abbrev s_bounds : Stmt := topS 34
abbrev N_bounds : List Str := ["_law_script", "_law_many", "_law_size", "_law_whole_here", "_law_k"]
abbrev P_bounds : List Str := ["_law_script", "_law_many", "_law_size", "_law_whole_here"]
theorem sc_bounds : FnScope N_bounds P_bounds (defScope s_bounds) := ⟨rfl, rfl, rfl, by decide +kernel, rfl, by decide +kernel, by decide +kernel⟩
abbrev s_wide : Stmt := topS 35
abbrev N_wide : List Str := ["_law_draw"]
abbrev P_wide : List Str := ["_law_draw"]
theorem sc_wide : FnScope N_wide P_wide (defScope s_wide) := ⟨rfl, rfl, rfl, by decide +kernel, rfl, by decide +kernel, by decide +kernel⟩
abbrev s_start : Stmt := topS 36
abbrev N_start : List Str := ["_law_cell_here", "_law_start_here"]
abbrev P_start : List Str := ["_law_cell_here"]
theorem sc_start : FnScope N_start P_start (defScope s_start) := ⟨rfl, rfl, rfl, by decide +kernel, rfl, by decide +kernel, by decide +kernel⟩
/-- a bound of the law -/
structure Lb where
  fr : Bool
  i : Nat
  j : Nat
  a : Addr
  es : List Int
def lbV (b : Lb) : List V := [.str (wrd b.fr), .int (b.i : Int), .int (b.j : Int), .ref b.a]
structure LbOk (M many : Nat) (b : Lb) : Prop where
  i : b.i < many
  j : b.j < many
  dv : b.es.length ∣ M
  gd : Gd b.es
  nr : ∀ k, k < b.es.length → (b.es.getD k 0).natAbs ≤ 2000
structure LbAt (H : Hp) (t : Addr) (b : Lb) : Prop where
  at_ : H t = some (.tup (lbV b))
  es : H b.a = some (.lst (b.es.map V.int))
theorem LbAt.mono {H H' : Hp} {t : Addr} {b : Lb} (s : Same H H') (h : LbAt H t b) : LbAt H' t b := ⟨s _ _ h.at_, s _ _ h.es⟩
structure LbL (H : Hp) (M many : Nat) (l : Addr) (zs : List (Addr × Lb)) : Prop where
  sq : H l = some (.lst (zs.map fun z => V.ref z.1))
  at_ : ∀ z ∈ zs, LbAt H z.1 z.2
  ok : ∀ z ∈ zs, LbOk M many z.2
theorem LbL.mono {H H' : Hp} {M many : Nat} {l : Addr} {zs : List (Addr × Lb)} (s : Same H H') (h : LbL H M many l zs) : LbL H' M many l zs := ⟨s _ _ h.sq, fun z m => (h.at_ z m).mono s, h.ok⟩
def WhM (wh : Int) (M : Nat) : Prop := (wh = 0 ∧ M = 420 ∨ wh = (M : Int)) ∧ 0 < M ∧ M ≤ 420
section
variable {P : Program} {w : World} {K : PySem.W.Frag} {mg : Str → Option Value} {base : Heap} {f C CD : Addr} {fd : FuncData}
def spBound (K : PySem.W.Frag) : Sp := fun vs H Q _ => ∃ (M many : Nat) (c wh : Int), vs = [.int c, .int (many : Int), .int wh] ∧ 0 < many ∧ WhM wh M ∧ ∀ (t : Addr) (b : Lb) H', Same H H' → LbAt H' t b → LbOk M many b → H b.a = none → Q (.ref t) H'
theorem ok_bound (F : FnP K "_law_bound" s_bound f fd) (m_int : mg "int" = none) (c_draws : Cal P w K mg base 1 "_law_draws" spDraws) (c_take : Cal P w K mg base 1 "_law_take" (spTake K)) (c_rule : Cal P w K mg base 2 "_law_rule" (spRuleL K)) : FnOk P w K mg base CX0 3 f fd P_bound (spBound K) := by
  refine F.ok sc_bound (fun vs H Q E h => ?_) (fun cdv A outer s H vs Q E hr h => ?_)
  · obtain ⟨M, many, c, wh, rfl, _⟩ := h
    rfl
  · obtain ⟨M, many, c, wh, rfl, hm, ⟨hw, hM, hM2⟩, q⟩ := h
    refine ⟨_, PSs.nox (pss_cons (ps_set (i := 3) sc_bound.nd rfl (by first | exact .inl rfl | exact .inr rfl) (pe_cl c_draws hr (by decide) (by rfl) (pa_cons (pv 0) (pa_cons pe_int pa_nil))))
      (pss_cons (ps_set (i := 4) sc_bound.nd rfl (by first | exact .inl rfl | exact .inr rfl) (pe_lst (pa_cons pe_int pa_nil)))
      (pss_cons (ps_set (i := 5) sc_bound.nd rfl (by first | exact .inl rfl | exact .inr rfl) (pe_op op_mod (pe_callTy call_int1 (by rfl) m_int (by decide +kernel) (pa_cons (pe_cl c_take hr (by decide) (by rfl) (pa_cons (pv 3) (pa_cons (pv 4) pa_nil))) pa_nil)) (pv 1)))
      (pss_cons (ps_set (i := 6) sc_bound.nd rfl (by first | exact .inl rfl | exact .inr rfl) (pe_op op_mod (pe_callTy call_int1 (by rfl) m_int (by decide +kernel) (pa_cons (pe_cl c_take hr (by decide) (by rfl) (pa_cons (pv 3) (pa_cons (pv 4) pa_nil))) pa_nil)) (pv 1)))
      (pss_cons (ps_if (pt_cmpR op_eq (pe_op op_mod (pe_callTy call_int1 (by rfl) m_int (by decide +kernel) (pa_cons (pe_cl c_take hr (by decide) (by rfl) (pa_cons (pv 3) (pa_cons (pv 4) pa_nil))) pa_nil)) pe_int) pe_int (nomark _)) (pss_one (ps_ret (pe_tup (pa_cons pe_str (pa_cons (pv 5) (pa_cons (pv 6) (pa_cons (pe_cl c_rule hr (by decide) (by rfl) (pa_cons (pv 3) (pa_cons (pv 4) (pa_cons (pe_op op_sub pe_int pe_int) (pa_cons pe_int (pa_cons (pv 2) pa_nil)))))) pa_nil))))))) pss_nil)
      (pss_one (ps_ret (pe_tup (pa_cons pe_str (pa_cons (pv 5) (pa_cons (pv 6) (pa_cons (pe_cl c_rule hr (by decide) (by rfl) (pa_cons (pv 3) (pa_cons (pv 4) (pa_cons (pe_op op_sub pe_int pe_int) (pa_cons pe_int (pa_cons (pv 2) pa_nil)))))) pa_nil)))))))))))), ?_⟩
    walk_at "go"
    intro D ds nD hd
    have sD := same_new (o := .lst (ds.map V.int)) nD
    have eD := upd_same (H := H) (a := D) (o := .lst (ds.map V.int))
    generalize upd H D (.lst (ds.map V.int)) = H1 at sD eD ⊢
    walk_at "go"
    intro p np
    have sp := same_new (o := .lst [.int 0]) np
    have Dp : D ≠ p := ne_of_none eD np
    have hT : Tk K D p ds 60 (upd H1 p (.lst [.int 0])) (upd H1 p (.lst [.int 0])) := ⟨sp _ _ eD, hd, Dp, Z.Same.sb (Same.refl _), 0, upd_same⟩
    have fr : ∀ H2, Tk K D p ds 60 (upd H1 p (.lst [.int 0])) H2 → Same H H2 := fun H2 t b o h => t.sb b o (ne_of_none (sD b o h) np) (sp b o (sD b o h))
    generalize upd H1 p (.lst [.int 0]) = H0 at hT fr ⊢
    clear sp sD eD
    walk_at "go"
    obtain ⟨m2, em2⟩ := hT.pl
    refine ⟨D, p, 60, m2, ds, rfl, SqL.of hT.hA, hT.hd, em2, hT.ne, fun r1 r10 r11 => ?_⟩
    obtain ⟨hT2, _⟩ := hT.next em2
    generalize upd H0 p (.lst [.int ((m2 + 1 : Nat) : Int)]) = H2 at hT2
    walk_at "go"
    obtain ⟨m3, em3⟩ := hT2.pl
    refine ⟨D, p, 60, m3, ds, rfl, SqL.of hT2.hA, hT2.hd, em3, hT2.ne, fun r2 r20 r21 => ?_⟩
    obtain ⟨hT3, _⟩ := hT2.next em3
    generalize upd H2 p (.lst [.int ((m3 + 1 : Nat) : Int)]) = H3 at hT3
    walk_at "go"
    obtain ⟨m4, em4⟩ := hT3.pl
    refine ⟨D, p, 60, m4, ds, rfl, SqL.of hT3.hA, hT3.hd, em4, hT3.ne, fun r3 r30 r31 => ?_⟩
    obtain ⟨hT4, _⟩ := hT3.next em4
    generalize upd H3 p (.lst [.int ((m4 + 1 : Nat) : Int)]) = H4 at hT4
    have md : ∀ r : Int, 0 ≤ r → ∃ c : Nat, r % (many : Int) = (c : Int) ∧ c < many := fun r r0 => by
      have h1 := Int.emod_nonneg r (show (many : Int) ≠ 0 by omega)
      have h2 := Int.emod_lt_of_pos r (show 0 < (many : Int) by omega)
      exact ⟨(r % (many : Int)).toNat, by omega, by omega⟩
    obtain ⟨i, ei, hi⟩ := md r1 r10
    obtain ⟨j, ej, hj⟩ := md r2 r20
    dsimp only [List.set]
    rw [ei, ej]
    have hT4' : Tk K D p ds 60 H4 H4 := ⟨hT4.hA, hT4.hd, hT4.ne, Z.Same.sb (Same.refl _), hT4.pl⟩
    walk_at "go"
    have nH : ∀ L, H4 L = none → H L = none := fun L n => none_of (fr _ hT4) n
    have fin : ∀ (b : Bool) (L : Addr) (H5 : Hp) (es : List Int), H4 L = none → Tk K D p ds 60 H4 H5 → H5 L = some (.lst (es.map V.int)) → es.length ∣ M → Gd es → (∀ i, i < es.length → (es.getD i 0).natAbs ≤ 2000) → ∀ t, H5 t = none → Q (.ref t) (upd H5 t (.tup [.str (wrd b), .int (i : Int), .int (j : Int), .ref L])) := fun b L H5 es nL hT5 eL dv gd nr t nt => by
      have st := same_new (o := .tup [.str (wrd b), .int (i : Int), .int (j : Int), .ref L]) nt
      have hT5 : Tk K D p ds 60 H0 H5 := ⟨hT5.hA, hT5.hd, hT5.ne, hT4.sb.trans hT5.sb, hT5.pl⟩
      exact q t ⟨b, i, j, L, es⟩ _ ((fr _ hT5).trans st) ⟨upd_same, st _ _ eL⟩ ⟨hi, hj, dv, gd, nr⟩ (nH L nL)
    refine ite2 (fun e => ?_) (fun e => ?_)
    · walk_at "go"
      refine ⟨D, p, 60, M, 17, _, wh, ds, rfl, hT4', by omega, hM, hw, hM2, fun L H5 es nL _ hT5 eL dv gd nr => ?_⟩
      walk_at "go"
      exact fin true L H5 es nL hT5 eL dv gd nr
    · walk_at "go"
      refine ⟨D, p, 60, M, 31, _, wh, ds, rfl, hT4', by omega, hM, hw, hM2, fun L H5 es nL _ hT5 eL dv gd nr => ?_⟩
      walk_at "go"
      exact fin false L H5 es nL hT5 eL dv gd nr
def spBounds (K : PySem.W.Frag) : Sp := fun vs H Q _ => ∃ (a : Addr) (ns : List Int) (M many n : Nat) (wh : Int), vs = [.ref a, .int (many : Int), .int (n : Int), .int wh] ∧ SqL K H a (ns.map V.int) ∧ 0 < many ∧ n ≤ 1000 ∧ WhM wh M ∧ ∀ (l : Addr) (zs : List (Addr × Lb)) H', Same H H' → H l = none → LbL H' M many l zs → zs.length = n → Q (.ref l) H'
theorem ok_bounds (F : FnP K "_law_bounds" s_bounds f fd) (m_range : mg "range" = none) (c_cell : Cal P w K mg base 1 "_law_cell" (spCell K)) (c_bound : Cal P w K mg base 3 "_law_bound" (spBound K)) : FnOk P w K mg base CX0 4 f fd P_bounds (spBounds K) := by
  refine F.ok sc_bounds (fun vs H Q E h => ?_) (fun cdv A outer s H vs Q E hr h => ?_)
  · obtain ⟨a, ns, M, many, n, wh, rfl, _⟩ := h
    rfl
  · obtain ⟨a, ns, M, many, n, wh, rfl, hS, hm, hn, hW, q⟩ := h
    refine ⟨_, PSs.nox (pss_one (ps_ret (pe_lc (own := [("_law_k", 4)]) (g := (gName 4)) (tt := tYes) (by rfl) sc_bounds.nd (pi_range1 (by rfl) m_range (pa_cons (pv 2) pa_nil)) (blkOk_by (own := [("_law_k", 4)]) (N := N_bounds) (sc := defScope s_bounds) (by decide +kernel)) (fun _ _ _ _ _ => (pg_name (i := 4) sc_bounds.nd rfl (by first | exact .inl rfl | exact .inr rfl))) (fun _ _ _ _ _ => pts_nil) (fun _ _ _ _ _ => (pe_cl c_bound hr (by decide) (by rfl) (pa_cons (pe_op op_add (pe_cl c_cell hr (by decide) (by rfl) (pa_cons (pv 0) (pa_cons (pe_op op_add pe_int (pv 4)) pa_nil))) (pe_op op_mul pe_int (pv 4))) (pa_cons (pv 1) (pa_cons (pv 3) pa_nil)))))))), ?_⟩
    walk_at "go"
    intro L nL
    refine lc_gen (n := n) (fun k J => Same H J ∧ ∃ zs, LbL J M many L zs ∧ zs.length = k ∧ ∀ z ∈ zs, z.2.a ≠ L) ⟨same_new nL, [], ⟨upd_same, fun z m => absurd m (by simp), fun z m => absurd m (by simp)⟩, rfl, fun z m => absurd m (by simp)⟩ ?_ ?_ ?_ ?_
    · intro k J hk _
      show k < ((n : Int)).toNat
      omega
    · intro J _
      show ((n : Int)).toNat ≤ n
      omega
    · rintro k J x J' hk ⟨s1, zs, hz, lz, na⟩ ⟨rfl, rfl⟩
      walk_at "go"
      refine ⟨a, ns, 2 + k, by rw [show ((2 + k : Nat) : Int) = 2 + (0 + (k : Int)) by omega]; rfl, s1.seq hS, ?_⟩
      walk_at "go"
      refine ⟨M, many, _, wh, rfl, hm, hW, fun t b J2 s2 hb ob nb => ?_⟩
      have na2 : ∀ z ∈ zs ++ [(t, b)], z.2.a ≠ L := fun z m => (List.mem_append.mp m).elim (na z) fun m => by rw [List.mem_singleton.mp m]; exact (ne_of_none hz.sq nb).symm
      have hz2 := hz.mono s2
      refine ⟨_, hz2.sq, by rw [List.length_map]; exact szC (by omega), Z.Same.mut (s1.trans s2) nL, zs ++ [(t, b)], ⟨by rw [upd_same, List.map_append]; rfl, fun z m => ?_, fun z m => ?_⟩, by rw [List.length_append, lz]; rfl, na2⟩
      · have key : LbAt J2 z.1 z.2 := (List.mem_append.mp m).elim (hz2.at_ z) fun m => by rw [List.mem_singleton.mp m]; exact hb
        refine ⟨?_, ?_⟩
        · rw [upd_ne (fun e => by have := key.at_; rw [e, hz2.sq] at this; cases this)]
          exact key.at_
        · rw [upd_ne (na2 z m)]
          exact key.es
      · rcases List.mem_append.mp m with m | m
        · exact hz.ok z m
        · rw [List.mem_singleton.mp m]
          exact ob
    rintro J ⟨s1, zs, hz, lz, _⟩
    walk_at "go"
    exact q L zs J s1 nL hz lz
def spWide : Sp := fun vs H Q _ => ∃ r : Int, vs = [.int r] ∧ 0 ≤ r ∧ ∀ (wh : Int) (M : Nat) H', Same H H' → WhM wh M → Q (.int wh) H'
theorem ok_wide (F : FnP K "_law_wide" s_wide f fd) (m_int : mg "int" = none) : FnOk P w K mg base CX0 1 f fd P_wide spWide := by
  refine F.ok sc_wide (fun vs H Q E h => ?_) (fun cdv A outer s H vs Q E hr h => ?_)
  · obtain ⟨r, rfl, _⟩ := h
    rfl
  · obtain ⟨r, rfl, r0, q⟩ := h
    refine ⟨_, PSs.nox (pss_cons (ps_if (pt_cmpR op_eq (pe_op op_mod (pe_callTy call_int1 (by rfl) m_int (by decide +kernel) (pa_cons (pe_op op_fdiv (pe_callTy call_int1 (by rfl) m_int (by decide +kernel) (pa_cons (pv 0) pa_nil)) pe_int) pa_nil)) pe_int) pe_int (nomark _)) (pss_one (ps_ret (pe_ix ix_list (pe_lst (pa_cons pe_int (pa_cons pe_int (pa_cons pe_int (pa_cons pe_int pa_nil))))) (pe_op op_mod (pe_callTy call_int1 (by rfl) m_int (by decide +kernel) (pa_cons (pe_op op_fdiv (pe_callTy call_int1 (by rfl) m_int (by decide +kernel) (pa_cons (pv 0) pa_nil)) pe_int) pa_nil)) pe_int) (fun _ _ => rfl)))) pss_nil)
      (pss_one (ps_ret pe_int))), ?_⟩
    walk_at "go"
    refine ite2 (fun e => ?_) (fun e => ?_)
    · walk_at "go"
      intro L nL
      generalize eH_ : upd H L _ = H1
      have s1 : Same H H1 := by rw [← eH_]; exact same_new nL
      have eL : H1 L = some (.lst (([360, 400, 420, 84] : List Int).map V.int)) := by rw [← eH_]; exact upd_same
      clear eH_
      have h1 := Int.emod_nonneg (r / 256) (show (4 : Int) ≠ 0 by omega)
      have h2 := Int.emod_lt_of_pos (r / 256) (show 0 < (4 : Int) by omega)
      have key : ∃ y : Nat, (y = 360 ∨ y = 400 ∨ y = 420 ∨ y = 84) ∧ atI (([360, 400, 420, 84] : List Int).map V.int) (r / 256 % 4) = some (.int (y : Int)) := by
        have : r / 256 % 4 = 0 ∨ r / 256 % 4 = 1 ∨ r / 256 % 4 = 2 ∨ r / 256 % 4 = 3 := by omega
        rcases this with e | e | e | e <;> rw [e]
        · exact ⟨360, by omega, rfl⟩
        · exact ⟨400, by omega, rfl⟩
        · exact ⟨420, by omega, rfl⟩
        · exact ⟨84, by omega, rfl⟩
      obtain ⟨y, hy, ey⟩ := key
      walk_at "go"
      refine ⟨L, _, _, _, rfl, rfl, SqL.of eL, ey, ?_⟩
      exact q y y H1 s1 ⟨.inr rfl, by omega, by omega⟩
    · walk_at "go"
      exact q 0 420 H (Same.refl _) ⟨.inl ⟨rfl, rfl⟩, by omega, by omega⟩
def spStart : Sp := fun vs H Q _ => ∃ c : Int, vs = [.int c] ∧ ∀ x : Int, Q (.int x) H
theorem ok_start (F : FnP K "_law_start" s_start f fd) (m_int : mg "int" = none) : FnOk P w K mg base CX0 1 f fd P_start spStart := by
  refine F.ok sc_start (fun vs H Q E h => ?_) (fun cdv A outer s H vs Q E hr h => ?_)
  · obtain ⟨r, rfl, _⟩ := h
    rfl
  · obtain ⟨c, rfl, q⟩ := h
    refine ⟨_, PSs.nox (pss_cons (ps_set (i := 1) sc_start.nd rfl (by first | exact .inl rfl | exact .inr rfl) (pe_op op_sub (pe_op op_mod (pe_callTy call_int1 (by rfl) m_int (by decide +kernel) (pa_cons (pe_op op_fdiv (pe_callTy call_int1 (by rfl) m_int (by decide +kernel) (pa_cons (pv 0) pa_nil)) pe_int) pa_nil)) pe_int) pe_int))
      (pss_cut (ps_if (pt_cmpR op_eq (pe_op op_mod (pe_callTy call_int1 (by rfl) m_int (by decide +kernel) (pa_cons (pv 0) pa_nil)) pe_int) pe_int (nomark _)) (pss_one (ps_set (i := 1) sc_start.nd rfl (by first | exact .inl rfl | exact .inr rfl) (pe_op op_sub (pe_op op_mod (pe_callTy call_int1 (by rfl) m_int (by decide +kernel) (pa_cons (pe_op op_fdiv (pe_callTy call_int1 (by rfl) m_int (by decide +kernel) (pa_cons (pv 0) pa_nil)) pe_int) pa_nil)) (pe_op op_add (pe_op op_mul pe_int (pe_op op_pow pe_int pe_int)) pe_int)) (pe_op op_pow pe_int pe_int)))) pss_nil)
      (pss_one (ps_ret (pv 1))))), ?_⟩
    walk_at "go"
    refine ⟨fun σ' H' => H' = H ∧ ∃ x : Int, σ' = [some (.int c), some (.int x)], ?_, ?_⟩
    · walk_at "go"
      refine ite2 (fun e => ?_) (fun e => ?_)
      · walk_at "go"
        have h60 : (0 : Int) < 2 * 10 ^ Int.toNat 60 + 1 := by decide +kernel
        refine ⟨h60, ?_⟩
        walk_at "go"
        exact ⟨_, rfl⟩
      · exact ⟨rfl, _, rfl⟩
    rintro σ' H1 ⟨rfl, x, rfl⟩
    walk_at "go"
    exact q x
end
end Z
set_option pp.maxSteps 700
set_option Elab.async false
set_option linter.all false
set_option maxRecDepth 100000
set_option maxHeartbeats 4000000
namespace Z
open Dy
open PySem PySem.Spec PyProof.Rows L2
open C8 (pss_cut tCut)
local macro_rules | `(tactic| walk_at "num") => `(tactic| first | rfl | omega | decide | exact Nat.le_of_lt (small1000 (by simp)) | exact ⟨by omega, by omega⟩ | exact ⟨by omega, by omega, by omega⟩ | exact ⟨by decide, by decide, by decide⟩ | exact Or.inl ⟨by omega, by omega⟩ | exact Or.inr ⟨by omega, by omega⟩)
local macro_rules | `(tactic| walk_at "go") => `(tactic| repeat (first | refine ⟨_, rfl, ?_⟩ | refine ⟨_, _, rfl, rfl, ?_⟩ | refine ⟨_, _, rfl, ?_⟩ | (refine ⟨_, _, rfl, rfl, ?_, ?_⟩; focus walk_at "num") | refine Or.inl ⟨_, rfl, ?_⟩ | refine ⟨_, _, _, _, rfl, rfl, (by assumption), (by rfl), ?_⟩ | refine ⟨_, _, _, _, _, rfl, (by assumption), (by assumption), (by assumption), (by rfl), ?_⟩ | refine ⟨rfl, ?_⟩ | (refine And.intro ?_ ?_; focus walk_at "num")))
abbrev s_period : Stmt := topS 37
abbrev N_period : List Str := ["_law_bounds_here", "_law_period_here", "_law_bound_here", "_law_size", "_law_many", "_law_k"]
abbrev P_period : List Str := ["_law_bounds_here"]
theorem sc_period : FnScope N_period P_period (defScope s_period) := ⟨rfl, rfl, rfl, by decide +kernel, rfl, by decide +kernel, by decide +kernel⟩
theorem loss_of {F : Int → Int} {ds : List Int} {G : Int} (o : Of F ds) (h : ∀ a, a < ds.length → (a : Int) - ds.getD a 0 ≤ G) (d : Int) : d - G ≤ F d := by
  rw [← o.dv]
  unfold dv
  have hn : 0 < (ds.length : Int) := by have := o.pos; omega
  have h1 := Int.emod_nonneg d (show (ds.length : Int) ≠ 0 by omega)
  have h2 := Int.emod_lt_of_pos d hn
  have h3 := Int.emod_add_mul_ediv d (ds.length : Int)
  have := h (d % (ds.length : Int)).toNat (by omega)
  rw [Int.toNat_of_nonneg h1] at this
  omega
theorem soo_ex {F : Int → Int} {n : Nat} (hn : 0 < n) (m : Mon F) (p : Per F (n : Int)) : ∃ S, Soo F S := by
  obtain ⟨L, h⟩ := lat_ex hn m p
  exact ⟨_, h.soo⟩
theorem getD_range {n i : Nat} (f : Nat → Int) (h : i < n) : ((List.range n).map f).getD i 0 = f i := by
  rw [List.getD_eq_getElem?_getD, List.getElem?_map, List.getElem?_range h]
  rfl
section
variable {P : Program} {w : World} {K : PySem.W.Frag} {mg : Str → Option Value} {base : Heap} {f C CD : Addr} {fd : FuncData}
/-! ### the forces, by the law -/
def lbd (b : Lb) : Bd := ⟨b.fr, b.i, b.j, b.a, dv b.es⟩
structure LfAt (H : Hp) (a : Addr) (f : Dl.Fc) : Prop where
  ex : ∃ (u : Addr) (es : List Int), H a = some (.tup [.int (f.s : Int), .int (f.t : Int), .ref u]) ∧ H u = some (.lst (es.map V.int)) ∧ Of f.F es ∧ es.length ≤ 1000
theorem LfAt.mono {H H' : Hp} {a : Addr} {f : Dl.Fc} (s : Same H H') (h : LfAt H a f) : LfAt H' a f := by
  obtain ⟨u, es, e1, e2, e3⟩ := h.ex
  exact ⟨u, es, s _ _ e1, s _ _ e2, e3⟩
structure LfL (H : Hp) (l : Addr) (ys : List (Addr × Dl.Fc)) : Prop where
  sq : H l = some (.lst (ys.map fun z => V.ref z.1))
  at_ : ∀ z ∈ ys, LfAt H z.1 z.2
theorem LfL.mono {H H' : Hp} {l : Addr} {ys : List (Addr × Dl.Fc)} (s : Same H H') (h : LfL H l ys) : LfL H' l ys := ⟨s _ _ h.sq, fun z m => (h.at_ z m).mono s⟩
theorem ne_refs {H : Hp} {u l : Addr} {es : List Int} {α : Type} {ys : List (Addr × α)} {z : Addr × α} (eu : H u = some (.lst (es.map V.int))) (el : H l = some (.lst (ys.map fun z => V.ref z.1))) (m : z ∈ ys) : u ≠ l := fun e => by
  rw [e, el] at eu
  have eu : ys.map (fun z => V.ref z.1) = es.map V.int := by injection eu with h; injection h
  have : V.ref z.1 ∈ es.map V.int := by rw [← eu]; exact List.mem_map.mpr ⟨z, m, rfl⟩
  obtain ⟨x, _, hx⟩ := List.mem_map.mp this
  cases hx
theorem LfL.put {H J : Hp} {l t u : Addr} {ys : List (Addr × Dl.Fc)} (h : LfL H l ys) (s : Same H J) (nt : H t = none) {f : Dl.Fc} {es : List Int} (eu : J u = some (.lst (es.map V.int))) (ul : u ≠ l) (et : J t = some (.tup [.int (f.s : Int), .int (f.t : Int), .ref u])) (o : Of f.F es) (le : es.length ≤ 1000) :
    LfL (upd J l (.lst ((ys.map fun z => V.ref z.1) ++ [.ref t]))) l (ys ++ [(t, f)]) := by
  have tl : t ≠ l := fun e => by have := h.sq; rw [← e, nt] at this; cases this
  refine ⟨by rw [upd_same, List.map_append]; rfl, fun z hz => ?_⟩
  rcases List.mem_append.mp hz with hz | hz
  · obtain ⟨v, ds, e1, e2, e3⟩ := (h.at_ z hz).ex
    refine ⟨v, ds, ?_, ?_, e3⟩
    · rw [upd_ne (fun q => by have := h.sq; rw [← q, e1] at this; cases this)]
      exact s _ _ e1
    · rw [upd_ne (ne_refs e2 h.sq hz)]
      exact s _ _ e2
  · rw [List.mem_singleton.mp hz]
    exact ⟨u, es, by rw [upd_ne tl]; exact et, by rw [upd_ne ul]; exact eu, o, le⟩
/-! ### the common period, by the law -/
theorem lcm_least {q s c : Nat} (hq : 0 < q) (hs : 0 < s) (c0 : 0 < c) (h : s ∣ q * c) (no : ∀ c', 0 < c' → c' < c → ¬ s ∣ q * c') : q * c = Nat.lcm q s := by
  obtain ⟨d, hd⟩ := Nat.dvd_lcm_left q s
  have l0 : 0 < Nat.lcm q s := Nat.lcm_pos hq hs
  have d0 : 0 < d := Nat.pos_of_ne_zero fun z => by rw [hd, z, Nat.mul_zero] at l0; exact absurd l0 (Nat.lt_irrefl _)
  have dc : d ∣ c := by
    have : q * d ∣ q * c := by rw [← hd]; exact Nat.lcm_dvd (Nat.dvd_mul_right _ _) h
    exact Nat.dvd_of_mul_dvd_mul_left hq this
  have le := Nat.le_of_dvd c0 dc
  by_cases e : d = c
  · rw [hd, e]
  · exact absurd (by rw [← hd]; exact Nat.dvd_lcm_right q s) (no d d0 (by omega))
def spPeriodL : Sp := fun vs H Q _ => ∃ (l : Addr) (M many : Nat) (zs : List (Addr × Lb)), vs = [.ref l] ∧ LbL H M many l zs ∧ M ≤ 420 ∧ 0 < M ∧ ∀ p, PerOf (zs.map fun z => lbd z.2) p → Q (.int (p : Int)) H
theorem ok_periodL (F : FnP K "_law_period" s_period f fd) (m_int : mg "int" = none) (m_range : mg "range" = none) (c_least : Cal P w K mg base 3 "_law_least" (spLeastL K)) : FnOk P w K mg base CX0 4 f fd P_period spPeriodL := by
  refine F.ok sc_period (fun vs H Q E h => ?_) (fun cdv A outer s H vs Q E hr h => ?_)
  · obtain ⟨l, M, many, zs, rfl, _⟩ := h
    rfl
  · obtain ⟨l, M, many, zs, rfl, hZ, hM, hM0, q⟩ := h
    refine ⟨_, PSs.nox (pss_cons (ps_set (i := 1) sc_period.nd rfl (by first | exact .inl rfl | exact .inr rfl) pe_int)
      (pss_cons (ps_for PassesOwn.never rfl (pi_list (pv 0)) (pg_name (i := 2) sc_period.nd rfl (by first | exact .inl rfl | exact .inr rfl))
        (pss_cons (ps_set (i := 3) sc_period.nd rfl (by first | exact .inl rfl | exact .inr rfl) (pe_cl c_least hr (by decide) (by rfl) (pa_cons (pe_ix ix_tup (pv 2) pe_int (fun _ _ => rfl)) pa_nil)))
      (pss_cons (ps_set (i := 4) sc_period.nd rfl (by first | exact .inl rfl | exact .inr rfl) (pv 1))
      (pss_one (ps_for PassesOwn.never rfl (pi_range1 (by rfl) m_range (pa_cons (pv 3) pa_nil)) (pg_name (i := 5) sc_period.nd rfl (by first | exact .inl rfl | exact .inr rfl))
        (pss_one (ps_if (pt_cmpR op_ne (pe_op op_mod (pe_callTy call_int1 (by rfl) m_int (by decide +kernel) (pa_cons (pv 1) pa_nil)) (pv 3)) pe_int (nomark _)) (pss_one (ps_set (i := 1) sc_period.nd rfl (by first | exact .inl rfl | exact .inr rfl) (pe_op op_add (pv 1) (pv 4)))) pss_nil)))))))
      (pss_one (ps_ret (pv 1))))), ?_⟩
    walk_at "go"
    refine ⟨⟨_, SqL.of hZ.sq⟩, ?_⟩
    refine for_gen (n := zs.length) (fun k σ J => J = H ∧ ∃ (ps : List Nat) (v2 v3 v4 v5 : Option V), ps.length = k ∧ (∀ (m : Nat) b p, (zs.map fun z => lbd z.2)[m]? = some b → ps[m]? = some p → Lp b.F p) ∧ 0 < lcmL ps ∧ σ = [some (.ref l), some (.int (lcmL ps : Int)), v2, v3, v4, v5]) ⟨rfl, [], none, none, none, none, rfl, fun m b p _ h => by simp at h, by decide, rfl⟩ ?_ ?_ ?_ ?_
    · rintro k σ J hk ⟨rfl, _⟩
      exact ⟨_, .ref zs[k].1, SqL.of hZ.sq, by rw [List.getElem?_map, List.getElem?_eq_getElem hk]; rfl⟩
    · rintro σ J ⟨rfl, _⟩
      exact ⟨_, SqL.of hZ.sq, by rw [List.length_map]; exact Nat.le_refl _⟩
    · rintro k σ J x J' hk ⟨rfl, ps, v2, v3, v4, v5, lp, hp, l0, rfl⟩ ⟨rfl, e⟩
      have hx := e _ (SqL.of hZ.sq)
      rw [List.getElem?_map, List.getElem?_eq_getElem hk] at hx
      cases hx
      have zm := List.getElem_mem hk
      have hz := hZ.at_ _ zm
      have oz := hZ.ok _ zm
      have ez : (zs.map fun z => lbd z.2)[k]? = some (lbd zs[k].2) := by rw [List.getElem?_map, List.getElem?_eq_getElem hk]; rfl
      generalize zs[k] = z at hz oz ez
      obtain ⟨za, b⟩ := z
      have les : b.es.length ≤ 420 := Nat.le_trans (Nat.le_of_dvd hM0 oz.dv) hM
      have hb : SqT K J' za (lbV b) := SqT.of hz.at_
      generalize eq0 : lcmL ps = q0 at l0
      walk_at "go"
      refine ⟨b.a, b.es, rfl, SqL.of hz.es, oz.gd.pos, by omega, fun p hlp => ?_⟩
      have p0 := hlp.pos
      have p1 : p ≤ 420 := Nat.le_trans (lp_le hlp oz.gd.pos (of_dv oz.gd.pos).per) les
      walk_at "go"
      refine for_gen (n := p) (fun i σ J => J = J' ∧ ∃ (c : Nat) (v5 : Option V), 0 < c ∧ c ≤ i + 1 ∧ (∀ c', 0 < c' → c' < c → ¬ p ∣ q0 * c') ∧ (c = i + 1 ∨ p ∣ q0 * c) ∧ σ = [some (.ref l), some (.int ((q0 * c : Nat) : Int)), some (.ref za), some (.int (p : Int)), some (.int (q0 : Int)), v5]) ⟨rfl, 1, v5, by omega, by omega, fun c' h1 h2 => by omega, .inl rfl, by rw [Nat.mul_one]; rfl⟩ ?_ ?_ ?_ ?_
      · intro i σ J hi _
        show i < ((p : Int)).toNat
        omega
      · intro σ J _
        show ((p : Int)).toNat ≤ p
        omega
      · rintro i σ J x J2 hi ⟨rfl, c, v5, c0, ci, no, yes, rfl⟩ ⟨rfl, rfl⟩
        have em : ((q0 * c : Nat) : Int) % (p : Int) = ((q0 * c % p : Nat) : Int) := (Int.natCast_emod _ _).symm
        walk_at "go"
        by_cases dv : p ∣ q0 * c
        · have z : q0 * c % p = 0 := Nat.mod_eq_zero_of_dvd dv
          rw [decide_eq_true (show V.int (((q0 * c : Nat) : Int) % (p : Int)) = V.int 0 by rw [em, z]; rfl)]
          refine ite2 (fun e => absurd e Bool.false_ne_true) (fun _ => ?_)
          exact ⟨rfl, c, _, c0, by omega, no, .inr dv, rfl⟩
        · have z : q0 * c % p ≠ 0 := fun z => dv (Nat.dvd_of_mod_eq_zero z)
          rw [decide_eq_false (show ¬ V.int (((q0 * c : Nat) : Int) % (p : Int)) = V.int 0 from fun h => by injection h with h; rw [em] at h; omega)]
          walk_at "go"
          refine ⟨c + 1, some (.int (0 + (i : Int))), by omega, by omega, fun c' h1 h2 => ?_, ?_, ?_⟩
          · by_cases h3 : c' = c
            · rw [h3]
              exact dv
            · exact no c' h1 (by omega)
          · rcases yes with y | y
            · exact .inl (by omega)
            · exact absurd y dv
          · rw [Nat.mul_add, Nat.mul_one, Int.natCast_add]
            rfl
      · rintro σ J ⟨rfl, c, v5, c0, ci, no, yes, rfl⟩
        have dv : p ∣ q0 * c := by
          rcases yes with y | y
          · exact absurd (Nat.dvd_mul_left p q0) (no p p0 (by omega))
          · exact y
        have el := lcm_least l0 p0 c0 dv no
        have en : lcmL (ps ++ [p]) = q0 * c := by
          rw [el, ← eq0]
          unfold lcmL
          rw [List.foldl_append]
          rfl
        refine ⟨rfl, ps ++ [p], _, _, _, _, by rw [List.length_append, lp]; rfl, fun m b' p' hb' hp' => ?_, by rw [en]; exact Nat.mul_pos l0 c0, by rw [en]⟩
        rcases Dl.get_app hp' with ⟨_, h2⟩ | ⟨h2, rfl⟩
        · exact hp m b' p' hb' h2
        · rw [h2, lp, ez] at hb'
          cases hb'
          exact hlp
    · rintro σ J ⟨rfl, ps, v2, v3, v4, v5, lp, hp, _, rfl⟩
      walk_at "go"
      exact q _ ⟨ps, by rw [lp, List.length_map], hp, rfl⟩
end
end Z
set_option linter.all false
set_option maxRecDepth 100000
namespace Dl
/-! ### the least days that keep forces -/
def Kps (S : Fc → Prop) (y : Dy) : Prop := ∀ f, S f → f.F (y f.s) ≤ y f.t
structure FsOk (S : Fc → Prop) (many : Nat) (Pd : Int) : Prop where
  pos : 0 < Pd
  mon : ∀ f, S f → ∀ d e, d ≤ e → f.F d ≤ f.F e
  per : ∀ f, S f → ∀ (d m : Int), f.F (d + m * Pd) = f.F d + m * Pd
  ends : ∀ f, S f → f.s < many ∧ f.t < many
structure Lst (S : Fc → Prop) (many : Nat) (start : Int) (x : Dy) : Prop where
  kp : Kps S x
  ge : ∀ e, e < many → start ≤ x e
  le : ∀ y, Kps S y → (∀ e, e < many → start ≤ y e) → ∀ e, e < many → x e ≤ y e
def Pl (S : Fc → Prop) (many : Nat) (start : Int) (l : List Int) : Prop := (l = [] ∧ ∀ y, ¬ Kps S y) ∨ ∃ x, l = (List.range many).map x ∧ Lst S many start x
theorem rz_low {many : Nat} {f : Fc} (e1 : f.s < many) (m : ∀ d e, d ≤ e → f.F d ≤ f.F e) {x y : Dy} (k : f.F (y f.s) ≤ y f.t) (h : ∀ e, e < many → x e ≤ y e) : ∀ e, e < many → rz x f e ≤ y e := fun e he => by
  unfold rz
  split
  · rename_i c
    rw [c.1]
    exact Int.le_trans (m _ _ (h _ e1)) k
  · exact h e he
theorem sw_low {many : Nat} {y : Dy} : ∀ {fs : List Fc} {x : Dy}, (∀ f ∈ fs, f.s < many) → (∀ f ∈ fs, ∀ d e, d ≤ e → f.F d ≤ f.F e) → (∀ f ∈ fs, f.F (y f.s) ≤ y f.t) → (∀ e, e < many → x e ≤ y e) → ∀ e, e < many → sw fs x e ≤ y e
  | [], _, _, _, _, h => h
  | f :: r, x, e, m, k, h => by
    show ∀ a, a < many → sw r (rz x f) a ≤ y a
    exact sw_low (fun g mg => e g (List.mem_cons_of_mem _ mg)) (fun g mg => m g (List.mem_cons_of_mem _ mg)) (fun g mg => k g (List.mem_cons_of_mem _ mg)) (rz_low (e f List.mem_cons_self) (m f List.mem_cons_self) (k f List.mem_cons_self) h)
theorem swn_low {many : Nat} {y : Dy} {fs : List Fc} {x : Dy} (e : ∀ f ∈ fs, f.s < many) (m : ∀ f ∈ fs, ∀ d e, d ≤ e → f.F d ≤ f.F e) (k : ∀ f ∈ fs, f.F (y f.s) ≤ y f.t) (h : ∀ e, e < many → x e ≤ y e) : ∀ n, ∀ e, e < many → swn fs n x e ≤ y e
  | 0 => h
  | n + 1 => sw_low e m k (swn_low e m k h n)
theorem swn_ge_ (fs : List Fc) (x : Dy) (e : Nat) : ∀ n, x e ≤ swn fs n x e
  | 0 => Int.le_refl _
  | n + 1 => Int.le_trans (swn_ge_ fs x e n) (sw_le fs (swn fs n x) e)
theorem lst_of {fs : List Fc} {many T : Nat} {start Pd : Int} {x : Dy} (ok : FsOk (· ∈ fs) many Pd) (e : x = swn fs T fun _ => start) (fx : sw fs x = x) : Lst (· ∈ fs) many start x :=
  ⟨fun f m => sw_fix fx f m, fun k _ => by rw [e]; exact swn_ge_ fs _ k T, fun y ky gy => by rw [e]; exact swn_low (fun f m => (ok.ends f m).1) ok.mon ky gy T⟩
theorem wk_low {fs : List Fc} {many : Nat} {Pd : Int} (ok : FsOk (· ∈ fs) many Pd) {y : Dy} (ky : Kps (· ∈ fs) y) (m : Int) {e e' : Nat} {d d' : Int} {bs : List Nat} (w : Wk fs e d bs e' d') : d + m * Pd ≤ y e → d' + m * Pd ≤ y e' := by
  induction w with
  | nil e d => exact fun h => h
  | @cons b f d bs e' d' hb w ih =>
    intro h
    have mf := List.mem_of_getElem? hb
    refine ih ?_
    rw [← ok.per f mf]
    exact Int.le_trans (ok.mon f mf _ _ h) (ky f mf)
theorem no_keep {fs : List Fc} {many : Nat} {Pd : Nat} {bs : List Nat} {d : Int} (ok : FsOk (· ∈ fs) many Pd) (r : RingOf fs Pd bs d) (y : Dy) : ¬ Kps (· ∈ fs) y := fun ky => by
  obtain ⟨_, e, d', w, g⟩ := r
  have p := ok.pos
  have up : ∀ n : Nat, ∀ m : Int, d + m * (Pd : Int) ≤ y e → d + (m + n) * (Pd : Int) ≤ y e := by
    intro n
    induction n with
    | zero => exact fun m h => by simpa using h
    | succ n ih =>
      intro m h
      have h2 := wk_low ok ky (m + n) w (ih m h)
      have : (m + ((n + 1 : Nat) : Int)) * (Pd : Int) = (m + n) * Pd + Pd := by
        rw [Int.natCast_add, ← Int.add_assoc, Int.add_mul (m + n)]
        simp
      rw [this]
      omega
  have lo : d + (-((d - y e).natAbs : Int)) * (Pd : Int) ≤ y e := by
    have h1 : ((d - y e).natAbs : Int) * 1 ≤ ((d - y e).natAbs : Int) * (Pd : Int) := Int.mul_le_mul_of_nonneg_left (by omega) (by omega)
    rw [Int.neg_mul]
    omega
  have h := up ((d - y e).natAbs + (d - y e).natAbs + 1) _ lo
  have e2 : -((d - y e).natAbs : Int) + (((d - y e).natAbs + (d - y e).natAbs + 1 : Nat) : Int) = ((d - y e).natAbs : Int) + 1 := by omega
  rw [e2] at h
  have h1 : (((d - y e).natAbs : Int) + 1) * 1 ≤ (((d - y e).natAbs : Int) + 1) * (Pd : Int) := Int.mul_le_mul_of_nonneg_left (by omega) (by omega)
  omega
theorem pl_days {fs : List Fc} {many : Nat} {start : Int} {Pd : Nat} {x : Dy} {Q : Int} (ok : FsOk (· ∈ fs) many Q) (h : DaysA fs many start Pd x) : Pl (· ∈ fs) many start ((List.range many).map x) := by
  obtain ⟨⟨T, e, _⟩, fx, _⟩ := h
  exact .inr ⟨x, rfl, lst_of ok e fx⟩
theorem pl_ring {fs : List Fc} {many : Nat} {start : Int} {Pd : Nat} {bs : List Nat} {d : Int} (ok : FsOk (· ∈ fs) many Pd) (h : RingA fs many start Pd bs d) : Pl (· ∈ fs) many start [] := .inl ⟨rfl, no_keep ok h.1.1⟩
theorem Lst.ext {S : Fc → Prop} {many : Nat} {start : Int} {x y : Dy} (h : Lst S many start x) (k : Lst S many start y) : (List.range many).map x = (List.range many).map y :=
  List.map_congr_left fun e he => by
    have he := List.mem_range.mp he
    have := h.le y k.kp k.ge e he
    have := k.le x h.kp h.ge e he
    omega
theorem rm_ne {many : Nat} (h : 0 < many) (x : Dy) : (List.range many).map x ≠ [] := fun z => by
  have := congrArg List.length z
  rw [List.length_map, List.length_range] at this
  simp at this
  omega
theorem Pl.uniq {S : Fc → Prop} {many : Nat} {start : Int} {l l' : List Int} (h : Pl S many start l) (k : Pl S many start l') : l = l' := by
  rcases h with ⟨rfl, n⟩ | ⟨x, rfl, a⟩ <;> rcases k with ⟨rfl, n2⟩ | ⟨y, rfl, b⟩
  · rfl
  · exact absurd b.kp (n _)
  · exact absurd a.kp (n2 _)
  · exact a.ext b
theorem Pl.nil_iff {S : Fc → Prop} {many : Nat} {start : Int} {l : List Int} (m0 : 0 < many) (h : Pl S many start l) : l = [] ↔ ∀ y, ¬ Kps S y := by
  rcases h with ⟨rfl, n⟩ | ⟨x, rfl, a⟩
  · exact ⟨fun _ => n, fun _ => rfl⟩
  · exact ⟨fun z => absurd z (rm_ne m0 x), fun z => absurd a.kp (z _)⟩
theorem Pl.len {S : Fc → Prop} {many : Nat} {start : Int} {l : List Int} (h : Pl S many start l) : l = [] ∨ l.length = many := by
  rcases h with ⟨rfl, n⟩ | ⟨x, rfl, a⟩
  · exact .inl rfl
  · exact .inr (by simp)
theorem kps_shift {S : Fc → Prop} {many : Nat} {Pd : Int} (ok : FsOk S many Pd) {y : Dy} (h : Kps S y) (m : Int) : Kps S fun e => y e + m * Pd := fun f hf => by
  show f.F (y f.s + m * Pd) ≤ y f.t + m * Pd
  rw [ok.per f hf]
  have := h f hf
  omega
theorem Pl.shift {S : Fc → Prop} {many : Nat} {Pd : Int} (ok : FsOk S many Pd) {start : Int} {l : List Int} (h : Pl S many start l) (m : Int) : Pl S many (start + m * Pd) (l.map fun d => d + m * Pd) := by
  rcases h with ⟨rfl, n⟩ | ⟨x, rfl, a⟩
  · exact .inl ⟨rfl, n⟩
  · refine .inr ⟨fun e => x e + m * Pd, by rw [List.map_map]; rfl, kps_shift ok a.kp m, fun e he => ?_, fun y ky gy e he => ?_⟩
    · have := a.ge e he
      show start + m * Pd ≤ x e + m * Pd
      omega
    · have := a.le (fun e => y e + (-m) * Pd) (kps_shift ok ky (-m)) (fun e he => by have := gy e he; rw [Int.neg_mul]; show start ≤ y e + -(m * Pd); omega) e he
      rw [Int.neg_mul] at this
      have this : x e ≤ y e + -(m * Pd) := this
      show x e + m * Pd ≤ y e
      omega
/-- no day earlier -/
def NotE (later days : List Int) : Prop := (days = [] → later = []) ∧ (later ≠ [] → later.length = days.length ∧ ∀ k : Nat, k < days.length → days.getD k 0 ≤ later.getD k 0)
theorem getD_rm {many : Nat} {x : Dy} {k : Nat} (h : k < many) : ((List.range many).map x).getD k 0 = x k := by
  rw [List.getD_eq_getElem?_getD, List.getElem?_map, List.getElem?_range h]
  rfl
theorem Pl.more {S S' : Fc → Prop} {many : Nat} (m0 : 0 < many) {start start' : Int} {l l' : List Int} (sub : ∀ f, S f → S' f) (le : start ≤ start') (h : Pl S many start l) (k : Pl S' many start' l') : NotE l' l := by
  have dn : ∀ y, Kps S' y → Kps S y := fun y ky f hf => ky f (sub f hf)
  refine ⟨fun z => (k.nil_iff m0).mpr fun y ky => (h.nil_iff m0).mp z y (dn y ky), fun z => ?_⟩
  rcases k with ⟨rfl, n⟩ | ⟨y, rfl, b⟩
  · exact absurd rfl z
  · rcases h with ⟨rfl, n⟩ | ⟨x, rfl, a⟩
    · exact absurd (dn _ b.kp) (n _)
    · refine ⟨by simp, fun e he => ?_⟩
      rw [List.length_map, List.length_range] at he
      rw [getD_rm he, getD_rm he]
      exact a.le y (dn _ b.kp) (fun e he => Int.le_trans le (b.ge e he)) e he
theorem Pl.later {S : Fc → Prop} {many : Nat} (m0 : 0 < many) {start start' : Int} {l l' : List Int} (h : Pl S many start l) (k : Pl S many start' l') : l' = [] ↔ l = [] := (k.nil_iff m0).trans (h.nil_iff m0).symm
/-! ### events in another order -/
def tn (many c e : Nat) : Nat := (e + c) % many
def tnF (many c : Nat) (f : Fc) : Fc := ⟨tn many c f.s, tn many c f.t, f.F⟩
theorem tn_back {many c e : Nat} (hc : c < many) (he : e < many) : tn many c (tn many (many - c) e) = e ∧ tn many (many - c) (tn many c e) = e := by
  unfold tn
  constructor
  · rw [Nat.mod_add_mod, show e + (many - c) + c = e + many by omega, Nat.add_mod_right, Nat.mod_eq_of_lt he]
  · rw [Nat.mod_add_mod, show e + c + (many - c) = e + many by omega, Nat.add_mod_right, Nat.mod_eq_of_lt he]
theorem tn_lt {many c e : Nat} (h : 0 < many) : tn many c e < many := Nat.mod_lt _ h
theorem Pl.turn {S S' : Fc → Prop} {many c : Nat} {Pd : Int} (hc : c < many) (ok : FsOk S many Pd) (hS : ∀ f, S' f ↔ ∃ g, S g ∧ f = tnF many c g) {start : Int} {l : List Int} (h : Pl S many start l) : Pl S' many start (if l = [] then [] else (List.range many).map fun k => l.getD (tn many (many - c) k) 0) := by
  have m0 : 0 < many := by omega
  have k1 : ∀ y, Kps S' y → Kps S fun e => y (tn many c e) := fun y ky f hf => ky (tnF many c f) ((hS _).mpr ⟨f, hf, rfl⟩)
  have k2 : ∀ x, Kps S x → Kps S' fun e => x (tn many (many - c) e) := fun x kx f hf => by
    obtain ⟨g, hg, rfl⟩ := (hS _).mp hf
    obtain ⟨e1, e2⟩ := ok.ends g hg
    show g.F (x (tn many (many - c) (tn many c g.s))) ≤ x (tn many (many - c) (tn many c g.t))
    rw [(tn_back hc e1).2, (tn_back hc e2).2]
    exact kx g hg
  rcases h with ⟨rfl, n⟩ | ⟨x, rfl, a⟩
  · rw [if_pos rfl]
    exact .inl ⟨rfl, fun y ky => n _ (k1 y ky)⟩
  · rw [if_neg (rm_ne m0 x)]
    refine .inr ⟨fun e => x (tn many (many - c) e), List.map_congr_left fun k hk => getD_rm (tn_lt m0), k2 x a.kp, fun e he => a.ge _ (tn_lt m0), fun y ky gy e he => ?_⟩
    have := a.le _ (k1 y ky) (fun e he => gy _ (tn_lt m0)) (tn many (many - c) e) (tn_lt m0)
    rw [(tn_back hc he).1] at this
    exact this
theorem pl_none {S : Fc → Prop} (h : ∀ f, ¬ S f) (many : Nat) (start : Int) : Pl S many start ((List.range many).map fun _ => start) := .inr ⟨fun _ => start, rfl, fun f hf => absurd hf (h f), fun _ _ => Int.le_refl _, fun y _ gy e he => gy e he⟩
end Dl
set_option pp.maxSteps 700
set_option Elab.async false
set_option linter.all false
set_option maxRecDepth 100000
set_option maxHeartbeats 4000000
namespace Z
open Dy
open PySem PySem.Spec PyProof.Rows L2
open C8 (pss_cut tCut)
local macro_rules | `(tactic| walk_at "num") => `(tactic| first | rfl | omega | decide | exact Nat.le_of_lt (small1000 (by simp)) | exact ⟨by omega, by omega⟩ | exact ⟨by omega, by omega, by omega⟩ | exact ⟨by decide, by decide, by decide⟩ | exact Or.inl ⟨by omega, by omega⟩ | exact Or.inr ⟨by omega, by omega⟩)
local macro_rules | `(tactic| walk_at "go") => `(tactic| repeat (first | refine ⟨_, rfl, ?_⟩ | refine ⟨_, _, rfl, rfl, ?_⟩ | refine ⟨_, _, rfl, ?_⟩ | (refine ⟨_, _, rfl, rfl, ?_, ?_⟩; focus walk_at "num") | refine Or.inl ⟨_, rfl, ?_⟩ | refine ⟨_, _, _, _, rfl, rfl, (by assumption), (by rfl), ?_⟩ | refine ⟨_, _, _, _, _, rfl, (by assumption), (by assumption), (by assumption), (by rfl), ?_⟩ | refine ⟨rfl, ?_⟩ | (refine And.intro ?_ ?_; focus walk_at "num")))
abbrev s_passed : Stmt := topS 38
abbrev N_passed : List Str := ["_law_bounds_here", "_law_bound_here"]
abbrev P_passed : List Str := ["_law_bounds_here"]
theorem sc_passed : FnScope N_passed P_passed (defScope s_passed) := ⟨rfl, rfl, rfl, by decide +kernel, rfl, by decide +kernel, by decide +kernel⟩
abbrev s_plan : Stmt := topS 39
abbrev N_plan : List Str := ["_law_many", "_law_bounds_here", "_law_start_here", "_law_found", "_law_day"]
abbrev P_plan : List Str := ["_law_many", "_law_bounds_here", "_law_start_here"]
theorem sc_plan : FnScope N_plan P_plan (defScope s_plan) := ⟨rfl, rfl, rfl, by decide +kernel, rfl, by decide +kernel, by decide +kernel⟩
/-! ### the forces of bounds as a set -/
def FsS (bs : List Bd) : Dl.Fc → Prop := fun f => ∃ b ∈ bs, FcOf b f
theorem FcsOf.mem {bs : List Bd} {fs : List Dl.Fc} (h : FcsOf bs fs) : (· ∈ fs) = FsS bs := funext fun f => propext ⟨fun m => by
  obtain ⟨k, hk, rfl⟩ := List.getElem_of_mem m
  have hb : k < bs.length := by rw [h.1]; exact hk
  exact ⟨_, List.getElem_mem hb, h.2 k _ _ (List.getElem?_eq_getElem hb) (List.getElem?_eq_getElem hk)⟩, fun ⟨b, m, e⟩ => by
  obtain ⟨k, hk, rfl⟩ := List.getElem_of_mem m
  have hf : k < fs.length := by rw [← h.1]; exact hk
  rw [e.uniq (h.2 k _ _ (List.getElem?_eq_getElem hk) (List.getElem?_eq_getElem hf))]
  exact List.getElem_mem hf⟩
theorem lcm_mem : ∀ (ps : List Nat) (a : Nat), a ∣ ps.foldl Nat.lcm a ∧ ∀ p ∈ ps, p ∣ ps.foldl Nat.lcm a
  | [], a => ⟨Nat.dvd_refl _, fun p m => absurd m (by simp)⟩
  | q :: r, a => by
    obtain ⟨h1, h2⟩ := lcm_mem r (Nat.lcm a q)
    refine ⟨Nat.dvd_trans (Nat.dvd_lcm_left _ _) h1, fun p m => ?_⟩
    rcases List.mem_cons.mp m with rfl | m
    · exact Nat.dvd_trans (Nat.dvd_lcm_right _ _) h1
    · exact h2 p m
theorem lcm_pos : ∀ (ps : List Nat) (a : Nat), 0 < a → (∀ p ∈ ps, 0 < p) → 0 < ps.foldl Nat.lcm a
  | [], a, h, _ => h
  | q :: r, a, h, k => lcm_pos r _ (Nat.lcm_pos h (k q List.mem_cons_self)) fun p m => k p (List.mem_cons_of_mem _ m)
theorem PerOf.all {bs : List Bd} {Pd : Nat} (h : PerOf bs Pd) : 0 < Pd ∧ ∀ b ∈ bs, Per b.F (Pd : Int) := by
  obtain ⟨ps, e, l, rfl⟩ := h
  have lp : ∀ p ∈ ps, 0 < p := fun p m => by
    obtain ⟨k, hk, rfl⟩ := List.getElem_of_mem m
    have hb : k < bs.length := by omega
    exact (l k _ _ (List.getElem?_eq_getElem hb) (List.getElem?_eq_getElem hk)).pos
  refine ⟨lcm_pos ps 1 (by decide) lp, fun b m => ?_⟩
  obtain ⟨k, hk, rfl⟩ := List.getElem_of_mem m
  have hp : k < ps.length := by omega
  exact (l k _ _ (List.getElem?_eq_getElem hk) (List.getElem?_eq_getElem hp)).per.dvd (Nat.mod_eq_zero_of_dvd ((lcm_mem ps 1).2 _ (List.getElem_mem hp)))
theorem fs_ok {bs : List Bd} {many Pd : Nat} (per : PerOf bs Pd) (mo : ∀ b ∈ bs, Dy.Mon b.F) (ends : ∀ b ∈ bs, b.i < many ∧ b.j < many) : Dl.FsOk (FsS bs) many (Pd : Int) := by
  obtain ⟨p0, pa⟩ := per.all
  have key : ∀ f, FsS bs f → Mon f.F ∧ Per f.F (Pd : Int) ∧ f.s < many ∧ f.t < many := fun f ⟨b, m, h⟩ => by
    have := ends b m
    rcases h with ⟨_, rfl⟩ | ⟨_, S, s, rfl⟩
    · exact ⟨mo b m, pa b m, this.1, this.2⟩
    · exact ⟨s.mon, s.per (pa b m), this.2, this.1⟩
  exact ⟨by omega, fun f h d e c => (key f h).1.le c, fun f h d m => (key f h).2.1.imul m d, fun f h => (key f h).2.2⟩
def lbs (zs : List (Addr × Lb)) : List Bd := zs.map fun z => lbd z.2
/-- the days that a plan gives: none for a ring -/
def PlL (zs : List (Addr × Lb)) (many : Nat) (start : Int) (xs : List Int) : Prop := Dl.Pl (FsS (lbs zs)) many start xs
theorem LbL.fs {H : Hp} {M many Pd : Nat} {l : Addr} {zs : List (Addr × Lb)} (h : LbL H M many l zs) (per : PerOf (lbs zs) Pd) : Dl.FsOk (FsS (lbs zs)) many (Pd : Int) := by
  refine fs_ok per (fun b m => ?_) fun b m => ?_
  · obtain ⟨z, hz, rfl⟩ := List.mem_map.mp m
    exact Mon.dv (h.ok z hz).gd
  · obtain ⟨z, hz, rfl⟩ := List.mem_map.mp m
    exact ⟨(h.ok z hz).i, (h.ok z hz).j⟩
/-- what is passed: a list of tuples -/
structure PdL (C : Addr) (K : PySem.W.Frag) (H : Hp) (M : Nat) (p : Addr) (zp : List (Addr × Bd)) : Prop where
  sq : H p = some (.lst (zp.map fun z => V.ref z.1))
  at_ : ∀ z ∈ zp, H z.1 = some (.tup (bdV z.2))
  rl : ∀ z ∈ zp, RuleF C K H z.2.n M z.2.F
theorem PdL.mono {C : Addr} {K : PySem.W.Frag} {H H' : Hp} {M : Nat} {p : Addr} {zp : List (Addr × Bd)} (s : Same H H') (h : PdL C K H M p zp) : PdL C K H' M p zp := ⟨s _ _ h.sq, fun z m => s _ _ (h.at_ z m), fun z m => (h.rl z m).mono s⟩
theorem rule_upd {C : Addr} {K : PySem.W.Frag} {J : Hp} {M : Nat} {p n : Addr} {F : Int → Int} {xs ys : List V} (e : J p = some (.lst xs)) (r : RuleF C K J n M F) : RuleF C K (upd J p (.lst ys)) n M F := by
  obtain ⟨⟨ds, ⟨dx, t, e1, e2⟩, o⟩, b, c⟩ := r
  exact ⟨⟨ds, ⟨dx, t, by rw [upd_ne (fun z => by rw [z, e] at e1; cases e1)]; exact e1, by rw [upd_ne (fun z => by rw [z, e] at e2; cases e2)]; exact e2⟩, o⟩, b, c⟩
theorem PdL.mk_ {C : Addr} {K : PySem.W.Frag} {J : Hp} {M : Nat} {p : Addr} {xs : List V} {zp : List (Addr × Bd)} (e : J p = some (.lst xs)) (h : ∀ z ∈ zp, J z.1 = some (.tup (bdV z.2)) ∧ RuleF C K J z.2.n M z.2.F) : PdL C K (upd J p (.lst (zp.map fun z => V.ref z.1))) M p zp :=
  ⟨upd_same, fun z m => by rw [upd_ne (fun q => by have := (h z m).1; rw [q, e] at this; cases this)]; exact (h z m).1, fun z m => rule_upd e (h z m).2⟩
theorem PdL.bd {C : Addr} {K : PySem.W.Frag} {H : Hp} {M : Nat} {p : Addr} {zp : List (Addr × Bd)} (h : PdL C K H M p zp) : BdL C K H M true false p zp := ⟨SqL.of h.sq, fun z m => SqT.of (h.at_ z m), h.rl⟩
/-- the bounds passed are those of the law -/
structure Pair (zp : List (Addr × Bd)) (zl : List (Addr × Lb)) : Prop where
  len : zp.length = zl.length
  at_ : ∀ (k : Nat) b c, zp[k]? = some b → zl[k]? = some c → b.2.fr = c.2.fr ∧ b.2.i = c.2.i ∧ b.2.j = c.2.j ∧ b.2.F = dv c.2.es
theorem Pair.snoc {zp : List (Addr × Bd)} {zl : List (Addr × Lb)} (p : Pair zp zl) {b : Addr × Bd} {c : Addr × Lb} (h : b.2.fr = c.2.fr ∧ b.2.i = c.2.i ∧ b.2.j = c.2.j ∧ b.2.F = dv c.2.es) : Pair (zp ++ [b]) (zl ++ [c]) := by
  refine ⟨by rw [List.length_append, List.length_append, p.len]; rfl, fun k x y hx hy => ?_⟩
  have pl := p.len
  rcases Dl.get_app hx with ⟨k1, e⟩ | ⟨k1, rfl⟩
  · rcases Dl.get_app hy with ⟨k2, e2⟩ | ⟨k2, _⟩
    · exact p.at_ k x y e e2
    · omega
  · rcases Dl.get_app hy with ⟨k2, e2⟩ | ⟨k2, rfl⟩
    · omega
    · exact h
theorem Pair.ok {H : Hp} {M many : Nat} {l : Addr} {zp : List (Addr × Bd)} {zl : List (Addr × Lb)} (p : Pair zp zl) (h : LbL H M many l zl) : Ok many zp := fun z hz => by
  obtain ⟨k, hk, rfl⟩ := List.getElem_of_mem hz
  have hk2 : k < zl.length := by rw [← p.len]; exact hk
  obtain ⟨_, e2, e3, _⟩ := p.at_ k _ _ (List.getElem?_eq_getElem hk) (List.getElem?_eq_getElem hk2)
  have o := h.ok _ (List.getElem_mem hk2)
  rw [e2, e3]
  exact ⟨o.i, o.j⟩
theorem fcOf_congr {b c : Bd} (h : b.fr = c.fr ∧ b.i = c.i ∧ b.j = c.j ∧ b.F = c.F) (f : Dl.Fc) : FcOf b f ↔ FcOf c f := by
  obtain ⟨a, i, j, n, F⟩ := b
  obtain ⟨a', i', j', n', F'⟩ := c
  obtain ⟨rfl, rfl, rfl, rfl⟩ := h
  exact Iff.rfl
theorem Pair.fs {zp : List (Addr × Bd)} {zl : List (Addr × Lb)} (p : Pair zp zl) : FsS (zp.map (·.2)) = FsS (lbs zl) := funext fun f => propext ⟨fun ⟨b, m, h⟩ => by
  obtain ⟨z, hz, rfl⟩ := List.mem_map.mp m
  obtain ⟨k, hk, rfl⟩ := List.getElem_of_mem hz
  have hk2 : k < zl.length := by rw [← p.len]; exact hk
  exact ⟨_, List.mem_map.mpr ⟨_, List.getElem_mem hk2, rfl⟩, (fcOf_congr (p.at_ k _ _ (List.getElem?_eq_getElem hk) (List.getElem?_eq_getElem hk2)) f).mp h⟩, fun ⟨b, m, h⟩ => by
  obtain ⟨z, hz, rfl⟩ := List.mem_map.mp m
  obtain ⟨k, hk, rfl⟩ := List.getElem_of_mem hz
  have hk2 : k < zp.length := by rw [p.len]; exact hk
  exact ⟨_, List.mem_map.mpr ⟨_, List.getElem_mem hk2, rfl⟩, (fcOf_congr (p.at_ k _ _ (List.getElem?_eq_getElem hk2) (List.getElem?_eq_getElem hk)) f).mpr h⟩⟩
/-- the two ways in which a plan ends, as lists of days -/
theorem plan_days_pl {many Pd : Nat} {start : Int} {bs : List Bd} {fs : List Dl.Fc} {x : Dl.Dy} (mo : ∀ b ∈ bs, Dy.Mon b.F) (ends : ∀ b ∈ bs, b.i < many ∧ b.j < many) (fo : FcsOf bs fs) (per : PerOf bs Pd) (h : Dl.DaysA fs many start Pd x) : Dl.Pl (FsS bs) many start ((List.range many).map x) := by
  have ok := fs_ok per mo ends
  rw [← fo.mem] at ok ⊢
  exact Dl.pl_days ok h
theorem plan_ring_pl {many Pd : Nat} {start d : Int} {bs : List Bd} {fs : List Dl.Fc} {rs : List Nat} (mo : ∀ b ∈ bs, Dy.Mon b.F) (ends : ∀ b ∈ bs, b.i < many ∧ b.j < many) (fo : FcsOf bs fs) (per : PerOf bs Pd) (h : Dl.RingA fs many start Pd rs d) : Dl.Pl (FsS bs) many start [] := by
  have ok := fs_ok per mo ends
  rw [← fo.mem] at ok ⊢
  exact Dl.pl_ring ok h
section
variable {P : Program} {w : World} {K : PySem.W.Frag} {mg : Str → Option Value} {base : Heap} {f C CD CE : Addr} {fd : FuncData}
theorem BdL.mo {H : Hp} {M : Nat} {q q2 : Bool} {l : Addr} {zs : List (Addr × Bd)} (h : BdL C K H M q q2 l zs) : ∀ b ∈ zs.map (·.2), Dy.Mon b.F := fun b m => by
  obtain ⟨z, hz, rfl⟩ := List.mem_map.mp m
  exact (h.rl z hz).mon
theorem Ok.ends {many : Nat} {zs : List (Addr × Bd)} (h : Ok many zs) : ∀ b ∈ zs.map (·.2), b.i < many ∧ b.j < many := fun b m => by
  obtain ⟨z, hz, rfl⟩ := List.mem_map.mp m
  exact h z hz
def spPassed (C : Addr) (K : PySem.W.Frag) : Sp := fun vs H Q _ => ∃ (l : Addr) (M many : Nat) (zs : List (Addr × Lb)), vs = [.ref l] ∧ LbL H M many l zs ∧ 0 < M ∧ M ≤ 420 ∧ zs.length ≤ 1000 ∧ ∀ (p : Addr) (zp : List (Addr × Bd)) H', Same H H' → H p = none → PdL C K H' M p zp → Pair zp zs → Q (.ref p) H'
theorem ok_passed (F : FnP K "_law_passed" s_passed f fd) (k_DayRule : MakX P w K mg base 4 "DayRule" C (spInit C CD K)) : FnOk P w K mg base CX0 6 f fd P_passed (spPassed C K) := by
  refine F.ok sc_passed (fun vs H Q E h => ?_) (fun cdv A outer s H vs Q E hr h => ?_)
  · obtain ⟨l, M, many, zs, rfl, _⟩ := h
    rfl
  · obtain ⟨l, M, many, zs, rfl, hZ, hM0, hM, lz, q⟩ := h
    refine ⟨_, PSs.nox (pss_one (ps_ret (pe_lc (own := [("_law_bound_here", 1)]) (g := (gName 1)) (tt := tYes) (by rfl) sc_passed.nd (pi_list (pv 0)) (blkOk_by (own := [("_law_bound_here", 1)]) (N := N_passed) (sc := defScope s_passed) (by decide +kernel)) (fun _ _ _ _ _ => (pg_name (i := 1) sc_passed.nd rfl (by first | exact .inl rfl | exact .inr rfl))) (fun _ _ _ _ _ => pts_nil) (fun _ _ _ _ _ => (pe_tup (pa_cons (pe_ix (ix_tup_K (K := K) rfl) (pv 1) pe_int (fun _ _ => rfl)) (pa_cons (pe_ix (ix_tup_K (K := K) rfl) (pv 1) pe_int (fun _ _ => rfl)) (pa_cons (pe_ix (ix_tup_K (K := K) rfl) (pv 1) pe_int (fun _ _ => rfl)) (pa_cons (pe_mkE k_DayRule (fun _ => passS0) hr (by decide) (by rfl) (pa_cons (pe_ix (ix_tup_K (K := K) rfl) (pv 1) pe_int (fun _ _ => rfl)) pa_nil)) pa_nil))))))))), ?_⟩
    walk_at "go"
    refine ⟨⟨_, SqL.of hZ.sq⟩, fun p np => ?_⟩
    refine lc_gen (n := zs.length) (fun k J => Same H J ∧ ∃ zp : List (Addr × Bd), PdL C K J M p zp ∧ Pair zp (zs.take k)) ⟨same_new np, [], ⟨upd_same, fun z m => absurd m (by simp), fun z m => absurd m (by simp)⟩, rfl, fun k b c h => by simp at h⟩ ?_ ?_ ?_ ?_
    · rintro k J hk ⟨s5, _⟩
      exact ⟨_, .ref zs[k].1, SqL.of (hZ.mono s5).sq, by rw [List.getElem?_map, List.getElem?_eq_getElem hk]; rfl⟩
    · rintro J ⟨s5, _⟩
      exact ⟨_, SqL.of (hZ.mono s5).sq, by rw [List.length_map]; exact Nat.le_refl _⟩
    · rintro k J x J' hk ⟨s5, zp, hP, pr⟩ ⟨rfl, e⟩
      have hx := e _ (SqL.of (hZ.mono s5).sq)
      rw [List.getElem?_map, List.getElem?_eq_getElem hk] at hx
      cases hx
      have z1 := (hZ.mono s5).at_ _ (List.getElem_mem hk)
      have o1 := hZ.ok _ (List.getElem_mem hk)
      have tk : zs.take (k + 1) = zs.take k ++ [zs[k]] := by
        rw [List.take_succ, List.getElem?_eq_getElem hk]
        rfl
      generalize zs[k] = y at z1 o1 tk
      obtain ⟨ya, yb⟩ := y
      dsimp only at z1 o1
      have hb1 : SqT K J' ya (lbV yb) := SqT.of z1.at_
      have les : yb.es.length ≤ 420 := Nat.le_trans (Nat.le_of_dvd hM0 o1.dv) hM
      have lzp : zp.length = k := by rw [pr.len, List.length_take]; omega
      walk_at "go"
      intro f1 dx n1 n2 n3
      refine mk_rule (b := true) (M := M) (F := dv yb.es) n1 n2 n3 z1.es (by omega) (of_dv o1.gd.pos) (Mon.dv o1.gd) ((of_dv o1.gd.pos).per.dvd (Nat.mod_eq_zero_of_dvd o1.dv)) (fun J2 s6 rF => ?_)
      walk_at "go"
      intro t nt
      have st_ := same_new (o := .tup (bdV ⟨yb.fr, yb.i, yb.j, f1, dv yb.es⟩)) nt
      have et : (upd J2 t (.tup (bdV ⟨yb.fr, yb.i, yb.j, f1, dv yb.es⟩))) t = some (.tup (bdV ⟨yb.fr, yb.i, yb.j, f1, dv yb.es⟩)) := upd_same
      have hP3 := hP.mono (s6.trans st_)
      have key := PdL.mk_ hP3.sq (zp := zp ++ [(t, (⟨yb.fr, yb.i, yb.j, f1, dv yb.es⟩ : Bd))]) (fun z m => (List.mem_append.mp m).elim (fun m => ⟨hP3.at_ z m, hP3.rl z m⟩) fun m => by rw [List.mem_singleton.mp m]; exact ⟨et, rF.mono st_⟩)
      rw [List.map_append] at key
      refine ⟨_, hP3.sq, by rw [List.length_map]; exact szC (by omega), Z.Same.mut (s5.trans (s6.trans st_)) np, _, key, ?_⟩
      rw [tk]
      exact pr.snoc ⟨rfl, rfl, rfl, rfl⟩
    rintro J ⟨s5, zp, hP, pr⟩
    rw [List.take_length] at pr
    exact q p zp J s5 np hP pr
def spPlanL (K : PySem.W.Frag) : Sp := fun vs H Q _ => ∃ (l : Addr) (M many : Nat) (start : Int) (zs : List (Addr × Lb)), vs = [.int (many : Int), .ref l, .int start] ∧ LbL H M many l zs ∧ 0 < M ∧ M ≤ 420 ∧ many ≤ 8 ∧ zs.length ≤ 16 ∧ ∀ (L : Addr) (xs : List Int) H', Same H H' → H L = none → H' L = some (.lst (xs.map V.int)) → PlL zs many start xs → Q (.ref L) H'
theorem ok_plan (F : FnP K "_law_plan" s_plan f fd) (m_len : mg "len" = none) (m_isinstance : mg "isinstance" = none) (m_tuple : mg "tuple" = none) (c_whole : Cal P w K mg base 1 "_law_whole" spWhole) (c_passed : Cal P w K mg base 6 "_law_passed" (spPassed C K)) (c_plan_days : CalX P w K mg base 8 "plan_days" (spPlanE C CE K)) : FnOk P w K mg base CX0 9 f fd P_plan (spPlanL K) := by
  refine F.ok sc_plan (fun vs H Q E h => ?_) (fun cdv A outer s H vs Q E hr h => ?_)
  · obtain ⟨l, M, many, start, zs, rfl, _⟩ := h
    rfl
  · obtain ⟨l, M, many, start, zs, rfl, hZ, hM0, hM, lm, lz, q⟩ := h
    refine ⟨_, PSs.nox (pss_cons (ps_set (i := 3) sc_plan.nd rfl (by first | exact .inl rfl | exact .inr rfl) (pe_clE c_plan_days (fun _ => passS0) hr (by decide) (by rfl) (pa_cons (pv 0) (pa_cons (pe_cl c_passed hr (by decide) (by rfl) (pa_cons (pv 1) pa_nil)) (pa_cons (pv 2) pa_nil)))))
      (pss_cons (ps_if (PW.pt (pw_or (pt_not (pt_val (pe_callB call_isi (by rfl) m_isinstance (by decide +kernel) (pa_cons (pv 3) (pa_cons (pe_bltn (v := .ty "tuple") (by rfl) m_tuple (by decide +kernel) rfl) pa_nil))))) (pw_or1 (pt_cmpR op_lt (pe_callB call_len_seq (by rfl) m_len PySem.boot_len (pa_cons (pv 3) pa_nil)) pe_int (nomark _))))) (pss_one (ps_ret pe_non)) pss_nil)
      (pss_cons (ps_if (pt_cmpR op_eq (pe_ix ix_tup (pv 3) pe_int (fun _ _ => rfl)) pe_str (nomark _)) (pss_one (ps_ret (pe_lst pa_nil))) pss_nil)
      (pss_cons (ps_if (PW.pt (pw_or (pt_cmpR op_ne (pe_ix ix_tup (pv 3) pe_int (fun _ _ => rfl)) pe_str (nomark _)) (pw_or (pt_not (pt_val (pe_callB call_isi (by rfl) m_isinstance (by decide +kernel) (pa_cons (pe_ix ix_tup (pv 3) pe_int (fun _ _ => rfl)) (pa_cons (pe_bltn (v := .ty "tuple") (by rfl) m_tuple (by decide +kernel) rfl) pa_nil))))) (pw_or1 (pt_cmpR op_ne (pe_callB call_len_seq (by rfl) m_len PySem.boot_len (pa_cons (pe_ix ix_tup (pv 3) pe_int (fun _ _ => rfl)) pa_nil)) (pv 0) (nomark _)))))) (pss_one (ps_ret pe_non)) pss_nil)
      (pss_cons (ps_for PassesOwn.never rfl (pi_tup (pe_ix ix_tup (pv 3) pe_int (fun _ _ => rfl))) (pg_name (i := 4) sc_plan.nd rfl (by first | exact .inl rfl | exact .inr rfl))
        (pss_one (ps_if (pt_not (pt_val (pe_cl c_whole hr (by decide) (by rfl) (pa_cons (pv 4) pa_nil)))) (pss_one (ps_ret pe_non)) pss_nil)))
      (pss_one (ps_ret (pe_lc (own := [("_law_day", 4)]) (g := (gName 4)) (tt := tYes) (by rfl) sc_plan.nd (pi_tup (pe_ix ix_tup (pv 3) pe_int (fun _ _ => rfl))) (blkOk_by (own := [("_law_day", 4)]) (N := N_plan) (sc := defScope s_plan) (by decide +kernel)) (fun _ _ _ _ _ => (pg_name (i := 4) sc_plan.nd rfl (by first | exact .inl rfl | exact .inr rfl))) (fun _ _ _ _ _ => pts_nil) (fun _ _ _ _ _ => (pv 4)))))))))), ?_⟩
    walk_at "go"
    refine ⟨l, M, many, zs, rfl, hZ, hM0, hM, by omega, fun p zp H1 s1 _ hP pr => ?_⟩
    have okp := pr.ok hZ
    have mo := hP.bd.mo
    walk_at "go"
    refine .inl ⟨p, true, false, M, many, start, zp, rfl, hP.bd, okp, hM0, by rw [pr.len]; exact lz, lm, hM, fun t T x fs Pd H2 s2 et eT fo per PdM da => ?_, fun t T bs d fs Pd H2 s2 et eT fo per PdM ra => ?_⟩
    · have pl := plan_days_pl mo okp.ends fo per da
      rw [pr.fs] at pl
      have hA : SqT K H2 t [.str (Str.ofString "days"), .ref T] := SqT.of et
      have hT : SqT K H2 T (((List.range many).map x).map V.int) := SqT.of eT
      walk_at "go"
      refine isi (c := "tuple") (b := true) (.tup et) (by decide +kernel) ?_
      walk_at "go"
      refine ⟨t, _, rfl, .inr hA, ?_⟩
      walk_at "go"
      refine isi (c := "tuple") (b := true) (.tup eT) (by decide +kernel) ?_
      walk_at "go"
      refine ⟨T, _, rfl, .inr hT, ?_⟩
      rw [List.length_map, List.length_map, List.length_range]
      walk_at "go"
      rw [decide_eq_true rfl]
      refine ite2 (fun e => absurd e Bool.false_ne_true) (fun _ => ?_)
      walk_at "go"
      refine ⟨⟨_, hT⟩, ?_⟩
      refine for_gen (n := many) (fun k σ J => J = H2 ∧ ∃ v4 : Option V, σ = [some (.int (many : Int)), some (.ref l), some (.int start), some (.ref t), v4]) ⟨rfl, none, rfl⟩ ?_ ?_ ?_ ?_
      · rintro k σ J hk ⟨rfl, _⟩
        exact ⟨_, .int (x k), hT, by rw [List.getElem?_map, List.getElem?_map, List.getElem?_range hk]; rfl⟩
      · rintro σ J ⟨rfl, _⟩
        exact ⟨_, hT, by rw [List.length_map, List.length_map, List.length_range]; exact Nat.le_refl _⟩
      · rintro k σ J xx J' hk ⟨rfl, v4, rfl⟩ ⟨rfl, e⟩
        have hx := e _ hT
        rw [List.getElem?_map, List.getElem?_map, List.getElem?_range hk] at hx
        cases hx
        walk_at "go"
        exact ⟨_, rfl⟩
      rintro σ J ⟨rfl, v4, rfl⟩
      walk_at "go"
      refine ⟨⟨_, hT⟩, fun L nL => ?_⟩
      refine lc_gen (n := many) (fun k G => Same J G ∧ G L = some (.lst (((List.range k).map x).map V.int))) ⟨same_new nL, upd_same⟩ ?_ ?_ ?_ ?_
      · rintro k G hk ⟨s3, _⟩
        exact ⟨_, .int (x k), SqT.of (s3 _ _ eT), by rw [List.getElem?_map, List.getElem?_map, List.getElem?_range hk]; rfl⟩
      · rintro G ⟨s3, _⟩
        exact ⟨_, SqT.of (s3 _ _ eT), by rw [List.length_map, List.length_map, List.length_range]; exact Nat.le_refl _⟩
      · rintro k G xx G' hk ⟨s3, eL⟩ ⟨rfl, e⟩
        have hx := e _ (SqT.of (s3 _ _ eT))
        rw [List.getElem?_map, List.getElem?_map, List.getElem?_range hk] at hx
        cases hx
        walk_at "go"
        refine ⟨_, eL, by rw [List.length_map, List.length_map, List.length_range]; exact szC (by omega), Z.Same.mut s3 nL, ?_⟩
        rw [upd_same, List.range_succ, List.map_append, List.map_append]
        rfl
      · rintro G ⟨s3, eL⟩
        exact q L _ G (s1.trans (s2.trans s3)) (none_of (s1.trans s2) nL) eL pl
    · have pl := plan_ring_pl mo okp.ends fo per ra
      rw [pr.fs] at pl
      have hA : SqT K H2 t [.str (Str.ofString "ring"), .ref T, .int d] := SqT.of et
      walk_at "go"
      refine isi (c := "tuple") (b := true) (.tup et) (by decide +kernel) ?_
      walk_at "go"
      refine ⟨t, _, rfl, .inr hA, ?_⟩
      walk_at "go"
      intro L nL
      have s3 := s1.trans (s2.trans (same_new (o := .lst []) nL))
      exact q L [] _ s3 (none_of (s1.trans s2) nL) upd_same pl
end
end Z
set_option pp.maxSteps 700
set_option Elab.async false
set_option linter.all false
set_option maxRecDepth 100000
set_option maxHeartbeats 4000000
namespace Z
open Dy
open PySem PySem.Spec PyProof.Rows L2
open C8 (pss_cut tCut)
local macro_rules | `(tactic| walk_at "num") => `(tactic| first | rfl | omega | decide | exact Nat.le_of_lt (small1000 (by simp)) | exact ⟨by omega, by omega⟩ | exact ⟨by omega, by omega, by omega⟩ | exact ⟨by decide, by decide, by decide⟩ | exact Or.inl ⟨by omega, by omega⟩ | exact Or.inr ⟨by omega, by omega⟩)
local macro_rules | `(tactic| walk_at "go") => `(tactic| repeat (first | refine ⟨_, rfl, ?_⟩ | refine ⟨_, _, rfl, rfl, ?_⟩ | refine ⟨_, _, rfl, ?_⟩ | (refine ⟨_, _, rfl, rfl, ?_, ?_⟩; focus walk_at "num") | refine Or.inl ⟨_, rfl, ?_⟩ | refine ⟨_, _, _, _, rfl, rfl, (by assumption), (by rfl), ?_⟩ | refine ⟨_, _, _, _, _, rfl, (by assumption), (by assumption), (by assumption), (by rfl), ?_⟩ | refine ⟨rfl, ?_⟩ | (refine And.intro ?_ ?_; focus walk_at "num")))
abbrev s_not_earlier : Stmt := topS 40
abbrev N_not_earlier : List Str := ["_law_later", "_law_days", "_law_k"]
abbrev P_not_earlier : List Str := ["_law_later", "_law_days"]
theorem sc_not_earlier : FnScope N_not_earlier P_not_earlier (defScope s_not_earlier) := ⟨rfl, rfl, rfl, by decide +kernel, rfl, by decide +kernel, by decide +kernel⟩
abbrev s_turned_from : Stmt := topS 41
abbrev N_turned_from : List Str := ["_law_bounds_here", "_law_found", "_law_bound_here", "_law_rule_here"]
abbrev P_turned_from : List Str := ["_law_bounds_here"]
theorem sc_turned_from : FnScope N_turned_from P_turned_from (defScope s_turned_from) := ⟨rfl, rfl, rfl, by decide +kernel, rfl, by decide +kernel, by decide +kernel⟩
theorem not_turn {fr : Bool} {i j : Nat} {n r : Addr} {F S : Int → Int} {b : Bd} (hb : (fr = true ∧ b = ⟨true, i, j, r, F⟩) ∨ (fr = false ∧ Soo F S ∧ b = ⟨true, j, i, r, S⟩)) (f : Dl.Fc) : FcOf b f ↔ FcOf ⟨fr, i, j, n, F⟩ f := by
  rcases hb with ⟨rfl, rfl⟩ | ⟨rfl, s, rfl⟩
  · exact Iff.rfl
  · constructor
    · rintro (⟨_, rfl⟩ | ⟨h, _⟩)
      · exact .inr ⟨rfl, S, s, rfl⟩
      · cases h
    · rintro (⟨h, _⟩ | ⟨_, S', s', rfl⟩)
      · cases h
      · rw [show S' = S from funext fun l => s'.uniq s l]
        exact .inl ⟨rfl, rfl⟩
/-- bounds with the same forces, one by one -/
structure Prf (zp : List (Addr × Bd)) (zl : List (Addr × Lb)) : Prop where
  len : zp.length = zl.length
  at_ : ∀ (k : Nat) b c, zp[k]? = some b → zl[k]? = some c → ∀ f, FcOf b.2 f ↔ FcOf (lbd c.2) f
theorem Prf.snoc {zp : List (Addr × Bd)} {zl : List (Addr × Lb)} (p : Prf zp zl) {b : Addr × Bd} {c : Addr × Lb} (h : ∀ f, FcOf b.2 f ↔ FcOf (lbd c.2) f) : Prf (zp ++ [b]) (zl ++ [c]) := by
  refine ⟨by rw [List.length_append, List.length_append, p.len]; rfl, fun k x y hx hy => ?_⟩
  have pl := p.len
  rcases Dl.get_app hx with ⟨k1, e⟩ | ⟨k1, rfl⟩
  · rcases Dl.get_app hy with ⟨k2, e2⟩ | ⟨k2, _⟩
    · exact p.at_ k x y e e2
    · omega
  · rcases Dl.get_app hy with ⟨k2, e2⟩ | ⟨k2, rfl⟩
    · omega
    · exact h
theorem Prf.fs {zp : List (Addr × Bd)} {zl : List (Addr × Lb)} (p : Prf zp zl) : FsS (zp.map (·.2)) = FsS (lbs zl) := funext fun f => propext ⟨fun ⟨b, m, h⟩ => by
  obtain ⟨z, hz, rfl⟩ := List.mem_map.mp m
  obtain ⟨k, hk, rfl⟩ := List.getElem_of_mem hz
  have hk2 : k < zl.length := by rw [← p.len]; exact hk
  exact ⟨_, List.mem_map.mpr ⟨_, List.getElem_mem hk2, rfl⟩, (p.at_ k _ _ (List.getElem?_eq_getElem hk) (List.getElem?_eq_getElem hk2) f).mp h⟩, fun ⟨b, m, h⟩ => by
  obtain ⟨z, hz, rfl⟩ := List.mem_map.mp m
  obtain ⟨k, hk, rfl⟩ := List.getElem_of_mem hz
  have hk2 : k < zp.length := by rw [p.len]; exact hk
  exact ⟨_, List.mem_map.mpr ⟨_, List.getElem_mem hk2, rfl⟩, (p.at_ k _ _ (List.getElem?_eq_getElem hk2) (List.getElem?_eq_getElem hk) f).mpr h⟩⟩
section
variable {P : Program} {w : World} {K : PySem.W.Frag} {mg : Str → Option Value} {base : Heap} {f C CD CE : Addr} {fd : FuncData}
theorem fltL_nil {n : Nat} {keep : Nat → Bool} {g : Nat → V} (h : ∀ k, k < n → keep k = false) : fltL keep g n = [] := by
  unfold fltL
  rw [List.filter_eq_nil_iff.mpr (fun k hk => by rw [h k (List.mem_range.mp hk)]; decide)]
  rfl
def spNotE : Sp := fun vs H Q _ => ∃ (a b : Addr) (xs ys : List Int), vs = [.ref a, .ref b] ∧ H a = some (.lst (xs.map V.int)) ∧ H b = some (.lst (ys.map V.int)) ∧ Dl.NotE xs ys ∧ ys.length ≤ 1000 ∧ ∀ H', Same H H' → Q (.bl true) H'
theorem ok_not_earlier (F : FnP K "_law_not_earlier" s_not_earlier f fd) (m_len : mg "len" = none) (m_range : mg "range" = none) : FnOk P w K mg base CX0 1 f fd P_not_earlier spNotE := by
  refine F.ok sc_not_earlier (fun vs H Q E h => ?_) (fun cdv A outer s H vs Q E hr h => ?_)
  · obtain ⟨a, b, xs, ys, rfl, _⟩ := h
    rfl
  · obtain ⟨a, b, xs, ys, rfl, eA, eB, ne, ly, q⟩ := h
    refine ⟨_, PSs.nox (pss_cons (ps_if (PW.pt (pw_or (pt_cmpR op_isN (pv 0) pe_non (nomark _)) (pw_or1 (PW.pt (pw_and (pt_cmpR op_eq (pe_callB call_len_seq (by rfl) m_len PySem.boot_len (pa_cons (pv 1) pa_nil)) pe_int (nomark _)) (pw_and1 (pt_cmpR op_gt (pe_callB call_len_seq (by rfl) m_len PySem.boot_len (pa_cons (pv 0) pa_nil)) pe_int (nomark _)))))))) (pss_one (ps_ret pe_bl)) pss_nil)
      (pss_cons (ps_if (pt_cmpR op_eq (pe_callB call_len_seq (by rfl) m_len PySem.boot_len (pa_cons (pv 0) pa_nil)) pe_int (nomark _)) (pss_one (ps_ret pe_bl)) pss_nil)
      (pss_one (ps_ret (pe_cmpR (op_eqD hr.units) (pe_lc (own := [("_law_k", 2)]) (g := (gName 2)) (by rfl) sc_not_earlier.nd (pi_range1 (by rfl) m_range (pa_cons (pe_callB call_len_seq (by rfl) m_len PySem.boot_len (pa_cons (pv 1) pa_nil)) pa_nil)) (blkOk_by (own := [("_law_k", 2)]) (N := N_not_earlier) (sc := defScope s_not_earlier) (by decide +kernel)) (fun _ _ _ _ _ => (pg_name (i := 2) sc_not_earlier.nd rfl (by first | exact .inl rfl | exact .inr rfl))) (fun _ _ _ _ _ => (pts_one (pt_cmpR op_lt (pe_ix (ix_list_K (K := K) rfl) (pv 0) (pv 2) (fun _ _ => rfl)) (pe_ix (ix_list_K (K := K) rfl) (pv 1) (pv 2) (fun _ _ => rfl)) (nomark _)))) (fun _ _ _ _ _ => (pv 2))) (pe_lst pa_nil) (nomark _)))))), ?_⟩
    walk_at "go"
    refine ⟨b, _, rfl, .inl (SqL.of eB), ?_⟩
    rw [List.length_map]
    walk_at "go"
    have lx : xs ≠ [] → xs.length = ys.length := fun z => (ne.2 z).1
    by_cases y0 : ys = []
    · have x0 := ne.1 y0
      subst y0 x0
      walk_at "go"
      refine ⟨a, _, rfl, .inl (SqL.of eA), ?_⟩
      walk_at "go"
      refine ⟨a, _, rfl, .inl (SqL.of eA), ?_⟩
      walk_at "go"
      exact q H (Same.refl _)
    have y1 : 0 < ys.length := List.length_pos_iff.mpr y0
    rw [decide_eq_false (show ¬ V.int (ys.length : Int) = V.int 0 from fun z => by injection z with z; omega)]
    refine ite2 (fun e => absurd e Bool.false_ne_true) (fun _ => ?_)
    refine ite2 (fun e => absurd e Bool.false_ne_true) (fun _ => ?_)
    walk_at "go"
    refine ⟨a, _, rfl, .inl (SqL.of eA), ?_⟩
    rw [List.length_map]
    walk_at "go"
    by_cases x0 : xs = []
    · subst x0
      walk_at "go"
      exact q H (Same.refl _)
    have x1 : 0 < xs.length := List.length_pos_iff.mpr x0
    have lx := lx x0
    rw [decide_eq_false (show ¬ V.int (xs.length : Int) = V.int 0 from fun z => by injection z with z; omega)]
    refine ite2 (fun e => absurd e Bool.false_ne_true) (fun _ => ?_)
    walk_at "go"
    refine ⟨b, _, rfl, .inl (SqL.of eB), ?_⟩
    rw [List.length_map]
    walk_at "go"
    intro D nD
    refine lc_flt (n := ys.length) (fun k => .int (0 + (k : Int))) (fun _ => false) (fun k => .int (0 + (k : Int))) (by omega) nD (fun k H1 hk _ => ?_) (fun H1 _ => ?_) (fun k H1 x H2 _ _ y => ⟨by rw [y.1]; exact Same.refl _, y.2⟩) (fun k => rfl) (fun k H1 Q1 hk s1 q1 => ?_) (fun k H1 Q1 hk z => by cases z) (fun H1 s1 e => ?_)
    · show k < ((ys.length : Int)).toNat
      omega
    · show ((ys.length : Int)).toNat ≤ ys.length
      omega
    · have le := (ne.2 x0).2 k hk
      rw [List.getD_eq_getElem?_getD, List.getD_eq_getElem?_getD, List.getElem?_eq_getElem hk, List.getElem?_eq_getElem (show k < xs.length by omega)] at le
      have a1 : atI (xs.map V.int) (0 + (k : Int)) = some (.int xs[k]) := at_of (j := k) (by omega) (by rw [List.getElem?_map, List.getElem?_eq_getElem]; rfl)
      have b1 : atI (ys.map V.int) (0 + (k : Int)) = some (.int ys[k]) := at_of (j := k) (by omega) (by rw [List.getElem?_map, List.getElem?_eq_getElem hk]; rfl)
      have le : ys[k] ≤ xs[k] := le
      walk_at "go"
      refine ⟨a, _, _, _, rfl, rfl, SqL.of (s1 _ _ eA), a1, ?_⟩
      walk_at "go"
      refine ⟨b, _, _, _, rfl, rfl, SqL.of (s1 _ _ eB), b1, ?_⟩
      walk_at "go"
      rw [decide_eq_false (show ¬ xs[k] < ys[k] by omega)]
      exact q1 _ (Same.refl _)
    · rw [fltL_nil fun _ _ => rfl] at e
      walk_at "go"
      intro p np
      have s2 := same_new (o := .lst []) np
      refine ⟨_, _, dp_ints (b := true) (ns := []) (SqL.of (s2 _ _ e)), dp_ints (b := true) (ns := []) (SqL.of upd_same), shaped_ints _ _, shaped_ints _ _, ?_⟩
      rw [eqv_ints, decide_eq_true rfl]
      exact q _ (s1.trans s2)
def spTurned (C : Addr) (K : PySem.W.Frag) : Sp := fun vs H Q _ => ∃ (l : Addr) (M many : Nat) (zs : List (Addr × Lb)), vs = [.ref l] ∧ LbL H M many l zs ∧ 0 < M ∧ M ≤ 420 ∧ zs.length ≤ 1000 ∧ ∀ (p : Addr) (zp : List (Addr × Bd)) H', Same H H' → H p = none → PdL C K H' M p zp → Prf zp zs → Ok many zp → Q (.ref p) H'
theorem ok_turned_from (F : FnP K "_law_turned_from" s_turned_from f fd) (k_DayRule : MakX P w K mg base 4 "DayRule" C (spInit C CD K)) (me_soonest : Met P w K mg base 6 C "soonest" (spSoonest C K)) : FnOk P w K mg base CX0 7 f fd P_turned_from (spTurned C K) := by
  refine F.ok sc_turned_from (fun vs H Q E h => ?_) (fun cdv A outer s H vs Q E hr h => ?_)
  · obtain ⟨l, M, many, zs, rfl, _⟩ := h
    rfl
  · obtain ⟨l, M, many, zs, rfl, hZ, hM0, hM, lz, q⟩ := h
    refine ⟨_, PSs.nox (pss_cons (ps_set (i := 1) sc_turned_from.nd rfl (by first | exact .inl rfl | exact .inr rfl) (pe_lst pa_nil))
      (pss_cons (ps_for PassesOwn.never rfl (pi_list (pv 0)) (pg_name (i := 2) sc_turned_from.nd rfl (by first | exact .inl rfl | exact .inr rfl))
        (pss_cons (ps_set (i := 3) sc_turned_from.nd rfl (by first | exact .inl rfl | exact .inr rfl) (pe_mkE k_DayRule (fun _ => passS0) hr (by decide) (by rfl) (pa_cons (pe_ix ix_tup (pv 2) pe_int (fun _ _ => rfl)) pa_nil)))
      (pss_one (ps_if (pt_cmpR op_eq (pe_ix ix_tup (pv 2) pe_int (fun _ _ => rfl)) pe_str (nomark _)) (pss_one (ps_expr (pe_bm PySem.F.plainAttrs_list PySem.F.slot_list_append PySem.F.type_list_append mt_append (pv 1) (pa_cons (pe_tup (pa_cons pe_str (pa_cons (pe_ix ix_tup (pv 2) pe_int (fun _ _ => rfl)) (pa_cons (pe_ix ix_tup (pv 2) pe_int (fun _ _ => rfl)) (pa_cons (pe_me0 me_soonest (pv 3) hr (by decide)) pa_nil))))) pa_nil)))) (pss_one (ps_expr (pe_bm PySem.F.plainAttrs_list PySem.F.slot_list_append PySem.F.type_list_append mt_append (pv 1) (pa_cons (pe_tup (pa_cons pe_str (pa_cons (pe_ix ix_tup (pv 2) pe_int (fun _ _ => rfl)) (pa_cons (pe_ix ix_tup (pv 2) pe_int (fun _ _ => rfl)) (pa_cons (pv 3) pa_nil))))) pa_nil))))))))
      (pss_one (ps_ret (pv 1))))), ?_⟩
    walk_at "go"
    intro p np
    have sp := same_new (o := .lst []) np
    have f0 : PdL C K (upd H p (.lst [])) M p [] := ⟨upd_same, fun z m => absurd m (by simp), fun z m => absurd m (by simp)⟩
    generalize upd H p (.lst []) = H1 at sp f0
    walk_at "go"
    refine ⟨⟨_, SqL.of (hZ.mono sp).sq⟩, ?_⟩
    refine for_gen (n := zs.length) (fun k σ J => Same H J ∧ (∃ zp, PdL C K J M p zp ∧ Prf zp (zs.take k) ∧ Ok many zp) ∧ ∃ v2 v3 : Option V, σ = [some (.ref l), some (.ref p), v2, v3]) ⟨sp, ⟨[], f0, ⟨rfl, fun k b f h => by simp at h⟩, fun z m => absurd m (by simp)⟩, none, none, rfl⟩ ?_ ?_ ?_ ?_
    · rintro k σ J hk ⟨s1, _⟩
      exact ⟨_, .ref zs[k].1, SqL.of (hZ.mono s1).sq, by rw [List.getElem?_map, List.getElem?_eq_getElem hk]; rfl⟩
    · rintro σ J ⟨s1, _⟩
      exact ⟨_, SqL.of (hZ.mono s1).sq, by rw [List.length_map]; exact Nat.le_refl _⟩
    · rintro k σ J x J' hk ⟨s1, ⟨zp, hP, pr, okp⟩, v2, v3, rfl⟩ ⟨rfl, e⟩
      have hx := e _ (SqL.of (hZ.mono s1).sq)
      rw [List.getElem?_map, List.getElem?_eq_getElem hk] at hx
      cases hx
      have z1 := (hZ.mono s1).at_ _ (List.getElem_mem hk)
      have o1 := hZ.ok _ (List.getElem_mem hk)
      have tk : zs.take (k + 1) = zs.take k ++ [zs[k]] := by
        rw [List.take_succ, List.getElem?_eq_getElem hk]
        rfl
      generalize zs[k] = y at z1 o1 tk
      obtain ⟨ya, yf, yi, yj, yn, es⟩ := y
      have z2 := z1.at_
      have z3 := z1.es
      dsimp only at z1 z2 z3 o1
      have hb1 : SqT K J' ya [.str (wrd yf), .int (yi : Int), .int (yj : Int), .ref yn] := SqT.of z2
      have les : es.length ≤ 420 := Nat.le_trans (Nat.le_of_dvd hM0 o1.dv) hM
      have lzp : zp.length = k := by rw [pr.len, List.length_take]; omega
      walk_at "go"
      intro f1 dx n1 n2 n3
      refine mk_rule (b := true) (M := M) (es := es) (F := dv es) n1 n2 n3 z3 (by omega) (of_dv o1.gd.pos) (Mon.dv o1.gd) ((of_dv o1.gd.pos).per.dvd (Nat.mod_eq_zero_of_dvd o1.dv)) (fun J2 s2 rF => ?_)
      have hb2 : SqT K J2 ya [.str (wrd yf), .int (yi : Int), .int (yj : Int), .ref yn] := SqT.of (s2 _ _ z2)
      have hP2 := hP.mono s2
      walk_at "go"
      cases yf
      · walk_at "go"
        refine ⟨.inl ⟨rfl, _, SqL.of hP2.sq⟩, ?_⟩
        walk_at "go"
        obtain ⟨⟨ds, ⟨dx', t0, en, e2⟩, o⟩, _⟩ := id rF
        refine ⟨f1, dx', _, rfl, en, rfl, f1, M, dv es, rfl, rF, hM0, by omega, fun r H3 S s3 soo rS => ?_⟩
        walk_at "go"
        intro t nt
        have st_ := same_new (o := .tup (bdV ⟨true, yj, yi, r, S⟩)) nt
        have et : (upd H3 t (.tup (bdV ⟨true, yj, yi, r, S⟩))) t = some (.tup (bdV ⟨true, yj, yi, r, S⟩)) := upd_same
        have hP3 := hP2.mono (s3.trans st_)
        have key := PdL.mk_ hP3.sq (zp := zp ++ [(t, (⟨true, yj, yi, r, S⟩ : Bd))]) (fun z m => (List.mem_append.mp m).elim (fun m => ⟨hP3.at_ z m, hP3.rl z m⟩) fun m => by rw [List.mem_singleton.mp m]; exact ⟨et, rS.mono st_⟩)
        rw [List.map_append] at key
        refine ⟨_, _, _, rfl, rfl, hP3.sq, by rw [List.length_map, lzp]; exact Nat.lt_of_lt_of_le (show k < 2000 by omega) (by decide), ?_⟩
        refine ⟨Z.Same.mut (s1.trans (s2.trans (s3.trans st_))) np, ⟨_, key, ?_, ?_⟩, _, _, rfl⟩
        · rw [tk]
          exact pr.snoc (not_turn (fr := false) (.inr ⟨rfl, soo, rfl⟩))
        · exact fun z m => (List.mem_append.mp m).elim (okp z) fun m => by rw [List.mem_singleton.mp m]; exact ⟨o1.j, o1.i⟩
      · walk_at "go"
        refine ⟨.inl ⟨rfl, _, SqL.of hP2.sq⟩, ?_⟩
        walk_at "go"
        intro t nt
        have st_ := same_new (o := .tup (bdV ⟨true, yi, yj, f1, dv es⟩)) nt
        have et : (upd J2 t (.tup (bdV ⟨true, yi, yj, f1, dv es⟩))) t = some (.tup (bdV ⟨true, yi, yj, f1, dv es⟩)) := upd_same
        have hP3 := hP2.mono st_
        have key := PdL.mk_ hP3.sq (zp := zp ++ [(t, (⟨true, yi, yj, f1, dv es⟩ : Bd))]) (fun z m => (List.mem_append.mp m).elim (fun m => ⟨hP3.at_ z m, hP3.rl z m⟩) fun m => by rw [List.mem_singleton.mp m]; exact ⟨et, rF.mono st_⟩)
        rw [List.map_append] at key
        refine ⟨_, _, _, rfl, rfl, hP3.sq, by rw [List.length_map, lzp]; exact Nat.lt_of_lt_of_le (show k < 2000 by omega) (by decide), ?_⟩
        refine ⟨Z.Same.mut (s1.trans (s2.trans st_)) np, ⟨_, key, ?_, ?_⟩, _, _, rfl⟩
        · rw [tk]
          exact pr.snoc (not_turn (fr := true) (S := dv es) (.inl ⟨rfl, rfl⟩))
        · exact fun z m => (List.mem_append.mp m).elim (okp z) fun m => by rw [List.mem_singleton.mp m]; exact ⟨o1.i, o1.j⟩
    · rintro σ J ⟨s1, ⟨zp, hP, pr, okp⟩, v2, v3, rfl⟩
      rw [List.take_length] at pr
      walk_at "go"
      exact q p zp J s1 np hP pr okp
end
end Z
set_option pp.maxSteps 700
set_option Elab.async false
set_option linter.all false
set_option maxRecDepth 100000
set_option maxHeartbeats 4000000
namespace Z
open Dy
open PySem PySem.Spec PyProof.Rows L2
open C8 (pss_cut tCut)
local macro_rules | `(tactic| walk_at "num") => `(tactic| first | rfl | omega | decide | exact Nat.le_of_lt (small1000 (by simp)) | exact ⟨by omega, by omega⟩ | exact ⟨by omega, by omega, by omega⟩ | exact ⟨by decide, by decide, by decide⟩ | exact Or.inl ⟨by omega, by omega⟩ | exact Or.inr ⟨by omega, by omega⟩)
local macro_rules | `(tactic| walk_at "go") => `(tactic| repeat (first | refine ⟨_, rfl, ?_⟩ | refine ⟨_, _, rfl, rfl, ?_⟩ | refine ⟨_, _, rfl, ?_⟩ | (refine ⟨_, _, rfl, rfl, ?_, ?_⟩; focus walk_at "num") | refine Or.inl ⟨_, rfl, ?_⟩ | refine ⟨_, _, _, _, rfl, rfl, (by assumption), (by rfl), ?_⟩ | refine ⟨_, _, _, _, _, rfl, (by assumption), (by assumption), (by assumption), (by rfl), ?_⟩ | refine ⟨rfl, ?_⟩ | (refine And.intro ?_ ?_; focus walk_at "num")))
abbrev s_refused : Stmt := topS 42
abbrev N_refused : List Str := ["_law_many", "_law_bounds_here", "_law_start_here", "_law_found", "e"]
abbrev P_refused : List Str := ["_law_many", "_law_bounds_here", "_law_start_here"]
theorem sc_refused : FnScope N_refused P_refused (defScope s_refused) := ⟨rfl, rfl, rfl, by decide +kernel, rfl, by decide +kernel, by decide +kernel⟩
section
variable {P : Program} {w : World} {K : PySem.W.Frag} {mg : Str → Option Value} {base : Heap} {f C CD CE CH CC : Addr} {fd : FuncData}
def spRefd (C : Addr) (K : PySem.W.Frag) : Sp := fun vs H Q _ => (∃ (l : Addr) (q q2 : Bool) (M many : Nat) (start : Int) (zs : List (Addr × Bd)), vs = [.int (many : Int), .ref l, .int start] ∧ BdL C K H M q q2 l zs ∧ Ok many zs ∧ 0 < M ∧ zs.length ≤ 16 ∧ many ≤ 8 ∧ M ≤ 420 ∧ ∀ H', Same H H' → Q (.int (-1)) H') ∨
  ∃ (l : Addr) (q q2 : Bool) (many k : Nat) (start : Int) (zs : List (Addr × Bi)), vs = [.int (many : Int), .ref l, .int start] ∧ BiL K H q q2 l zs ∧ zs.length ≤ 1000 ∧ FstB many zs k ∧ ∀ H', Same H H' → Q (.int (k : Int)) H'
theorem ok_refused (F : FnP K "_law_refused" s_refused f fd) (m_isinstance : mg "isinstance" = none) (g_HouseError : mg "HouseError" = some (.ref CH)) (g_BadEvent : mg "BadEvent" = some (.ref CE)) (g_BadCount : mg "BadCount" = some (.ref CC)) (te : PySem.W.exmOne K (.ref CE) (.ref CE) = some true) (ec : ExcC K CE) (k1 : PySem.W.kitOne K (.ref CE) (.ref CH) = some true) (k2 : PySem.W.kitOne K (.ref CE) (.ref CC) = some false) (xf_BadEvent : XfC K CE) (no_BadEvent_at : PySem.W.findIn K (.ref CE) "at" = some none) (ch_whole : CalH P w K mg base 1 "_law_whole" spWhole) (c_plan_days : CalX P w K mg base 8 "plan_days" (spPlanE C CE K)) : FnOk P w K mg base CX0 9 f fd P_refused (spRefd C K) := by
  refine F.ok sc_refused (fun vs H Q E h => ?_) (fun cdv A outer s H vs Q E hr h => ?_)
  · rcases h with ⟨l, q, q2, M, many, start, zs, rfl, _⟩ | ⟨l, q, q2, many, k, start, zs, rfl, _⟩
    · rfl
    · rfl
  · refine ⟨_, PSs.nox (pss_cons (L2N.ps_try_as (i := 4) rfl rfl sc_refused.nd rfl rfl ⟨rfl, rfl, .inl g_BadEvent⟩ takes0N (fun W pn xe tk po => (pss_one (ps_set (i := 3) sc_refused.nd rfl (by first | exact .inl rfl | exact .inr rfl) (pe_clE c_plan_days (fun σ => L2N.passAt tk σ) hr (by decide) (by rfl) (pa_cons (pv 0) (pa_cons (pv 1) (pa_cons (pv 2) pa_nil)))))))
      (fun ex oe cls d pn hzn hf => (pss_one (ps_if (PW.pt (pw_and (pt_val (pe_clH ch_whole (room_mark hr) (by decide) (hotC_suite hzn hf) (by rfl) (pa_cons (pe_xf xf_BadEvent no_BadEvent_at hzn.zc hf (pv 4)) pa_nil))) (pw_and (pt_val (pe_callB (call_isX hzn.zc hf) (by rfl) m_isinstance (by decide +kernel) (pa_cons (pv 4) (pa_cons (pe_glob (by rfl) g_HouseError relv_ref) pa_nil)))) (pw_and1 (pt_not (pt_val (pe_callB (call_isX hzn.zc hf) (by rfl) m_isinstance (by decide +kernel) (pa_cons (pv 4) (pa_cons (pe_glob (by rfl) g_BadCount relv_ref) pa_nil))))))))) (pss_one (ps_ret (pe_xf xf_BadEvent no_BadEvent_at hzn.zc hf (pv 4)))) pss_nil))))
      (pss_one (ps_ret (pe_op op_sub pe_int pe_int)))), ?_⟩
    rcases h with ⟨l, q, q2, M, many, start, zs, rfl, hB, ok, m0, lz, lm, lM, qq⟩ | ⟨l, q, q2, many, k, start, zs, rfl, hB, lz, fb, qq⟩
    · walk_at "go"
      refine .inl ⟨l, q, q2, M, many, start, zs, rfl, hB, ok, m0, lz, lm, lM, fun t T x fs Pd H1 s1 et eT fo per PdM da => ?_, fun t T bs d fs Pd H1 s1 et eT fo per PdM ra => ?_⟩
      · walk_at "go"
        exact qq H1 s1
      · walk_at "go"
        exact qq H1 s1
    · walk_at "go"
      refine .inr ⟨l, q, q2, many, k, start, zs, rfl, hB, lz, fb, fun H1 d s1 nd => ?_⟩
      have s2 := same_new (o := .xd [("at", .int (k : Int))]) nd
      refine ⟨true, te, fun _ ad na => ?_, (fun z => by cases z)⟩
      walk_at "go"
      refine ⟨d, _, _, rfl, upd_same, rfl, ?_⟩
      walk_at "go"
      refine ⟨CE, d, _, .ref CH, .ref CH, true, rfl, rfl, ec, upd_same, rfl, (fun u z => by cases z; rfl), k1, ?_⟩
      walk_at "go"
      refine ⟨CE, d, _, .ref CC, .ref CC, false, rfl, rfl, ec, upd_same, rfl, (fun u z => by cases z; rfl), k2, ?_⟩
      walk_at "go"
      refine ⟨d, _, _, rfl, upd_same, rfl, ?_⟩
      exact qq _ (s1.trans s2)
end
end Z
set_option pp.maxSteps 700
set_option Elab.async false
set_option linter.all false
set_option maxRecDepth 100000
set_option maxHeartbeats 4000000
namespace Z
open Dy
open PySem PySem.Spec PyProof.Rows L2
open C8 (pss_cut tCut)
local macro_rules | `(tactic| walk_at "num") => `(tactic| first | rfl | omega | decide | exact Nat.le_of_lt (small1000 (by simp)) | exact ⟨by omega, by omega⟩ | exact ⟨by omega, by omega, by omega⟩ | exact ⟨by decide, by decide, by decide⟩ | exact Or.inl ⟨by omega, by omega⟩ | exact Or.inr ⟨by omega, by omega⟩)
local macro_rules | `(tactic| walk_at "go") => `(tactic| repeat (first | refine ⟨_, rfl, ?_⟩ | refine ⟨_, _, rfl, rfl, ?_⟩ | refine ⟨_, _, rfl, ?_⟩ | (refine ⟨_, _, rfl, rfl, ?_, ?_⟩; focus walk_at "num") | refine Or.inl ⟨_, rfl, ?_⟩ | refine ⟨_, _, _, _, rfl, rfl, (by assumption), (by rfl), ?_⟩ | refine ⟨_, _, _, _, _, rfl, (by assumption), (by assumption), (by assumption), (by rfl), ?_⟩ | refine ⟨rfl, ?_⟩ | (refine And.intro ?_ ?_; focus walk_at "num")))
theorem LbL.of_ {H J : Hp} {M many : Nat} {l l' : Addr} {zs zs' : List (Addr × Lb)} (h : LbL H M many l zs) (s : Same H J) (e : J l' = some (.lst (zs'.map fun z => V.ref z.1))) (sub : ∀ z ∈ zs', z ∈ zs ∨ LbAt J z.1 z.2 ∧ LbOk M many z.2) : LbL J M many l' zs' :=
  ⟨e, fun z m => (sub z m).elim (fun m => (h.at_ z m).mono s) (·.1), fun z m => (sub z m).elim (h.ok z) (·.2)⟩
theorem lbs_sub {zs zs' : List (Addr × Lb)} (h : ∀ z ∈ zs, z ∈ zs') : ∀ f, FsS (lbs zs) f → FsS (lbs zs') f := fun f ⟨b, m, c⟩ => by
  obtain ⟨z, hz, rfl⟩ := List.mem_map.mp m
  exact ⟨_, List.mem_map.mpr ⟨z, h z hz, rfl⟩, c⟩
theorem lbs_same {zs zs' : List (Addr × Lb)} (h : ∀ z, z ∈ zs' ↔ z ∈ zs) : FsS (lbs zs') = FsS (lbs zs) := funext fun f => propext ⟨lbs_sub (fun z m => (h z).mp m) f, lbs_sub (fun z m => (h z).mpr m) f⟩
theorem PlL.same {zs zs' : List (Addr × Lb)} {many : Nat} {start : Int} {xs ys : List Int} (h : PlL zs many start xs) (k : PlL zs' many start ys) (e : ∀ z, z ∈ zs' ↔ z ∈ zs) : ys = xs := by
  unfold PlL at h k
  rw [lbs_same e] at k
  exact k.uniq h
/-- bounds with other events, one by one -/
structure Trn (many c : Nat) (zp zl : List (Addr × Lb)) : Prop where
  len : zp.length = zl.length
  at_ : ∀ (k : Nat) b d, zp[k]? = some b → zl[k]? = some d → b.2.fr = d.2.fr ∧ b.2.i = Dl.tn many c d.2.i ∧ b.2.j = Dl.tn many c d.2.j ∧ b.2.es = d.2.es
theorem Trn.snoc {many c : Nat} {zp zl : List (Addr × Lb)} (p : Trn many c zp zl) {b d : Addr × Lb} (h : b.2.fr = d.2.fr ∧ b.2.i = Dl.tn many c d.2.i ∧ b.2.j = Dl.tn many c d.2.j ∧ b.2.es = d.2.es) : Trn many c (zp ++ [b]) (zl ++ [d]) := by
  refine ⟨by rw [List.length_append, List.length_append, p.len]; rfl, fun k x y hx hy => ?_⟩
  have pl := p.len
  rcases Dl.get_app hx with ⟨k1, e⟩ | ⟨k1, rfl⟩
  · rcases Dl.get_app hy with ⟨k2, e2⟩ | ⟨k2, _⟩
    · exact p.at_ k x y e e2
    · omega
  · rcases Dl.get_app hy with ⟨k2, e2⟩ | ⟨k2, rfl⟩
    · omega
    · exact h
theorem trn_fc {many c : Nat} {b d : Lb} (h : b.fr = d.fr ∧ b.i = Dl.tn many c d.i ∧ b.j = Dl.tn many c d.j ∧ b.es = d.es) (f : Dl.Fc) : FcOf (lbd b) f ↔ ∃ g, FcOf (lbd d) g ∧ f = Dl.tnF many c g := by
  obtain ⟨a, i, j, n, es⟩ := b
  obtain ⟨a', i', j', n', es'⟩ := d
  obtain ⟨e1, e2, e3, e4⟩ := h
  dsimp only at e1 e2 e3 e4
  subst e1 e2 e3 e4
  constructor
  · rintro (⟨e, rfl⟩ | ⟨e, S, s, rfl⟩)
    · exact ⟨_, .inl ⟨e, rfl⟩, rfl⟩
    · exact ⟨_, .inr ⟨e, S, s, rfl⟩, rfl⟩
  · rintro ⟨g, ⟨e, rfl⟩ | ⟨e, S, s, rfl⟩, rfl⟩
    · exact .inl ⟨e, rfl⟩
    · exact .inr ⟨e, S, s, rfl⟩
theorem Trn.fs {many c : Nat} {zp zl : List (Addr × Lb)} (p : Trn many c zp zl) (f : Dl.Fc) : FsS (lbs zp) f ↔ ∃ g, FsS (lbs zl) g ∧ f = Dl.tnF many c g := by
  constructor
  · rintro ⟨b, m, h⟩
    obtain ⟨z, hz, rfl⟩ := List.mem_map.mp m
    obtain ⟨k, hk, rfl⟩ := List.getElem_of_mem hz
    have hk2 : k < zl.length := by rw [← p.len]; exact hk
    obtain ⟨g, hg, e⟩ := (trn_fc (p.at_ k _ _ (List.getElem?_eq_getElem hk) (List.getElem?_eq_getElem hk2)) f).mp h
    exact ⟨g, ⟨_, List.mem_map.mpr ⟨_, List.getElem_mem hk2, rfl⟩, hg⟩, e⟩
  · rintro ⟨g, ⟨b, m, h⟩, e⟩
    obtain ⟨z, hz, rfl⟩ := List.mem_map.mp m
    obtain ⟨k, hk, rfl⟩ := List.getElem_of_mem hz
    have hk2 : k < zp.length := by rw [p.len]; exact hk
    exact ⟨_, List.mem_map.mpr ⟨_, List.getElem_mem hk2, rfl⟩, (trn_fc (p.at_ k _ _ (List.getElem?_eq_getElem hk2) (List.getElem?_eq_getElem hk)) f).mpr ⟨g, h, e⟩⟩
/-- the days of turned events: what the law writes down -/
def trnL (many c : Nat) (xs : List Int) : List Int := if xs = [] then [] else (List.range many).map fun k => xs.getD (Dl.tn many (many - c) k) 0
theorem PlL.turn {many c : Nat} {Pd : Int} {start : Int} {zs zs' : List (Addr × Lb)} {xs ys : List Int} (hc : c < many) (ok : Dl.FsOk (FsS (lbs zs)) many Pd) (t : Trn many c zs' zs) (h : PlL zs many start xs) (k : PlL zs' many start ys) : ys = trnL many c xs := by
  have := Dl.Pl.turn hc ok t.fs h
  exact Dl.Pl.uniq k this
theorem tn_int {many c : Nat} (h : c < many) (k : Nat) : ((k : Int) - (c : Int)) % (many : Int) = ((Dl.tn many (many - c) k : Nat) : Int) := by
  unfold Dl.tn
  rw [Int.natCast_emod, show ((k + (many - c) : Nat) : Int) = (k : Int) - c + many by omega, Int.add_emod_right]
theorem tn_add (i c many : Nat) : ((i : Int) + (c : Int)) % (many : Int) = ((Dl.tn many c i : Nat) : Int) := by
  unfold Dl.tn
  rw [Int.natCast_emod, Int.natCast_add]
theorem flt_trn (many c : Nat) (xs : List Int) : fltL (fun _ => decide (0 < xs.length)) (fun k => V.int (xs.getD (Dl.tn many (many - c) k) 0)) many = (trnL many c xs).map V.int := by
  unfold trnL
  by_cases e : xs = []
  · rw [if_pos e, fltL_nil fun k _ => by rw [e]; rfl]
    rfl
  · have h : 0 < xs.length := List.length_pos_iff.mpr e
    rw [if_neg e]
    unfold fltL
    rw [List.filter_eq_self.mpr fun k _ => decide_eq_true h, List.map_map]
    rfl
theorem pl_nolb {many : Nat} {start : Int} {xs : List Int} (h : PlL [] many start xs) : xs = (List.range many).map fun _ => start :=
  Dl.Pl.uniq h (Dl.pl_none (fun f ⟨b, m, _⟩ => absurd m (by simp [lbs])) many start)
theorem PlL.later {zs : List (Addr × Lb)} {many : Nat} {s1 s2 : Int} {xs ys : List Int} (m0 : 0 < many) (le : s1 ≤ s2) (h : PlL zs many s1 xs) (k : PlL zs many s2 ys) : Dl.NotE ys xs ∧ (ys = [] → xs = []) :=
  ⟨Dl.Pl.more m0 (fun _ h => h) le h k, fun e => (Dl.Pl.later m0 h k).mp e⟩
theorem PlL.more {zs zs' : List (Addr × Lb)} {many : Nat} {s : Int} {xs ys : List Int} (m0 : 0 < many) (sub : ∀ z ∈ zs, z ∈ zs') (h : PlL zs many s xs) (k : PlL zs' many s ys) : Dl.NotE ys xs := Dl.Pl.more m0 (lbs_sub sub) (Int.le_refl _) h k
theorem PlL.shift {zs : List (Addr × Lb)} {many : Nat} {Pd : Int} {s m : Int} {xs ys : List Int} (ok : Dl.FsOk (FsS (lbs zs)) many Pd) (h : PlL zs many s xs) (k : PlL zs many (s + Pd * m) ys) : ys = xs.map fun d => d + Pd * m := by
  have := Dl.Pl.shift ok h m
  rw [Int.mul_comm] at this
  exact Dl.Pl.uniq k this
theorem Prf.pl {many : Nat} {start : Int} {zs : List (Addr × Lb)} {zp : List (Addr × Bd)} {xs ys : List Int} (p : Prf zp zs) (h : PlL zs many start xs) (k : Dl.Pl (FsS (zp.map (·.2))) many start ys) : ys = xs := by
  rw [p.fs] at k
  exact Dl.Pl.uniq k h
end Z
set_option pp.maxSteps 700
set_option Elab.async false
set_option linter.all false
set_option maxRecDepth 100000
set_option maxHeartbeats 4000000
namespace Z
open Dy
open PySem PySem.Spec PyProof.Rows L2
open C8 (pss_cut tCut)
local macro_rules | `(tactic| walk_at "num") => `(tactic| first | rfl | omega | decide | exact Nat.le_of_lt (small1000 (by simp)) | exact ⟨by omega, by omega⟩ | exact ⟨by omega, by omega, by omega⟩ | exact ⟨by decide, by decide, by decide⟩ | exact Or.inl ⟨by omega, by omega⟩ | exact Or.inr ⟨by omega, by omega⟩)
local macro_rules | `(tactic| walk_at "go") => `(tactic| repeat (first | refine ⟨_, rfl, ?_⟩ | refine ⟨_, _, rfl, rfl, ?_⟩ | refine ⟨_, _, rfl, ?_⟩ | (refine ⟨_, _, rfl, rfl, ?_, ?_⟩; focus walk_at "num") | refine Or.inl ⟨_, rfl, ?_⟩ | refine ⟨_, _, _, _, rfl, rfl, (by assumption), (by rfl), ?_⟩ | refine ⟨_, _, _, _, _, rfl, (by assumption), (by assumption), (by assumption), (by rfl), ?_⟩ | refine ⟨rfl, ?_⟩ | (refine And.intro ?_ ?_; focus walk_at "num")))
abbrev s_refusals_hold : Stmt := topS 43
abbrev N_refusals_hold : List Str := ["_law_many", "_law_bounds_here", "_law_start_here", "_law_draws_here", "_law_rule_here", "_law_wrong", "_law_at", "_law_event", "_law_far", "_law_odd", "_law_bad"]
abbrev P_refusals_hold : List Str := ["_law_many", "_law_bounds_here", "_law_start_here", "_law_draws_here"]
theorem sc_refusals_hold : FnScope N_refusals_hold P_refusals_hold (defScope s_refusals_hold) := ⟨rfl, rfl, rfl, by decide +kernel, rfl, by decide +kernel, by decide +kernel⟩
theorem cut_lo {xs : List V} {k : Nat} (h : k ≤ xs.length) : cutV xs none (some (k : Int)) = xs.take k := by
  unfold cutV
  rw [HT.sIx_none, HT.sIx_nat, Nat.min_eq_left h, List.drop_zero, Nat.sub_zero]
theorem cut_hi {xs : List V} {k : Nat} (h : k ≤ xs.length) : cutV xs (some (k : Int)) none = xs.drop k := by
  unfold cutV
  rw [HT.sIx_none, HT.sIx_nat, Nat.min_eq_left h, List.take_of_length_le (by rw [List.length_drop]; exact Nat.le_refl _)]
theorem of_c (c : Int) : Of (fun d => d + c) [c] := ⟨Nat.zero_lt_one, fun d => by show d + ((1 : Nat) : Int) + c = d + c + ((1 : Nat) : Int); omega, fun i hi => by
  have : i = 0 := by
    have : ([c] : List Int).length = 1 := rfl
    omega
  subst this
  show c = ((0 : Nat) : Int) + c
  omega⟩
theorem mon_c (c : Int) : Dy.Mon (fun d => d + c) := fun d => by show d + c ≤ d + 1 + c; omega
theorem per_c (c m : Int) : Per (fun d => d + c) m := fun d => by show d + m + c = d + c + m; omega
theorem modN (r : Int) {n : Nat} (h : 0 < n) : ∃ c : Nat, r % (n : Int) = (c : Int) ∧ c < n := by
  have h1 := Int.emod_nonneg r (show (n : Int) ≠ 0 by omega)
  have h2 := Int.emod_lt_of_pos r (show 0 < (n : Int) by omega)
  exact ⟨(r % (n : Int)).toNat, by omega, by omega⟩
def bz (zp : List (Addr × Bd)) : List (Addr × Bi) := zp.map fun z => (z.1, Z.bi z.2)
theorem fst_at {many k : Nat} {zs ws : List (Addr × Bi)} {x : Addr × Bi} (h : ∀ z ∈ zs, EvOk many z.2) (nb : ¬ EvOk many x.2) (lk : zs.length = k) : FstB many (zs ++ x :: ws) k := by
  subst lk
  refine ⟨⟨x, by rw [List.getElem?_append_right (Nat.le_refl _), Nat.sub_self]; rfl, nb⟩, fun j z hj hz => ?_⟩
  rw [List.getElem?_append_left hj] at hz
  exact h z (List.mem_of_getElem? hz)
theorem ev_take {many k : Nat} {zp : List (Addr × Bd)} (ok : Ok many zp) : ∀ z ∈ (bz zp).take k, EvOk many z.2 := fun z m => ok.ev z (List.mem_of_mem_take m)
theorem ev_drop {many k : Nat} {zp : List (Addr × Bd)} (ok : Ok many zp) : ∀ z ∈ (bz zp).drop k, EvOk many z.2 := fun z m => ok.ev z (List.mem_of_mem_drop m)
theorem bz_len (zp : List (Addr × Bd)) : (bz zp).length = zp.length := List.length_map ..
theorem bz_ref (zp : List (Addr × Bd)) : (bz zp).map (fun z => V.ref z.1) = zp.map fun z => V.ref z.1 := by
  unfold bz
  rw [List.map_map]
  rfl
def Ats (C : Addr) (K : PySem.W.Frag) (J : Hp) (M : Nat) (zp : List (Addr × Bd)) : Prop := ∀ z ∈ zp, J z.1 = some (.tup (bdV z.2)) ∧ RuleF C K J z.2.n M z.2.F
theorem Ats.mono {C : Addr} {K : PySem.W.Frag} {J J' : Hp} {M : Nat} {zp : List (Addr × Bd)} (h : Ats C K J M zp) (s : Same J J') : Ats C K J' M zp := fun z m => ⟨s _ _ (h z m).1, (h z m).2.mono s⟩
theorem tup_upd {J : Hp} {p a : Addr} {xs ys t : List V} (e : J p = some (.lst xs)) (h : J a = some (.tup t)) : (upd J p (.lst ys)) a = some (.tup t) := by
  rw [upd_ne (fun q => by rw [q, e] at h; cases h)]
  exact h
theorem Ats.upd {C : Addr} {K : PySem.W.Frag} {J : Hp} {M : Nat} {p : Addr} {xs ys : List V} {zp : List (Addr × Bd)} (h : Ats C K J M zp) (e : J p = some (.lst xs)) : Ats C K (upd J p (.lst ys)) M zp := fun z m => ⟨tup_upd e (h z m).1, rule_upd e (h z m).2⟩
theorem Ats.bi {C : Addr} {K : PySem.W.Frag} {J : Hp} {M : Nat} {zp : List (Addr × Bd)} (h : Ats C K J M zp) : ∀ z ∈ bz zp, J z.1 = some (.tup (biV z.2)) := fun z m => by
  obtain ⟨y, hy, rfl⟩ := List.mem_map.mp m
  exact (h y hy).1
theorem set_mid {α : Type} {as bs : List α} {x y : α} {k : Nat} (h : as.length = k) : (as ++ x :: bs).set k y = as ++ y :: bs := by
  subst h
  rw [List.set_append_right _ _ (Nat.le_refl _), Nat.sub_self]
  rfl
section
variable {P : Program} {w : World} {K : PySem.W.Frag} {mg : Str → Option Value} {base : Heap} {f C CD CE : Addr} {fd : FuncData}
def spRefH : Sp := fun vs H Q _ => ∃ (l d : Addr) (M many : Nat) (start : Int) (zs : List (Addr × Lb)) (ds : List Int), vs = [.int (many : Int), .ref l, .int start, .ref d] ∧ LbL H M many l zs ∧ 0 < M ∧ M ≤ 420 ∧ 0 < many ∧ many ≤ 8 ∧ zs.length ≤ 14 ∧ H d = some (.lst (ds.map V.int)) ∧ 5 ≤ ds.length ∧ (∀ k, k < ds.length → 0 ≤ ds.getD k 0 ∧ ds.getD k 0 < 1000000) ∧ ∀ H', Same H H' → Q (.bl true) H'
theorem ok_refusals_hold (F : FnP K "_law_refusals_hold" s_refusals_hold f fd) (m_int : mg "int" = none) (m_len : mg "len" = none) (m_list : mg "list" = none) (m_tuple : mg "tuple" = none) (k_DayRule : MakX P w K mg base 4 "DayRule" C (spInit C CD K)) (c_passed : Cal P w K mg base 6 "_law_passed" (spPassed C K)) (c_refused : Cal P w K mg base 9 "_law_refused" (spRefd C K)) : FnOk P w K mg base CX0 10 f fd P_refusals_hold spRefH := by
  refine F.ok sc_refusals_hold (fun vs H Q E h => ?_) (fun cdv A outer s H vs Q E hr h => ?_)
  · obtain ⟨l, d, M, many, start, zs, ds, rfl, _⟩ := h
    rfl
  · obtain ⟨l, d, M, many, start, zs, ds, rfl, hZ, m0, mM, h0, h8, lz, eD, l5, hd, q⟩ := h
    refine ⟨_, PSs.nox (pss_cons (ps_set (i := 4) sc_refusals_hold.nd rfl (by first | exact .inl rfl | exact .inr rfl) (pe_mkE k_DayRule (fun _ => passS0) hr (by decide) (by rfl) (pa_cons (pe_lst (pa_cons pe_int pa_nil)) pa_nil)))
      (pss_cons (ps_set (i := 5) sc_refusals_hold.nd rfl (by first | exact .inl rfl | exact .inr rfl) (pe_cl c_passed hr (by decide) (by rfl) (pa_cons (pv 1) pa_nil)))
      (pss_cons (ps_set (i := 6) sc_refusals_hold.nd rfl (by first | exact .inl rfl | exact .inr rfl) (pe_op op_mod (pe_callTy call_int1 (by rfl) m_int (by decide +kernel) (pa_cons (pe_ix ix_list (pv 3) pe_int (fun _ _ => rfl)) pa_nil)) (pe_op op_add (pe_callB call_len_seq (by rfl) m_len PySem.boot_len (pa_cons (pv 5) pa_nil)) pe_int)))
      (pss_cons (ps_set (i := 7) sc_refusals_hold.nd rfl (by first | exact .inl rfl | exact .inr rfl) (pe_op op_mod (pe_callTy call_int1 (by rfl) m_int (by decide +kernel) (pa_cons (pe_ix ix_list (pv 3) pe_int (fun _ _ => rfl)) pa_nil)) (pv 0)))
      (pss_cons (ps_set (i := 8) sc_refusals_hold.nd rfl (by first | exact .inl rfl | exact .inr rfl) (pe_op op_mul (pe_ix ix_list (pv 3) pe_int (fun _ _ => rfl)) (pe_op op_pow pe_int pe_int)))
      (pss_cons (ps_set (i := 9) sc_refusals_hold.nd rfl (by first | exact .inl rfl | exact .inr rfl) (pe_ix ix_list (pe_lst (pa_cons (pe_op op_sub pe_int pe_int) (pa_cons (pv 0) (pa_cons (pe_op op_sub (pe_op op_sub pe_int pe_int) (pe_ix ix_list (pv 3) pe_int (fun _ _ => rfl))) (pa_cons (pe_op op_add (pv 0) (pe_ix ix_list (pv 3) pe_int (fun _ _ => rfl))) (pa_cons (pe_op op_sub (pe_op op_sub pe_int pe_int) (pv 8)) (pa_cons (pe_op op_add (pv 0) (pv 8)) pa_nil))))))) (pe_op op_mod (pe_callTy call_int1 (by rfl) m_int (by decide +kernel) (pa_cons (pe_ix ix_list (pv 3) pe_int (fun _ _ => rfl)) pa_nil)) pe_int) (fun _ _ => rfl)))
      (pss_cons (ps_set (i := 10) sc_refusals_hold.nd rfl (by first | exact .inl rfl | exact .inr rfl) (pe_ix ix_list (pe_lst (pa_cons (pe_tup (pa_cons pe_str (pa_cons (pv 9) (pa_cons (pv 7) (pa_cons (pv 4) pa_nil))))) (pa_cons (pe_tup (pa_cons pe_str (pa_cons (pv 7) (pa_cons (pv 9) (pa_cons (pv 4) pa_nil))))) (pa_cons (pe_tup (pa_cons pe_str (pa_cons (pv 7) (pa_cons (pv 9) (pa_cons (pv 4) pa_nil))))) (pa_cons (pe_tup (pa_cons pe_str (pa_cons (pv 9) (pa_cons (pv 7) (pa_cons (pv 4) pa_nil))))) pa_nil))))) (pe_op op_mod (pe_callTy call_int1 (by rfl) m_int (by decide +kernel) (pa_cons (pe_ix ix_list (pv 3) pe_int (fun _ _ => rfl)) pa_nil)) pe_int) (fun _ _ => rfl)))
      (pss_cons (ps_set (i := 5) sc_refusals_hold.nd rfl (by first | exact .inl rfl | exact .inr rfl) (pe_op op_cat (pe_op op_cat (pe_slice sl_list (pv 5) po_none (po_some (pv 6))) (pe_lst (pa_cons (pv 10) pa_nil))) (pe_slice sl_list (pv 5) (po_some (pv 6)) po_none)))
      (pss_cons (ps_if (pt_cmpR op_ne (pe_cl c_refused hr (by decide) (by rfl) (pa_cons (pv 0) (pa_cons (pe_callTy call_list_of (by rfl) m_list (by decide +kernel) (pa_cons (pv 5) pa_nil)) (pa_cons (pv 2) pa_nil)))) (pv 6) (nomark _)) (pss_one (ps_ret pe_bl)) pss_nil)
      (pss_cons (ps_expr (pe_bm PySem.F.plainAttrs_list PySem.F.slot_list_append PySem.F.type_list_append mt_append (pv 5) (pa_cons (pe_tup (pa_cons pe_str (pa_cons (pv 0) (pa_cons (pe_op op_sub pe_int pe_int) (pa_cons (pv 4) pa_nil))))) pa_nil)))
      (pss_cons (ps_if (pt_cmpR op_ne (pe_cl c_refused hr (by decide) (by rfl) (pa_cons (pv 0) (pa_cons (pe_callTy call_tuple_of (by rfl) m_tuple (by decide +kernel) (pa_cons (pv 5) pa_nil)) (pa_cons (pv 2) pa_nil)))) (pv 6) (nomark _)) (pss_one (ps_ret pe_bl)) pss_nil)
      (pss_cons (ps_asg (pe_tup (pa_cons pe_str (pa_cons (pe_op op_sub (pv 0) pe_int) (pa_cons pe_int (pa_cons (pe_mkE k_DayRule (fun _ => passS0) hr (by decide) (by rfl) (pa_cons (pe_lst (pa_cons (pe_op op_sub pe_int pe_int) pa_nil)) pa_nil)) pa_nil))))) (pg_sub (pv 5) (pv 6) set_list))
      (pss_cons (ps_if (pt_cmpR op_ne (pe_cl c_refused hr (by decide) (by rfl) (pa_cons (pv 0) (pa_cons (pv 5) (pa_cons (pv 2) pa_nil)))) (pe_op op_sub (pe_callB call_len_seq (by rfl) m_len PySem.boot_len (pa_cons (pv 5) pa_nil)) pe_int) (nomark _)) (pss_one (ps_ret pe_bl)) pss_nil)
      (pss_one (ps_ret (pe_cmpR op_eq (pe_cl c_refused hr (by decide) (by rfl) (pa_cons (pv 0) (pa_cons (pe_slice sl_list (pv 5) po_none (po_some (pe_op op_sub (pe_callB call_len_seq (by rfl) m_len PySem.boot_len (pa_cons (pv 5) pa_nil)) pe_int))) (pa_cons (pv 2) pa_nil)))) (pe_op op_sub pe_int pe_int) (nomark _))))))))))))))))), ?_⟩
    rw [show L2.start N_refusals_hold [V.int (many : Int), V.ref l, V.int start, V.ref d] = [some (.int (many : Int)), some (.ref l), some (.int start), some (.ref d), none, none, none, none, none, none, none] from rfl]
    walk_at "go"
    intro u2 nu2
    have su := same_new (o := .lst [.int 2]) nu2
    have eU : (upd H u2 (.lst [.int 2])) u2 = some (.lst (([2] : List Int).map V.int)) := upd_same
    generalize upd H u2 (.lst [.int 2]) = H1 at su eU
    walk_at "go"
    intro f1 dx n1 n2 n3
    refine mk_rule (b := true) (es := [2]) (M := M) (F := fun d => d + 2) n1 n2 n3 eU (by decide) (of_c 2) (mon_c 2) (per_c 2 _) (fun J2 s2 rF => ?_)
    walk_at "go"
    refine ⟨l, M, many, zs, rfl, hZ.mono (su.trans s2), m0, mM, by omega, fun p zp H3 s3 np hP pr => ?_⟩
    have okp := pr.ok hZ
    have lp := pr.len
    have sH := su.trans (s2.trans s3)
    have npH := none_of (su.trans s2) np
    replace rF := rF.mono s3
    have eD3 := sH _ _ eD
    clear n1 n2 n3 eU su s2 s3 nu2 np hZ
    walk_at "go"
    refine rd_at (SqL.of eD3) (by decide) (by omega) ?_
    walk_at "go"
    refine ⟨p, _, rfl, .inl (SqL.of hP.sq), ?_⟩
    rw [List.length_map]
    walk_at "go"
    dsimp only [List.set]
    obtain ⟨k, ek, hk⟩ := modN (ds.getD 0 0) (Nat.succ_pos zp.length)
    rw [show ds.getD (Int.toNat 0) 0 % ((zp.length : Int) + 1) = (k : Int) from ek]
    clear ek
    walk_at "go"
    refine rd_at (SqL.of eD3) (by decide) (by omega) ?_
    walk_at "go"
    dsimp only [List.set]
    obtain ⟨ev, ek, hev⟩ := modN (ds.getD 1 0) h0
    rw [show ds.getD (Int.toNat 1) 0 % (many : Int) = (ev : Int) from ek]
    clear ek
    walk_at "go"
    refine rd_at (SqL.of eD3) (by decide) (by omega) ?_
    walk_at "go"
    obtain ⟨p2, p2'⟩ := hd 2 (by omega)
    refine ⟨.inl ⟨by show -(2 ^ 64) < ds.getD 2 0; omega, by show ds.getD 2 0 < 2 ^ 64; omega⟩, ?_⟩
    dsimp only [List.set]
    have far0 : 0 ≤ ds.getD (Int.toNat 2) 0 * 10 ^ Int.toNat 50 := Int.mul_nonneg p2 (by decide +kernel)
    generalize ds.getD (Int.toNat 2) 0 * 10 ^ Int.toNat 50 = far at far0
    walk_at "go"
    refine rd_at (SqL.of eD3) (by decide) (by omega) ?_
    walk_at "go"
    refine rd_at (SqL.of eD3) (by decide) (by omega) ?_
    walk_at "go"
    intro X nX
    generalize eH_ : upd H3 X _ = H4
    have s4 : Same H3 H4 := by rw [← eH_]; exact same_new nX
    have eX : H4 X = some (.lst (([0 - 1, (many : Int), 0 - 1 - ds.getD (Int.toNat 2) 0, (many : Int) + ds.getD (Int.toNat 2) 0, 0 - 1 - far, (many : Int) + far] : List Int).map V.int)) := by rw [← eH_]; exact upd_same
    clear eH_
    walk_at "go"
    have eD4 := s4 _ _ eD3
    refine rd_at (SqL.of eD4) (by decide) (by omega) ?_
    walk_at "go"
    have key : ∃ v : Int, ¬ (0 ≤ v ∧ v < (many : Int)) ∧ atI (([0 - 1, (many : Int), 0 - 1 - ds.getD (Int.toNat 2) 0, (many : Int) + ds.getD (Int.toNat 2) 0, 0 - 1 - far, (many : Int) + far] : List Int).map V.int) (ds.getD (Int.toNat 3) 0 % 6) = some (.int v) := by
      have p2 : 0 ≤ ds.getD (Int.toNat 2) 0 := p2
      have : ds.getD (Int.toNat 3) 0 % 6 = 0 ∨ ds.getD (Int.toNat 3) 0 % 6 = 1 ∨ ds.getD (Int.toNat 3) 0 % 6 = 2 ∨ ds.getD (Int.toNat 3) 0 % 6 = 3 ∨ ds.getD (Int.toNat 3) 0 % 6 = 4 ∨ ds.getD (Int.toNat 3) 0 % 6 = 5 := by omega
      rcases this with e | e | e | e | e | e <;> rw [e]
      · exact ⟨_, by omega, rfl⟩
      · exact ⟨_, by omega, rfl⟩
      · exact ⟨_, by omega, rfl⟩
      · exact ⟨_, by omega, rfl⟩
      · exact ⟨_, by omega, rfl⟩
      · exact ⟨_, by omega, rfl⟩
    obtain ⟨v, bv, av⟩ := key
    refine ⟨X, _, _, _, rfl, rfl, SqL.of eX, av, ?_⟩
    walk_at "go"
    dsimp only [List.set]
    intro T1 nT1
    generalize eH_ : upd H4 T1 _ = H5
    have s5 : Same H4 H5 := by rw [← eH_]; exact same_new nT1
    have eT1 : H5 T1 = some (.tup [.str (Str.ofString "from"), .int v, .int (ev : Int), .ref f1]) := by rw [← eH_]; exact upd_same
    clear eH_
    walk_at "go"
    intro T2 nT2
    generalize eH_ : upd H5 T2 _ = H6
    have s6 : Same H5 H6 := by rw [← eH_]; exact same_new nT2
    have eT2 : H6 T2 = some (.tup [.str (Str.ofString "by"), .int (ev : Int), .int v, .ref f1]) := by rw [← eH_]; exact upd_same
    clear eH_
    walk_at "go"
    intro T3 nT3
    generalize eH_ : upd H6 T3 _ = H7
    have s7 : Same H6 H7 := by rw [← eH_]; exact same_new nT3
    have eT3 : H7 T3 = some (.tup [.str (Str.ofString "from"), .int (ev : Int), .int v, .ref f1]) := by rw [← eH_]; exact upd_same
    clear eH_
    walk_at "go"
    intro T4 nT4
    generalize eH_ : upd H7 T4 _ = H8
    have s8 : Same H7 H8 := by rw [← eH_]; exact same_new nT4
    have eT4 : H8 T4 = some (.tup [.str (Str.ofString "by"), .int v, .int (ev : Int), .ref f1]) := by rw [← eH_]; exact upd_same
    clear eH_
    walk_at "go"
    intro X2 nX2
    generalize eH_ : upd H8 X2 _ = H9
    have s9 : Same H8 H9 := by rw [← eH_]; exact same_new nX2
    have eX2 : H9 X2 = some (.lst [.ref T1, .ref T2, .ref T3, .ref T4]) := by rw [← eH_]; exact upd_same
    clear eH_
    walk_at "go"
    have s49 := s5.trans (s6.trans (s7.trans (s8.trans s9)))
    refine rd_at (SqL.of (s49 _ _ eD4)) (by decide) (by omega) ?_
    walk_at "go"
    have key : ∃ (tb : Addr) (bb : Bi), atI [V.ref T1, .ref T2, .ref T3, .ref T4] (ds.getD (Int.toNat 4) 0 % 4) = some (.ref tb) ∧ H9 tb = some (.tup (biV bb)) ∧ ¬ EvOk many bb := by
      have : ds.getD (Int.toNat 4) 0 % 4 = 0 ∨ ds.getD (Int.toNat 4) 0 % 4 = 1 ∨ ds.getD (Int.toNat 4) 0 % 4 = 2 ∨ ds.getD (Int.toNat 4) 0 % 4 = 3 := by omega
      rcases this with e | e | e | e <;> rw [e]
      · exact ⟨T1, ⟨true, v, ev, f1⟩, rfl, s9 _ _ (s8 _ _ (s7 _ _ (s6 _ _ eT1))), fun h => bv h.1⟩
      · exact ⟨T2, ⟨false, ev, v, f1⟩, rfl, s9 _ _ (s8 _ _ (s7 _ _ eT2)), fun h => bv h.2⟩
      · exact ⟨T3, ⟨true, ev, v, f1⟩, rfl, s9 _ _ (s8 _ _ eT3), fun h => bv h.2⟩
      · exact ⟨T4, ⟨false, v, ev, f1⟩, rfl, s9 _ _ eT4, fun h => bv h.1⟩
    obtain ⟨tb, bb, atb, htb, nbb⟩ := key
    refine ⟨X2, _, _, _, rfl, rfl, SqL.of eX2, atb, ?_⟩
    have s39 := s4.trans s49
    have hP9 := hP.mono s39
    have rF9 := rF.mono s39
    have sH9 := sH.trans s39
    clear s4 s5 s6 s7 s8 s9 s49 eT1 eT2 eT3 eT4 eX2 eX eD3 eD4 atb av bv far0 sH hP rF s39
    walk_at "go"
    dsimp only [List.set]
    refine ⟨p, _, rfl, SqL.of hP9.sq, ?_⟩
    walk_at "go"
    intro U1 nU1
    have c1 : cutV (zp.map fun z => V.ref z.1) none (some (k : Int)) = (zp.take k).map fun z => V.ref z.1 := by rw [cut_lo (by rw [List.length_map]; omega), List.map_take]
    rw [c1]
    have s10 := same_new (o := .lst ((zp.take k).map fun z => V.ref z.1)) nU1
    have e1 : (upd H9 U1 (.lst ((zp.take k).map fun z => V.ref z.1))) U1 = some (.lst ((zp.take k).map fun z => V.ref z.1)) := upd_same
    generalize upd H9 U1 (.lst ((zp.take k).map fun z => V.ref z.1)) = H10 at s10 e1
    walk_at "go"
    intro U2 nU2
    generalize eH_ : upd H10 U2 _ = H11
    have s11 : Same H10 H11 := by rw [← eH_]; exact same_new nU2
    have eU2 : H11 U2 = some (.lst [.ref tb]) := by rw [← eH_]; exact upd_same
    clear eH_
    walk_at "go"
    refine ⟨U1, U2, _, _, rfl, rfl, s11 _ _ e1, eU2, by rw [List.length_map, List.length_take]; exact szC (by omega), fun U3 nU3 => ?_⟩
    have s12 := same_new (o := .lst (((zp.take k).map fun z => V.ref z.1) ++ [.ref tb])) nU3
    have e3 : (upd H11 U3 (.lst (((zp.take k).map fun z => V.ref z.1) ++ [.ref tb]))) U3 = some (.lst (((zp.take k).map fun z => V.ref z.1) ++ [.ref tb])) := upd_same
    generalize upd H11 U3 (.lst (((zp.take k).map fun z => V.ref z.1) ++ [.ref tb])) = H12 at s12 e3
    walk_at "go"
    have s912 := s10.trans (s11.trans s12)
    refine ⟨p, _, rfl, SqL.of (s912 _ _ hP9.sq), ?_⟩
    walk_at "go"
    intro U4 nU4
    have c2 : cutV (zp.map fun z => V.ref z.1) (some (k : Int)) none = (zp.drop k).map fun z => V.ref z.1 := by rw [cut_hi (by rw [List.length_map]; omega), List.map_drop]
    rw [c2]
    have s13 := same_new (o := .lst ((zp.drop k).map fun z => V.ref z.1)) nU4
    have e4 : (upd H12 U4 (.lst ((zp.drop k).map fun z => V.ref z.1))) U4 = some (.lst ((zp.drop k).map fun z => V.ref z.1)) := upd_same
    generalize upd H12 U4 (.lst ((zp.drop k).map fun z => V.ref z.1)) = H13 at s13 e4
    walk_at "go"
    refine ⟨U3, U4, _, _, rfl, rfl, s13 _ _ e3, e4, Nat.le_trans (Nat.add_le_add (show _ ≤ 20 by rw [List.length_append, List.length_map, List.length_take]; show min k zp.length + 1 ≤ 20; omega) (show _ ≤ 20 by rw [List.length_map, List.length_drop]; omega)) (by decide), fun W nW => ?_⟩
    obtain ⟨wz, hwz⟩ : ∃ wz : List (Addr × Bi), wz = (bz zp).take k ++ (tb, bb) :: (bz zp).drop k := ⟨_, rfl⟩
    have ew : ((zp.take k).map fun z => V.ref z.1) ++ [.ref tb] ++ ((zp.drop k).map fun z => V.ref z.1) = wz.map fun z => V.ref z.1 := by
      rw [hwz, List.map_append, List.map_cons, List.append_assoc]
      simp only [List.map_take, List.map_drop, bz_ref]
      rfl
    rw [ew]
    have s14 := same_new (o := .lst (wz.map fun z => V.ref z.1)) nW
    have eW : (upd H13 W (.lst (wz.map fun z => V.ref z.1))) W = some (.lst (wz.map fun z => V.ref z.1)) := upd_same
    generalize upd H13 W (.lst (wz.map fun z => V.ref z.1)) = H14 at s14 eW
    have s914 := s912.trans (s13.trans s14)
    have at14 : Ats C K H14 M zp := fun z m => ⟨s914 _ _ (hP9.at_ z m), (hP9.rl z m).mono s914⟩
    have tb14 := s914 _ _ htb
    have rF14 := rF9.mono s914
    have s0 := sH9.trans s914
    have nW0 := none_of (sH9.trans (s912.trans s13)) nW
    have lt : ((bz zp).take k).length = k := by rw [List.length_take, bz_len]; omega
    have lw : wz.length = zp.length + 1 := by
      rw [hwz, List.length_append, List.length_cons, lt, List.length_drop, bz_len]
      omega
    clear s10 s11 s12 s13 s14 s912 s914 e1 e3 e4 eU2 sH9 rF9 hP9 htb c1 c2 ew
    walk_at "go"
    dsimp only [List.set]
    have aw14 : ∀ z ∈ wz, H14 z.1 = some (.tup (biV z.2)) := fun z m => by
      rw [hwz] at m
      rcases List.mem_append.mp m with m | m
      · exact at14.bi z (List.mem_of_mem_take m)
      · rcases List.mem_cons.mp m with rfl | m
        · exact tb14
        · exact at14.bi z (List.mem_of_mem_drop m)
    refine ⟨W, _, rfl, .inl (SqL.of eW), fun l1 nl1 => ?_⟩
    have s15 := same_new (o := .lst (wz.map fun z => V.ref z.1)) nl1
    have el1 : (upd H14 l1 (.lst (wz.map fun z => V.ref z.1))) l1 = some (.lst (wz.map fun z => V.ref z.1)) := upd_same
    generalize upd H14 l1 (.lst (wz.map fun z => V.ref z.1)) = H15 at s15 el1
    walk_at "go"
    have fw : FstB many wz k := by rw [hwz]; exact fst_at (ev_take okp) nbb lt
    refine .inr ⟨l1, true, false, many, k, start, wz, rfl, ⟨SqL.of el1, fun z m => SqT.of (s15 _ _ (aw14 z m))⟩, by omega, fw, fun H16 s16 => ?_⟩
    walk_at "go"
    rw [decide_eq_true rfl]
    refine ite2 (fun e => absurd e Bool.false_ne_true) (fun _ => ?_)
    walk_at "go"
    refine ⟨.inl ⟨rfl, _, SqL.of ((s15.trans s16) _ _ eW)⟩, ?_⟩
    walk_at "go"
    intro t1 nt1
    generalize eH_ : upd H16 t1 _ = H17
    have s17 : Same H16 H17 := by rw [← eH_]; exact same_new nt1
    have et1 : H17 t1 = some (.tup [.str (Str.ofString "by"), .int (many : Int), .int (0 - 1), .ref f1]) := by rw [← eH_]; exact upd_same
    clear eH_
    walk_at "go"
    have s1417 := s15.trans (s16.trans s17)
    have eW17 := s1417 _ _ eW
    have at17 := at14.mono s1417
    have aw17 : ∀ z ∈ wz, H17 z.1 = some (.tup (biV z.2)) := fun z m => s1417 _ _ (aw14 z m)
    refine ⟨W, _, _, rfl, rfl, eW17, by rw [List.length_map]; exact szC (by omega), ?_⟩
    have e18 : (upd H17 W (.lst ((wz.map fun z => V.ref z.1) ++ [.ref t1]))) W = some (.lst ((wz ++ [(t1, (⟨false, many, 0 - 1, f1⟩ : Bi))]).map fun z => V.ref z.1)) := by rw [upd_same, List.map_append]; rfl
    have s018 : Same H (upd H17 W (.lst ((wz.map fun z => V.ref z.1) ++ [.ref t1]))) := Z.Same.mut (s0.trans s1417) nW0
    have at18 : Ats C K (upd H17 W (.lst ((wz.map fun z => V.ref z.1) ++ [.ref t1]))) M zp := at17.upd eW17
    have aw18 : ∀ z ∈ wz ++ [(t1, (⟨false, many, 0 - 1, f1⟩ : Bi))], (upd H17 W (.lst ((wz.map fun z => V.ref z.1) ++ [.ref t1]))) z.1 = some (.tup (biV z.2)) := fun z m => by
      rcases List.mem_append.mp m with m | m
      · exact tup_upd eW17 (aw17 z m)
      · rw [List.mem_singleton.mp m]
        exact tup_upd eW17 et1
    generalize upd H17 W (.lst ((wz.map fun z => V.ref z.1) ++ [.ref t1])) = H18 at e18 s018 at18 aw18
    clear s15 s16 s17 s1417 el1 eW17 at17 aw17 aw14 eW tb14 at14 et1 rF14
    walk_at "go"
    obtain ⟨wy, hwy⟩ : ∃ wy : List (Addr × Bi), wy = wz ++ [(t1, (⟨false, many, 0 - 1, f1⟩ : Bi))] := ⟨_, rfl⟩
    rw [← hwy] at e18 aw18
    have ly : wy.length = zp.length + 2 := by rw [hwy, List.length_append, lw]; rfl
    have e18' : H18 W = some (.lst (wy.map fun z => V.ref z.1)) := e18
    refine ⟨W, _, rfl, .inl ⟨SqL.of e18, fun l2 nl2 => ?_⟩⟩
    have s19 := same_new (o := .tup (wy.map fun z => V.ref z.1)) nl2
    have el2 : (upd H18 l2 (.tup (wy.map fun z => V.ref z.1))) l2 = some (.tup (wy.map fun z => V.ref z.1)) := upd_same
    generalize upd H18 l2 (.tup (wy.map fun z => V.ref z.1)) = H19 at s19 el2
    walk_at "go"
    have fy : FstB many wy k := by rw [hwy, hwz, List.append_assoc]; exact fst_at (ev_take okp) nbb lt
    refine .inr ⟨l2, false, false, many, k, start, wy, rfl, ⟨SqT.of el2, fun z m => SqT.of (s19 _ _ (aw18 z m))⟩, by omega, fy, fun H20 s20 => ?_⟩
    walk_at "go"
    rw [decide_eq_true rfl]
    refine ite2 (fun e => absurd e Bool.false_ne_true) (fun _ => ?_)
    walk_at "go"
    intro u4 nu4
    have s21 := same_new (o := .lst [.int (0 - 400)]) nu4
    have eU4 : (upd H20 u4 (.lst [.int (0 - 400)])) u4 = some (.lst (([0 - 400] : List Int).map V.int)) := upd_same
    generalize upd H20 u4 (.lst [.int (0 - 400)]) = H21 at s21 eU4
    walk_at "go"
    intro f2 dx2 n4 n5 n6
    refine mk_rule (b := true) (es := [0 - 400]) (M := M) (F := fun d => d + (0 - 400)) n4 n5 n6 eU4 (by decide) (of_c (0 - 400)) (mon_c (0 - 400)) (per_c (0 - 400) _) (fun H22 s22 rG => ?_)
    walk_at "go"
    intro t2 nt2
    generalize eH_ : upd H22 t2 _ = H23
    have s23 : Same H22 H23 := by rw [← eH_]; exact same_new nt2
    have et2 : H23 t2 = some (.tup [.str (Str.ofString "from"), .int ((many : Int) - 1), .int 0, .ref f2]) := by rw [← eH_]; exact upd_same
    clear eH_
    walk_at "go"
    have s1823 := s19.trans (s20.trans (s21.trans (s22.trans s23)))
    have eW23 := s1823 _ _ e18
    have hk1 : k < wy.length := by omega
    refine ⟨W, _, _, k, rfl, rfl, eW23, by rw [List.length_map]; exact ixN_nat hk1, ?_⟩
    obtain ⟨b2, hb2⟩ : ∃ b2 : Bd, b2 = ⟨true, many - 1, 0, f2, fun d => d + (0 - 400)⟩ := ⟨_, rfl⟩
    obtain ⟨zq, hzq⟩ : ∃ zq, zq = zp.take k ++ (t2, b2) :: zp.drop k := ⟨_, rfl⟩
    obtain ⟨xx, hxx⟩ : ∃ xx : Addr × Bi, xx = (t1, ⟨false, many, 0 - 1, f1⟩) := ⟨_, rfl⟩
    rw [← hxx] at hwy
    have et2' : H23 t2 = some (.tup (bdV b2)) := by
      rw [et2, hb2]
      show _ = some (HO.tup [.str (Str.ofString "from"), .int (((many - 1 : Nat)) : Int), .int ((0 : Nat) : Int), .ref f2])
      rw [show (((many - 1 : Nat)) : Int) = (many : Int) - 1 by omega]
      rfl
    have rG2 : RuleF C K H23 b2.n M b2.F := by rw [hb2]; exact rG.mono s23
    have ob2 : b2.i < many ∧ b2.j < many := by rw [hb2]; exact ⟨Nat.sub_lt h0 Nat.zero_lt_one, h0⟩
    have okq : Ok many zq := fun z m => by
      rw [hzq] at m
      rcases List.mem_append.mp m with m | m
      · exact okp z (List.mem_of_mem_take m)
      · rcases List.mem_cons.mp m with rfl | m
        · exact ob2
        · exact okp z (List.mem_of_mem_drop m)
    have lq : zq.length = zp.length + 1 := by
      rw [hzq, List.length_append, List.length_cons, List.length_take, List.length_drop]
      omega
    have ebq : bz zq = (bz zp).take k ++ (t2, Z.bi b2) :: (bz zp).drop k := by
      rw [hzq]
      unfold bz
      rw [List.map_append, List.map_cons, List.map_take, List.map_drop]
    have es : (wy.map fun z => V.ref z.1).set k (V.ref t2) = (bz zq ++ [xx]).map fun z => V.ref z.1 := by
      rw [show V.ref t2 = (fun z : Addr × Bi => V.ref z.1) (t2, Z.bi b2) from rfl, ← List.map_set, hwy, hwz, List.append_assoc, List.cons_append, set_mid lt, ebq, List.append_assoc, List.cons_append]
    have at18' := at18.mono s1823
    have at23 : Ats C K H23 M zq := fun z m => by
      rw [hzq] at m
      rcases List.mem_append.mp m with m | m
      · exact at18' z (List.mem_of_mem_take m)
      · rcases List.mem_cons.mp m with rfl | m
        · exact ⟨et2', rG2⟩
        · exact at18' z (List.mem_of_mem_drop m)
    have x23 : H23 xx.1 = some (.tup (biV xx.2)) := s1823 _ _ (aw18 xx (by rw [hwy]; exact List.mem_append_right _ List.mem_cons_self))
    rw [es]
    have e24 : (upd H23 W (.lst ((bz zq ++ [xx]).map fun z => V.ref z.1))) W = some (.lst ((bz zq ++ [xx]).map fun z => V.ref z.1)) := upd_same
    have s24 : Same H (upd H23 W (.lst ((bz zq ++ [xx]).map fun z => V.ref z.1))) := Z.Same.mut (s018.trans s1823) nW0
    have at24 : Ats C K (upd H23 W (.lst ((bz zq ++ [xx]).map fun z => V.ref z.1))) M zq := at23.upd eW23
    have x24 : (upd H23 W (.lst ((bz zq ++ [xx]).map fun z => V.ref z.1))) xx.1 = some (.tup (biV xx.2)) := tup_upd eW23 x23
    generalize upd H23 W (.lst ((bz zq ++ [xx]).map fun z => V.ref z.1)) = H24 at e24 s24 at24 x24
    have nx : ¬ EvOk many xx.2 := fun h => by
      rw [hxx] at h
      have : (many : Int) < (many : Int) := h.1.2
      omega
    clear s19 s20 s21 s22 s23 s1823 el2 eU4 e18 e18' aw18 at18 at18' at23 x23 et2 et2' rG rG2 eW23 fy fw s018 n4 n5 n6 nl2 nu4
    walk_at "go"
    refine .inr ⟨W, true, false, many, zp.length + 1, start, bz zq ++ [xx], rfl, ⟨SqL.of e24, fun z m => SqT.of ?_⟩, by rw [List.length_append, bz_len, lq]; show zp.length + 1 + 1 ≤ 1000; omega, fst_at okq.ev nx (by rw [← lq]; exact bz_len zq), fun H25 s25 => ?_⟩
    · rcases List.mem_append.mp m with m | m
      · exact at24.bi z m
      · rw [List.mem_singleton.mp m]
        exact x24
    walk_at "go"
    refine ⟨W, _, rfl, .inl (SqL.of (s25 _ _ e24)), ?_⟩
    have lz5 : ((bz zq ++ [xx]).map fun z => V.ref z.1).length = zp.length + 1 + 1 := by rw [List.length_map, List.length_append, bz_len, lq]; rfl
    rw [lz5]
    walk_at "go"
    rw [decide_eq_true (show V.int ((zp.length + 1 : Nat) : Int) = V.int (((zp.length + 1 + 1 : Nat) : Int) - 1) from congrArg V.int (by omega))]
    refine ite2 (fun e => absurd e Bool.false_ne_true) (fun _ => ?_)
    walk_at "go"
    refine ⟨W, _, rfl, .inl (SqL.of (s25 _ _ e24)), ?_⟩
    rw [lz5]
    walk_at "go"
    refine ⟨W, _, rfl, SqL.of (s25 _ _ e24), ?_⟩
    intro W5 nW5
    have ce : cutV ((bz zq ++ [xx]).map fun z => V.ref z.1) none (some (((zp.length + 1 + 1 : Nat) : Int) - 1)) = zq.map fun z => V.ref z.1 := by
      rw [show ((zp.length + 1 + 1 : Nat) : Int) - 1 = ((zp.length + 1 : Nat) : Int) by omega, cut_lo (by rw [lz5]; omega), ← List.map_take, List.take_left' (by rw [bz_len, lq]), bz_ref]
    rw [ce]
    have s26 := same_new (o := .lst (zq.map fun z => V.ref z.1)) nW5
    have e26 : (upd H25 W5 (.lst (zq.map fun z => V.ref z.1))) W5 = some (.lst (zq.map fun z => V.ref z.1)) := upd_same
    generalize upd H25 W5 (.lst (zq.map fun z => V.ref z.1)) = H26 at s26 e26
    have at26 := at24.mono (s25.trans s26)
    walk_at "go"
    refine .inl ⟨W5, true, false, M, many, start, zq, rfl, ⟨SqL.of e26, fun z m => SqT.of (at26 z m).1, fun z m => (at26 z m).2⟩, okq, m0, by omega, h8, mM, fun H27 s27 => ?_⟩
    walk_at "go"
    rw [decide_eq_true (show V.int (-1) = (fun i j : Int => V.int (i - j)) 0 1 from rfl)]
    exact q H27 (s24.trans (s25.trans (s26.trans s27)))
end
end Z
set_option pp.maxSteps 700
set_option Elab.async false
set_option linter.all false
set_option maxRecDepth 100000
set_option maxHeartbeats 4000000
namespace Z
open Dy
open PySem PySem.Spec PyProof.Rows L2
open C8 (pss_cut tCut)
local macro_rules | `(tactic| walk_at "num") => `(tactic| first | rfl | omega | decide | exact Nat.le_of_lt (small1000 (by simp)) | exact ⟨by omega, by omega⟩ | exact ⟨by omega, by omega, by omega⟩ | exact ⟨by decide, by decide, by decide⟩ | exact Or.inl ⟨by omega, by omega⟩ | exact Or.inr ⟨by omega, by omega⟩)
local macro_rules | `(tactic| walk_at "go") => `(tactic| repeat (first | refine ⟨_, rfl, ?_⟩ | refine ⟨_, _, rfl, rfl, ?_⟩ | refine ⟨_, _, rfl, ?_⟩ | (refine ⟨_, _, rfl, rfl, ?_, ?_⟩; focus walk_at "num") | refine Or.inl ⟨_, rfl, ?_⟩ | refine ⟨_, _, _, _, rfl, rfl, (by assumption), (by rfl), ?_⟩ | refine ⟨_, _, _, _, _, rfl, (by assumption), (by assumption), (by assumption), (by rfl), ?_⟩ | refine ⟨rfl, ?_⟩ | (refine And.intro ?_ ?_; focus walk_at "num")))
abbrev s_law : Stmt := topS 44
abbrev N_law : List Str := ["_law_script", "_law_shape", "_law_many", "_law_size", "_law_whole_here", "_law_bounds_here", "_law_start_here", "_law_days", "_law_step", "_law_day", "_law_later", "_law_more", "_law_at", "_law_turn", "_law_bound_here", "_law_others", "_law_k", "_law_found"]
abbrev P_law : List Str := ["_law_script"]
theorem sc_law : FnScope N_law P_law (defScope s_law) := ⟨rfl, rfl, rfl, by decide +kernel, rfl, by decide +kernel, by decide +kernel⟩
theorem dep_one (b : Bool) (n : List Int) : (intsD b n).depth = 1 := by
  cases b
  · show PyData.depthAll (n.map PyData.int) + 1 = 1
    rw [dep_ints]
  · show PyData.depthAll (n.map PyData.int) + 1 = 1
    rw [dep_ints]
theorem sh_days (xs : List Int) : SeqAt.shaped (.tuple [.str (Str.ofString "days"), intsD false xs]) = true := by
  have hz : PyData.strOk (Str.ofString "days") = true := by decide +kernel
  have hl := SeqAt.canLay_of_shaped (shaped_ints false xs)
  show (PyData.canLayAll0 [.str (Str.ofString "days"), intsD false xs] && decide (PyData.depthAll [.str (Str.ofString "days"), intsD false xs] + 1 ≤ 64)) = true
  simp only [PyData.canLayAll0, PyData.depthAll, dep_one, hl]
  simp [PyData.canLay0, PyData.depth, hz]
theorem dp_days {K : PySem.W.Frag} {H : Hp} {t T : Addr} {xs : List Int} (h : H t = some (.tup [.str (Str.ofString "days"), .ref T])) (hT : H T = some (.tup (xs.map V.int))) : Dp K H (.ref t) (.tuple [.str (Str.ofString "days"), intsD false xs]) := .tup (SqT.of h) (.cons (.str _) (.cons (dp_ints (b := false) (SqT.of hT)) .nil))
theorem dr_at {n k : Nat} {ds : List Int} (h : Dr n ds) (hk : k < n) : 0 ≤ ds.getD k 0 ∧ ds.getD k 0 < 1000000 := by
  have hl : k < ds.length := by rw [h.1]; exact hk
  rw [List.getD_eq_getElem?_getD, List.getElem?_eq_getElem hl]
  exact h.2 _ (List.getElem_mem hl)
section
variable {P : Program} {w : World} {K : PySem.W.Frag} {mg : Str → Option Value} {base : Heap} {f C CD CE : Addr} {fd : FuncData}
def spLaw (K : PySem.W.Frag) : Sp := fun vs H Q _ => ∃ (a : Addr) (ns : List Int), vs = [.ref a] ∧ SqL K H a (ns.map V.int) ∧ ns.length ≤ 63 ∧ ∀ H', Q (.bl true) H'
theorem ok_law (F : FnP K "law" s_law f fd) (m_int : mg "int" = none) (m_len : mg "len" = none) (m_tuple : mg "tuple" = none) (m_range : mg "range" = none)
    (c_draws : Cal P w K mg base 1 "_law_draws" spDraws) (c_cell : Cal P w K mg base 1 "_law_cell" (spCell K)) (c_bounds : Cal P w K mg base 4 "_law_bounds" (spBounds K)) (c_wide : Cal P w K mg base 1 "_law_wide" spWide) (c_start : Cal P w K mg base 1 "_law_start" spStart) (c_plan : Cal P w K mg base 9 "_law_plan" (spPlanL K)) (c_refusals_hold : Cal P w K mg base 10 "_law_refusals_hold" spRefH) (c_period : Cal P w K mg base 4 "_law_period" spPeriodL) (c_not_earlier : Cal P w K mg base 1 "_law_not_earlier" spNotE) (c_bound : Cal P w K mg base 3 "_law_bound" (spBound K)) (c_turned_from : Cal P w K mg base 7 "_law_turned_from" (spTurned C K))
    (c_plan_days : CalX P w K mg base 8 "plan_days" (spPlanE C CE K)) : FnOk P w K mg base CX0 11 f fd P_law (spLaw K) := by
  refine F.ok sc_law (fun vs H Q E h => ?_) (fun cdv A outer s H vs Q E hr h => ?_)
  · obtain ⟨a, ns, rfl, _⟩ := h
    rfl
  · obtain ⟨a, ns, rfl, hS, hl, q⟩ := h
    refine ⟨_, PSs.nox (pss_cons (ps_set (i := 1) sc_law.nd rfl (by first | exact .inl rfl | exact .inr rfl) (pe_cl c_draws hr (by decide) (by rfl) (pa_cons (pe_cl c_cell hr (by decide) (by rfl) (pa_cons (pv 0) (pa_cons pe_int pa_nil))) (pa_cons pe_int pa_nil))))
      (pss_cons (ps_set (i := 2) sc_law.nd rfl (by first | exact .inl rfl | exact .inr rfl) (pe_op op_add pe_int (pe_op op_mod (pe_callTy call_int1 (by rfl) m_int (by decide +kernel) (pa_cons (pe_ix ix_list (pv 1) pe_int (fun _ _ => rfl)) pa_nil)) pe_int)))
      (pss_cons (ps_set (i := 3) sc_law.nd rfl (by first | exact .inl rfl | exact .inr rfl) (pe_op op_mod (pe_callTy call_int1 (by rfl) m_int (by decide +kernel) (pa_cons (pe_ix ix_list (pv 1) pe_int (fun _ _ => rfl)) pa_nil)) pe_int))
      (pss_cut (ps_if (pt_cmpR op_eq (pe_op op_mod (pe_callTy call_int1 (by rfl) m_int (by decide +kernel) (pa_cons (pe_ix ix_list (pv 1) pe_int (fun _ _ => rfl)) pa_nil)) pe_int) pe_int (nomark _)) (pss_cons (ps_set (i := 2) sc_law.nd rfl (by first | exact .inl rfl | exact .inr rfl) (pe_op op_add pe_int (pe_op op_mod (pe_callTy call_int1 (by rfl) m_int (by decide +kernel) (pa_cons (pe_ix ix_list (pv 1) pe_int (fun _ _ => rfl)) pa_nil)) pe_int)))
      (pss_one (ps_set (i := 3) sc_law.nd rfl (by first | exact .inl rfl | exact .inr rfl) (pe_op op_mod (pe_callTy call_int1 (by rfl) m_int (by decide +kernel) (pa_cons (pe_ix ix_list (pv 1) pe_int (fun _ _ => rfl)) pa_nil)) pe_int)))) pss_nil)
      (pss_cons (ps_set (i := 4) sc_law.nd rfl (by first | exact .inl rfl | exact .inr rfl) (pe_cl c_wide hr (by decide) (by rfl) (pa_cons (pe_ix ix_list (pv 1) pe_int (fun _ _ => rfl)) pa_nil)))
      (pss_cons (ps_set (i := 5) sc_law.nd rfl (by first | exact .inl rfl | exact .inr rfl) (pe_cl c_bounds hr (by decide) (by rfl) (pa_cons (pv 0) (pa_cons (pv 2) (pa_cons (pv 3) (pa_cons (pv 4) pa_nil))))))
      (pss_cons (ps_set (i := 6) sc_law.nd rfl (by first | exact .inl rfl | exact .inr rfl) (pe_cl c_start hr (by decide) (by rfl) (pa_cons (pe_cl c_cell hr (by decide) (by rfl) (pa_cons (pv 0) (pa_cons pe_int pa_nil))) pa_nil)))
      (pss_cons (ps_set (i := 7) sc_law.nd rfl (by first | exact .inl rfl | exact .inr rfl) (pe_cl c_plan hr (by decide) (by rfl) (pa_cons (pv 2) (pa_cons (pv 5) (pa_cons (pv 6) pa_nil)))))
      (pss_cons (ps_if (PW.pt (pw_or (pt_cmpR op_isN (pv 7) pe_non (nomark _)) (pw_or1 (pt_not (pt_val (pe_cl c_refusals_hold hr (by decide) (by rfl) (pa_cons (pv 2) (pa_cons (pv 5) (pa_cons (pv 6) (pa_cons (pe_slice sl_list (pv 1) (po_some pe_int) po_none) pa_nil)))))))))) (pss_one (ps_ret pe_bl)) pss_nil)
      (pss_cons (ps_set (i := 8) sc_law.nd rfl (by first | exact .inl rfl | exact .inr rfl) (pe_op op_mul (pe_cl c_period hr (by decide) (by rfl) (pa_cons (pv 5) pa_nil)) (pe_op op_sub (pe_op op_mod (pe_callTy call_int1 (by rfl) m_int (by decide +kernel) (pa_cons (pe_op op_fdiv (pe_callTy call_int1 (by rfl) m_int (by decide +kernel) (pa_cons (pe_cl c_cell hr (by decide) (by rfl) (pa_cons (pv 0) (pa_cons pe_int pa_nil))) pa_nil)) pe_int) pa_nil)) pe_int) pe_int)))
      (pss_cons (ps_if (pt_cmpR (op_neD hr.units) (pe_cl c_plan hr (by decide) (by rfl) (pa_cons (pv 2) (pa_cons (pv 5) (pa_cons (pe_op op_add (pv 6) (pv 8)) pa_nil)))) (pe_lc (own := [("_law_day", 9)]) (g := (gName 9)) (tt := tYes) (by rfl) sc_law.nd (pi_list (pv 7)) (blkOk_by (own := [("_law_day", 9)]) (N := N_law) (sc := defScope s_law) (by decide +kernel)) (fun _ _ _ _ _ => (pg_name (i := 9) sc_law.nd rfl (by first | exact .inl rfl | exact .inr rfl))) (fun _ _ _ _ _ => pts_nil) (fun _ _ _ _ _ => (pe_op op_add (pv 9) (pv 8)))) (nomark _)) (pss_one (ps_ret pe_bl)) pss_nil)
      (pss_cons (ps_set (i := 10) sc_law.nd rfl (by first | exact .inl rfl | exact .inr rfl) (pe_cl c_plan hr (by decide) (by rfl) (pa_cons (pv 2) (pa_cons (pv 5) (pa_cons (pe_op op_add (pv 6) (pe_op op_mod (pe_callTy call_int1 (by rfl) m_int (by decide +kernel) (pa_cons (pe_ix ix_list (pv 1) pe_int (fun _ _ => rfl)) pa_nil)) pe_int)) pa_nil)))))
      (pss_cut (ps_if (PW.pt (pw_or (pt_not (pt_val (pe_cl c_not_earlier hr (by decide) (by rfl) (pa_cons (pv 10) (pa_cons (pv 7) pa_nil))))) (pw_or1 (PW.pt (pw_and (pt_cmpR (op_eqD hr.units) (pv 10) (pe_lst pa_nil) (nomark _)) (pw_and1 (pt_cmpR op_gt (pe_callB call_len_seq (by rfl) m_len PySem.boot_len (pa_cons (pv 7) pa_nil)) pe_int (nomark _)))))))) (pss_one (ps_ret pe_bl)) pss_nil)
      (pss_cons (ps_set (i := 11) sc_law.nd rfl (by first | exact .inl rfl | exact .inr rfl) (pe_cl c_bound hr (by decide) (by rfl) (pa_cons (pe_op op_add (pe_cl c_cell hr (by decide) (by rfl) (pa_cons (pv 0) (pa_cons (pe_op op_add pe_int (pv 3)) pa_nil))) pe_int) (pa_cons (pv 2) (pa_cons (pv 4) pa_nil)))))
      (pss_cons (ps_set (i := 12) sc_law.nd rfl (by first | exact .inl rfl | exact .inr rfl) (pe_op op_mod (pe_callTy call_int1 (by rfl) m_int (by decide +kernel) (pa_cons (pe_ix ix_list (pv 1) pe_int (fun _ _ => rfl)) pa_nil)) (pe_op op_add (pv 3) pe_int)))
      (pss_cons (ps_if (pt_not (pt_val (pe_cl c_not_earlier hr (by decide) (by rfl) (pa_cons (pe_cl c_plan hr (by decide) (by rfl) (pa_cons (pv 2) (pa_cons (pe_op op_cat (pe_op op_cat (pe_slice sl_list (pv 5) po_none (po_some (pv 12))) (pe_lst (pa_cons (pv 11) pa_nil))) (pe_slice sl_list (pv 5) (po_some (pv 12)) po_none)) (pa_cons (pv 6) pa_nil)))) (pa_cons (pv 7) pa_nil))))) (pss_one (ps_ret pe_bl)) pss_nil)
      (pss_cons (ps_if (PW.pt (pw_or (pt_cmpR (op_neD hr.units) (pe_cl c_plan hr (by decide) (by rfl) (pa_cons (pv 2) (pa_cons (pe_revL (pv 5)) (pa_cons (pv 6) pa_nil)))) (pv 7) (nomark _)) (pw_or1 (pt_cmpR (op_neD hr.units) (pe_cl c_plan hr (by decide) (by rfl) (pa_cons (pv 2) (pa_cons (pe_op op_cat (pe_slice sl_list (pv 5) (po_some (pv 12)) po_none) (pe_slice sl_list (pv 5) po_none (po_some (pv 12)))) (pa_cons (pv 6) pa_nil)))) (pv 7) (nomark _))))) (pss_one (ps_ret pe_bl)) pss_nil)
      (pss_cons (ps_set (i := 13) sc_law.nd rfl (by first | exact .inl rfl | exact .inr rfl) (pe_op op_mod (pe_callTy call_int1 (by rfl) m_int (by decide +kernel) (pa_cons (pe_ix ix_list (pv 1) pe_int (fun _ _ => rfl)) pa_nil)) (pv 2)))
      (pss_cons (ps_setLc (i := 15) (own := [("_law_bound_here", 14)]) (g := (gName 14)) (tt := tYes) (by rfl) sc_law.nd rfl rfl (sw_true rfl rfl rfl (by decide +kernel)) (pi_list (pv 5)) (blkOk_by (own := [("_law_bound_here", 14)]) (N := N_law) (sc := defScope s_law) (by decide +kernel)) (fun _ _ _ _ _ => (pg_name (i := 14) sc_law.nd rfl (by first | exact .inl rfl | exact .inr rfl))) (fun _ _ _ _ _ => pts_nil) (fun _ _ _ _ _ => (pe_tup (pa_cons (pe_ix (ix_tup_K (K := K) rfl) (pv 14) pe_int (fun _ _ => rfl)) (pa_cons (pe_op op_mod (pe_callTy call_int1 (by rfl) m_int (by decide +kernel) (pa_cons (pe_op op_add (pe_ix (ix_tup_K (K := K) rfl) (pv 14) pe_int (fun _ _ => rfl)) (pv 13)) pa_nil)) (pv 2)) (pa_cons (pe_op op_mod (pe_callTy call_int1 (by rfl) m_int (by decide +kernel) (pa_cons (pe_op op_add (pe_ix (ix_tup_K (K := K) rfl) (pv 14) pe_int (fun _ _ => rfl)) (pv 13)) pa_nil)) (pv 2)) (pa_cons (pe_ix (ix_tup_K (K := K) rfl) (pv 14) pe_int (fun _ _ => rfl)) pa_nil)))))))
      (pss_cons (ps_if (pt_cmpR (op_neD hr.units) (pe_cl c_plan hr (by decide) (by rfl) (pa_cons (pv 2) (pa_cons (pv 15) (pa_cons (pv 6) pa_nil)))) (pe_lc (own := [("_law_k", 16)]) (g := (gName 16)) (by rfl) sc_law.nd (pi_range1 (by rfl) m_range (pa_cons (pv 2) pa_nil)) (blkOk_by (own := [("_law_k", 16)]) (N := N_law) (sc := defScope s_law) (by decide +kernel)) (fun _ _ _ _ _ => (pg_name (i := 16) sc_law.nd rfl (by first | exact .inl rfl | exact .inr rfl))) (fun _ _ _ _ _ => (pts_one (pt_cmpR op_gt (pe_callB (call_len_seq_K (K := K) rfl) (by rfl) m_len PySem.boot_len (pa_cons (pv 7) pa_nil)) pe_int (nomark _)))) (fun _ _ _ _ _ => (pe_ix (ix_list_K (K := K) rfl) (pv 7) (pe_op op_mod (pe_callTy call_int1 (by rfl) m_int (by decide +kernel) (pa_cons (pe_op op_sub (pv 16) (pv 13)) pa_nil)) (pv 2)) (fun _ _ => rfl)))) (nomark _)) (pss_one (ps_ret pe_bl)) pss_nil)
      (pss_cut (ps_set (i := 17) sc_law.nd rfl (by first | exact .inl rfl | exact .inr rfl) (pe_clE c_plan_days (fun _ => passS0) hr (by decide) (by rfl) (pa_cons (pv 2) (pa_cons (pe_cl c_turned_from hr (by decide) (by rfl) (pa_cons (pv 5) pa_nil)) (pa_cons (pv 6) pa_nil)))))
      (pss_cut (ps_if (PW.pt (pw_or (PW.pt (pw_and (pt_cmpR op_gt (pe_callB call_len_seq (by rfl) m_len PySem.boot_len (pa_cons (pv 7) pa_nil)) pe_int (nomark _)) (pw_and1 (pt_cmpR (op_neD hr.units) (pv 17) (pe_tup (pa_cons pe_str (pa_cons (pe_callTy call_tuple_of (by rfl) m_tuple (by decide +kernel) (pa_cons (pv 7) pa_nil)) pa_nil))) (nomark _))))) (pw_or1 (PW.pt (pw_and (pt_cmpR op_eq (pe_callB call_len_seq (by rfl) m_len PySem.boot_len (pa_cons (pv 7) pa_nil)) pe_int (nomark _)) (pw_and1 (pt_cmpR op_ne (pe_ix ix_tup (pv 17) pe_int (fun _ _ => rfl)) pe_str (nomark _)))))))) (pss_one (ps_ret pe_bl)) pss_nil)
      (pss_one (ps_ret (pe_and (pe_cmpR (op_eqD hr.units) (pe_cl c_plan hr (by decide) (by rfl) (pa_cons (pv 2) (pa_cons (pe_lst pa_nil) (pa_cons (pv 6) pa_nil)))) (pe_lc (own := [("_law_k", 16)]) (g := (gName 16)) (tt := tYes) (by rfl) sc_law.nd (pi_range1 (by rfl) m_range (pa_cons (pv 2) pa_nil)) (blkOk_by (own := [("_law_k", 16)]) (N := N_law) (sc := defScope s_law) (by decide +kernel)) (fun _ _ _ _ _ => (pg_name (i := 16) sc_law.nd rfl (by first | exact .inl rfl | exact .inr rfl))) (fun _ _ _ _ _ => pts_nil) (fun _ _ _ _ _ => (pv 6))) (nomark _)) (pe_one (pe_cmpR (op_eqD hr.units) (pe_cl c_plan hr (by decide) (by rfl) (pa_cons (pv 2) (pa_cons (pv 5) (pa_cons (pv 6) pa_nil)))) (pv 7) (nomark _)))))))))))))))))))))))))))), ?_⟩
    walk_at "go"
    refine ⟨a, ns, 0, rfl, hS, ?_⟩
    walk_at "go"
    intro D ds nD hd
    have sD := same_new (o := .lst (ds.map V.int)) nD
    have eD := upd_same (H := H) (a := D) (o := .lst (ds.map V.int))
    generalize upd H D (.lst (ds.map V.int)) = H1 at sD eD ⊢
    have d_ : ∀ i, i < 12 → 0 ≤ ds.getD i 0 ∧ ds.getD i 0 < 1000000 := fun i hi => dr_at hd hi
    have d0 := d_ 0 (by decide)
    have d1 := d_ 1 (by decide)
    have d2 := d_ 2 (by decide)
    have d8 := d_ 8 (by decide)
    have d9 := d_ 9 (by decide)
    have d10 := d_ 10 (by decide)
    have ld : ds.length = 12 := hd.1
    have rd : ∀ {J : Hp} {Q : VK} (i : Nat), i < 12 → Same H1 J → Q (.int (ds.getD i 0)) J → rIxL K (.ref D) (.int (i : Int)) J Q := fun {J Q} i hi s q => ⟨D, _, _, _, rfl, rfl, SqL.of (s _ _ eD), atI_nat (by rw [List.getElem?_map, List.getD_eq_getElem?_getD, List.getElem?_eq_getElem (by omega)]; rfl), q⟩
    walk_at "go"
    refine rd 0 (by decide) (Same.refl _) ?_
    walk_at "go"
    refine rd 1 (by decide) (Same.refl _) ?_
    walk_at "go"
    refine ⟨fun σ' H' => H' = H1 ∧ ∃ (many n : Nat), 0 < many ∧ many ≤ 8 ∧ n ≤ 14 ∧ σ' = [some (.ref a), some (.ref D), some (.int (many : Int)), some (.int (n : Int)), none, none, none, none, none, none, none, none, none, none, none, none, none, none], ?_, ?_⟩
    · walk_at "go"
      refine rd 2 (by decide) (Same.refl _) ?_
      walk_at "go"
      refine ite2 (fun e => ?_) (fun e => ?_)
      · walk_at "go"
        refine rd 0 (by decide) (Same.refl _) ?_
        walk_at "go"
        refine rd 1 (by decide) (Same.refl _) ?_
        walk_at "go"
        refine ⟨(5 + ds.getD 0 0 % 4).toNat, (ds.getD 1 0 % 15).toNat, by omega, by omega, by omega, ?_⟩
        rw [Int.toNat_of_nonneg (by omega), Int.toNat_of_nonneg (by omega)]
        rfl
      · refine ⟨rfl, (1 + ds.getD 0 0 % 4).toNat, (ds.getD 1 0 % 7).toNat, by omega, by omega, by omega, ?_⟩
        rw [Int.toNat_of_nonneg (by omega), Int.toNat_of_nonneg (by omega)]
        rfl
    rintro σ' H' ⟨rfl, many, n, m0, m8, n14, rfl⟩
    walk_at "go"
    refine rd 2 (by decide) (Same.refl _) ?_
    walk_at "go"
    intro wh M H2 s2 hW
    have hSS : ∀ {J : Hp}, Same H' J → SqL K J a (ns.map V.int) := fun {J} s => (sD.trans s).seq hS
    walk_at "go"
    refine ⟨a, ns, M, many, n, wh, rfl, hSS s2, m0, by omega, hW, fun l zs H3 s3 _ hZ lz => ?_⟩
    have s13 := s2.trans s3
    walk_at "go"
    refine ⟨a, ns, 1, rfl, hSS s13, ?_⟩
    walk_at "go"
    intro st
    obtain ⟨hW1, hM0, hM⟩ := id hW
    walk_at "go"
    refine ⟨l, M, many, st, zs, rfl, hZ, hM0, hM, m8, by omega, fun X xs H4 s4 _ eX pl => ?_⟩
    have lxs : xs.length ≤ 8 := by
      rcases pl.len with e | e
      · rw [e]
        exact Nat.zero_le _
      · omega
    dsimp only [List.set]
    walk_at "go"
    refine ⟨D, _, rfl, SqL.of ((s13.trans s4) _ _ eD), ?_⟩
    intro U nU
    have cU : cutV (ds.map V.int) (some 3) none = (ds.drop 3).map V.int := by
      rw [show (some (3 : Int)) = some ((3 : Nat) : Int) from rfl, cut_hi (by rw [List.length_map]; omega), List.map_drop]
    rw [cU]
    have sU := same_new (o := .lst ((ds.drop 3).map V.int)) nU
    have eU : (upd H4 U (.lst ((ds.drop 3).map V.int))) U = some (.lst ((ds.drop 3).map V.int)) := upd_same
    generalize upd H4 U (.lst ((ds.drop 3).map V.int)) = H5 at sU eU
    walk_at "go"
    have s35 := s4.trans sU
    refine ⟨l, U, M, many, st, zs, ds.drop 3, rfl, hZ.mono s35, hM0, hM, m0, m8, by omega, eU, by rw [List.length_drop]; omega, fun k hk => ?_, fun H6 s6 => ?_⟩
    · rw [List.length_drop] at hk
      rw [List.getD_eq_getElem?_getD, List.getElem?_drop, ← List.getD_eq_getElem?_getD]
      exact d_ (3 + k) (by omega)
    have sB : Same H' H6 := s13.trans (s35.trans s6)
    have hZ6 := hZ.mono (s35.trans s6)
    have eX6 := (sU.trans s6) _ _ eX
    have hSB : ∀ {J : Hp}, Same H6 J → SqL K J a (ns.map V.int) := fun {J} s => hSS (sB.trans s)
    have rdB : ∀ {J : Hp} {Q : VK} (i : Nat), i < 12 → Same H6 J → Q (.int (ds.getD i 0)) J → rIxL K (.ref D) (.int (i : Int)) J Q := fun {J Q} i hi s q => rd i hi (sB.trans s) q
    clear rd hSS s13 s35 sU eU eX hZ s2 s3 s4 s6 sB eD sD hS cU
    walk_at "go"
    refine ⟨l, M, many, zs, rfl, hZ6, hM, hM0, fun Pd per => ?_⟩
    have fok := hZ6.fs per
    walk_at "go"
    refine ⟨a, ns, 1, rfl, hSB (Same.refl _), ?_⟩
    walk_at "go"
    dsimp only [List.set]
    generalize ns.getD 1 0 / 4 % 2001 - 1000 = m
    generalize eS : (Pd : Int) * m = stp
    walk_at "go"
    refine ⟨l, M, many, _, zs, rfl, hZ6, hM0, hM, m8, by omega, fun Y ys H7 s7 _ eY pl2 => ?_⟩
    have e2 : ys = xs.map fun d => d + stp := by
      rw [← eS]
      exact pl.shift fok (by rw [eS]; exact pl2)
    walk_at "go"
    refine ⟨⟨_, SqL.of (s7 _ _ eX6)⟩, fun G nG => ?_⟩
    refine lc_lst (SqL.of (s7 _ _ eX6)) (fun d => d + stp) (by omega) nG (fun _ => rfl) (fun x J Q' _ _ q' => ?_) (fun H8 s8 eG => ?_)
    · walk_at "go"
      exact q' J (Same.refl _)
    refine ⟨_, _, dp_ints (b := true) (SqL.of (s8 _ _ eY)), dp_ints (b := true) (SqL.of eG), shaped_ints _ _, shaped_ints _ _, ?_⟩
    rw [eqv_ints, decide_eq_true e2]
    walk_at "go"
    have s68 := s7.trans s8
    clear e2 pl2 eY eG s7 s8 nG ys eS
    refine rdB 8 (by decide) s68 ?_
    walk_at "go"
    refine ⟨l, M, many, _, zs, rfl, hZ6.mono s68, hM0, hM, m8, by omega, fun Z_ ys H9 s9 _ eY pl2 => ?_⟩
    have ne := PlL.later m0 (by omega) pl pl2
    have s69 := s68.trans s9
    walk_at "go"
    dsimp only [List.set]
    have lys : ys.length ≤ 8 := by
      rcases pl2.len with e | e
      · rw [e]
        exact Nat.zero_le _
      · omega
    refine ⟨fun σ' J => Same H6 J ∧ σ' = [some (.ref a), some (.ref D), some (.int (many : Int)), some (.int (n : Int)), some (.int wh), some (.ref l), some (.int st), some (.ref X), some (.int stp), none, some (.ref Z_), none, none, none, none, none, none, none], ?_, ?_⟩
    · walk_at "go"
      refine ⟨Z_, X, ys, xs, rfl, eY, s69 _ _ eX6, ne.1, by omega, fun H10 s10 => ?_⟩
      walk_at "go"
      intro B nB
      have sB := same_new (o := .lst []) nB
      have s6B := s69.trans (s10.trans sB)
      refine ⟨_, _, dp_ints (b := true) (SqL.of ((s10.trans sB) _ _ eY)), dp_ints (b := true) (ns := []) (SqL.of upd_same), shaped_ints _ _, shaped_ints _ _, ?_⟩
      rw [eqv_ints]
      by_cases y0 : ys = []
      · rw [decide_eq_true y0]
        walk_at "go"
        refine ⟨X, _, rfl, .inl (SqL.of (s6B _ _ eX6)), ?_⟩
        rw [ne.2 y0]
        walk_at "go"
        rfl
      · rw [decide_eq_false y0]
        walk_at "go"
        rfl
    clear ne pl2 eY s9 s68 s69 lys ys
    rintro σ' H7 ⟨s7, rfl⟩
    walk_at "go"
    refine ⟨a, ns, 2 + n, rfl, hSB s7, ?_⟩
    walk_at "go"
    refine ⟨M, many, _, wh, rfl, m0, hW, fun t b H8 s8 bt bo _ => ?_⟩
    walk_at "go"
    refine rdB 9 (by decide) (s7.trans s8) ?_
    walk_at "go"
    dsimp only [List.set]
    obtain ⟨k, ek, hk⟩ := modN (ds.getD 9 0) (Nat.succ_pos n)
    rw [show ds.getD 9 0 % ((n : Int) + 1) = (k : Int) from ek]
    clear ek
    have s68 := s7.trans s8
    have hZ8 := hZ6.mono s68
    walk_at "go"
    refine ⟨l, _, rfl, SqL.of hZ8.sq, ?_⟩
    intro U1 nU1
    have c1 : cutV (zs.map fun z => V.ref z.1) none (some (k : Int)) = (zs.take k).map fun z => V.ref z.1 := by rw [cut_lo (by rw [List.length_map]; omega), List.map_take]
    have c2 : cutV (zs.map fun z => V.ref z.1) (some (k : Int)) none = (zs.drop k).map fun z => V.ref z.1 := by rw [cut_hi (by rw [List.length_map]; omega), List.map_drop]
    have lt : ∀ j, ((zs.take j).map fun z => V.ref z.1).length ≤ 14 := fun j => by rw [List.length_map, List.length_take]; omega
    have ld' : ∀ j, ((zs.drop j).map fun z => V.ref z.1).length ≤ 14 := fun j => by rw [List.length_map, List.length_drop]; omega
    rw [c1]
    have s10 := same_new (o := .lst ((zs.take k).map fun z => V.ref z.1)) nU1
    have e1 : (upd H8 U1 (.lst ((zs.take k).map fun z => V.ref z.1))) U1 = some (.lst ((zs.take k).map fun z => V.ref z.1)) := upd_same
    generalize upd H8 U1 (.lst ((zs.take k).map fun z => V.ref z.1)) = H10 at s10 e1
    walk_at "go"
    intro U2 nU2
    generalize eH_ : upd H10 U2 _ = H11
    have s11 : Same H10 H11 := by rw [← eH_]; exact same_new nU2
    have eU2 : H11 U2 = some (.lst [.ref t]) := by rw [← eH_]; exact upd_same
    clear eH_
    walk_at "go"
    refine ⟨U1, U2, _, _, rfl, rfl, s11 _ _ e1, eU2, Nat.le_trans (Nat.add_le_add (lt k) (Nat.le_refl _)) (show 14 + 1 ≤ sizeLine by decide), fun U3 nU3 => ?_⟩
    have s12 := same_new (o := .lst (((zs.take k).map fun z => V.ref z.1) ++ [.ref t])) nU3
    have e3 : (upd H11 U3 (.lst (((zs.take k).map fun z => V.ref z.1) ++ [.ref t]))) U3 = some (.lst (((zs.take k).map fun z => V.ref z.1) ++ [.ref t])) := upd_same
    generalize upd H11 U3 (.lst (((zs.take k).map fun z => V.ref z.1) ++ [.ref t])) = H12 at s12 e3
    walk_at "go"
    have s812 := s10.trans (s11.trans s12)
    refine ⟨l, _, rfl, SqL.of (s812 _ _ hZ8.sq), ?_⟩
    walk_at "go"
    intro U4 nU4
    rw [c2]
    have s13 := same_new (o := .lst ((zs.drop k).map fun z => V.ref z.1)) nU4
    have e4 : (upd H12 U4 (.lst ((zs.drop k).map fun z => V.ref z.1))) U4 = some (.lst ((zs.drop k).map fun z => V.ref z.1)) := upd_same
    generalize upd H12 U4 (.lst ((zs.drop k).map fun z => V.ref z.1)) = H13 at s13 e4
    walk_at "go"
    refine ⟨U3, U4, _, _, rfl, rfl, s13 _ _ e3, e4, Nat.le_trans (Nat.add_le_add (show _ ≤ 15 by rw [List.length_append]; exact Nat.add_le_add (lt k) (Nat.le_refl _)) (ld' k)) (by decide), fun W nW => ?_⟩
    obtain ⟨wz, hwz⟩ : ∃ wz : List (Addr × Lb), wz = zs.take k ++ (t, b) :: zs.drop k := ⟨_, rfl⟩
    have ew : ((zs.take k).map fun z => V.ref z.1) ++ [.ref t] ++ ((zs.drop k).map fun z => V.ref z.1) = wz.map fun z => V.ref z.1 := by
      rw [hwz, List.map_append, List.map_cons, List.append_assoc]
      rfl
    rw [ew]
    have lw : wz.length = n + 1 := by
      rw [hwz, List.length_append, List.length_cons, List.length_take, List.length_drop]
      omega
    have s14 := same_new (o := .lst (wz.map fun z => V.ref z.1)) nW
    have eW : (upd H13 W (.lst (wz.map fun z => V.ref z.1))) W = some (.lst (wz.map fun z => V.ref z.1)) := upd_same
    generalize upd H13 W (.lst (wz.map fun z => V.ref z.1)) = H14 at s14 eW
    have s814 := s812.trans (s13.trans s14)
    have hZW : LbL H14 M many W wz := hZ8.of_ s814 eW fun z m => by
      rw [hwz] at m
      rcases List.mem_append.mp m with m | m
      · exact .inl (List.mem_of_mem_take m)
      · rcases List.mem_cons.mp m with rfl | m
        · exact .inr ⟨bt.mono s814, bo⟩
        · exact .inl (List.mem_of_mem_drop m)
    have sub : ∀ z ∈ zs, z ∈ wz := fun z m => by
      rw [hwz]
      rw [← List.take_append_drop k zs] at m
      rcases List.mem_append.mp m with m | m
      · exact List.mem_append_left _ m
      · exact List.mem_append_right _ (List.mem_cons_of_mem _ m)
    have s614 := s68.trans s814
    clear s10 s11 s12 s13 s14 s812 e1 e3 e4 eU2 ew
    walk_at "go"
    refine ⟨W, M, many, st, wz, rfl, hZW, hM0, hM, m8, by omega, fun Y ys H15 s15 _ eY pl2 => ?_⟩
    have ne := pl.more m0 sub pl2
    have lys : ys.length ≤ 8 := by
      rcases pl2.len with e | e
      · rw [e]
        exact Nat.zero_le _
      · omega
    walk_at "go"
    refine ⟨Y, X, ys, xs, rfl, eY, (s614.trans s15) _ _ eX6, ne, by omega, fun H16 s16 => ?_⟩
    have s616 := s614.trans (s15.trans s16)
    clear eY pl2 ne lys s15 s16 s614 s814 hZW sub lw hwz bt bo eW hZ8 s8 s68 s7
    walk_at "go"
    have hZ16 := hZ6.mono s616
    refine ⟨l, _, rfl, SqL.of hZ16.sq, fun R nR => ?_⟩
    rw [← List.map_reverse]
    have sR := same_new (o := .lst (zs.reverse.map fun z => V.ref z.1)) nR
    have eR : (upd H16 R (.lst (zs.reverse.map fun z => V.ref z.1))) R = some (.lst (zs.reverse.map fun z => V.ref z.1)) := upd_same
    generalize upd H16 R (.lst (zs.reverse.map fun z => V.ref z.1)) = H17 at sR eR
    have hZR : LbL H17 M many R zs.reverse := hZ16.of_ sR eR fun z m => .inl (List.mem_reverse.mp m)
    walk_at "go"
    refine ⟨R, M, many, st, zs.reverse, rfl, hZR, hM0, hM, m8, by rw [List.length_reverse]; omega, fun Y ys H18 s18 _ eY pl2 => ?_⟩
    have e2 : ys = xs := pl.same pl2 (fun z => List.mem_reverse)
    have s618 := s616.trans (sR.trans s18)
    walk_at "go"
    refine ⟨_, _, dp_ints (b := true) (SqL.of eY), dp_ints (b := true) (SqL.of (s618 _ _ eX6)), shaped_ints _ _, shaped_ints _ _, ?_⟩
    rw [eqv_ints, decide_eq_true e2]
    clear e2 pl2 eY hZR eR sR s18 s616 hZ16
    walk_at "go"
    have hZ18 := hZ6.mono s618
    refine ⟨l, _, rfl, SqL.of hZ18.sq, ?_⟩
    intro U1 nU1
    rw [c2]
    have s10 := same_new (o := .lst ((zs.drop k).map fun z => V.ref z.1)) nU1
    have e1 : (upd H18 U1 (.lst ((zs.drop k).map fun z => V.ref z.1))) U1 = some (.lst ((zs.drop k).map fun z => V.ref z.1)) := upd_same
    generalize upd H18 U1 (.lst ((zs.drop k).map fun z => V.ref z.1)) = H19 at s10 e1
    walk_at "go"
    refine ⟨l, _, rfl, SqL.of (s10 _ _ hZ18.sq), ?_⟩
    walk_at "go"
    intro U4 nU4
    rw [c1]
    have s13 := same_new (o := .lst ((zs.take k).map fun z => V.ref z.1)) nU4
    have e4 : (upd H19 U4 (.lst ((zs.take k).map fun z => V.ref z.1))) U4 = some (.lst ((zs.take k).map fun z => V.ref z.1)) := upd_same
    generalize upd H19 U4 (.lst ((zs.take k).map fun z => V.ref z.1)) = H20 at s13 e4
    walk_at "go"
    refine ⟨U1, U4, _, _, rfl, rfl, s13 _ _ e1, e4, Nat.le_trans (Nat.add_le_add (ld' k) (lt k)) (by decide), fun W2 nW2 => ?_⟩
    rw [← List.map_append]
    have s14 := same_new (o := .lst ((zs.drop k ++ zs.take k).map fun z => V.ref z.1)) nW2
    have eW : (upd H20 W2 (.lst ((zs.drop k ++ zs.take k).map fun z => V.ref z.1))) W2 = some (.lst ((zs.drop k ++ zs.take k).map fun z => V.ref z.1)) := upd_same
    generalize upd H20 W2 (.lst ((zs.drop k ++ zs.take k).map fun z => V.ref z.1)) = H21 at s14 eW
    have s1821 := s10.trans (s13.trans s14)
    have mem2 : ∀ z, z ∈ zs.drop k ++ zs.take k ↔ z ∈ zs := fun z => by
      conv => rhs; rw [← List.take_append_drop k zs]
      rw [List.mem_append, List.mem_append]
      exact Or.comm
    have hZW : LbL H21 M many W2 (zs.drop k ++ zs.take k) := hZ18.of_ s1821 eW fun z m => .inl ((mem2 z).mp m)
    walk_at "go"
    refine ⟨W2, M, many, st, _, rfl, hZW, hM0, hM, m8, by rw [List.length_append, List.length_drop, List.length_take]; omega, fun Y ys H22 s22 _ eY pl2 => ?_⟩
    have e2 : ys = xs := pl.same pl2 mem2
    have s622 := s618.trans (s1821.trans s22)
    walk_at "go"
    refine ⟨_, _, dp_ints (b := true) (SqL.of eY), dp_ints (b := true) (SqL.of (s622 _ _ eX6)), shaped_ints _ _, shaped_ints _ _, ?_⟩
    rw [eqv_ints, decide_eq_true e2]
    clear e2 pl2 eY hZW eW mem2 s1821 s22 s618 s14 s13 s10 hZ18 e1 e4 lt ld' c1 c2
    walk_at "go"
    refine rdB 10 (by decide) s622 ?_
    walk_at "go"
    dsimp only [List.set]
    obtain ⟨c, ek, hc⟩ := modN (ds.getD 10 0) m0
    rw [show ds.getD 10 0 % (many : Int) = (c : Int) from ek]
    clear ek
    have hZ22 := hZ6.mono s622
    refine ⟨⟨_, SqL.of hZ22.sq⟩, fun O nO => ?_⟩
    refine lc_gen (n := zs.length) (fun k J => Same H22 J ∧ ∃ zt : List (Addr × Lb), LbL J M many O zt ∧ Trn many c zt (zs.take k) ∧ ∀ z ∈ zt, z.2.a ≠ O) ⟨same_new nO, [], ⟨upd_same, fun z m => absurd m (by simp), fun z m => absurd m (by simp)⟩, ⟨rfl, fun k b c h => by simp at h⟩, fun z m => absurd m (by simp)⟩ ?_ ?_ ?_ ?_
    · rintro k J hk ⟨s5, _⟩
      exact ⟨_, .ref zs[k].1, SqL.of (hZ22.mono s5).sq, by rw [List.getElem?_map, List.getElem?_eq_getElem hk]; rfl⟩
    · rintro J ⟨s5, _⟩
      exact ⟨_, SqL.of (hZ22.mono s5).sq, by rw [List.length_map]; exact Nat.le_refl _⟩
    · rintro k J x J' hk ⟨s5, zt, hT, tr, na⟩ ⟨rfl, e⟩
      have hx := e _ (SqL.of (hZ22.mono s5).sq)
      rw [List.getElem?_map, List.getElem?_eq_getElem hk] at hx
      cases hx
      have z1 := (hZ22.mono s5).at_ _ (List.getElem_mem hk)
      have z0 := (hZ22.at_ _ (List.getElem_mem hk)).es
      have o1 := hZ6.ok _ (List.getElem_mem hk)
      have tk : zs.take (k + 1) = zs.take k ++ [zs[k]] := by
        rw [List.take_succ, List.getElem?_eq_getElem hk]
        rfl
      generalize zs[k] = y at z1 z0 o1 tk
      obtain ⟨ya, yb⟩ := y
      dsimp only at z1 z0 o1
      have hb1 : SqT K J' ya (lbV yb) := SqT.of z1.at_
      have lzt : zt.length = k := by rw [tr.len, List.length_take]; omega
      walk_at "go"
      intro t2 nt2
      dsimp only
      rw [tn_add, tn_add]
      have sU := same_new (o := .tup [.str (wrd yb.fr), .int ((Dl.tn many c yb.i : Nat) : Int), .int ((Dl.tn many c yb.j : Nat) : Int), .ref yb.a]) nt2
      have eU : (upd J' t2 (.tup [.str (wrd yb.fr), .int ((Dl.tn many c yb.i : Nat) : Int), .int ((Dl.tn many c yb.j : Nat) : Int), .ref yb.a])) t2 = some (.tup (lbV ⟨yb.fr, Dl.tn many c yb.i, Dl.tn many c yb.j, yb.a, yb.es⟩)) := upd_same
      generalize upd J' t2 (.tup [.str (wrd yb.fr), .int ((Dl.tn many c yb.i : Nat) : Int), .int ((Dl.tn many c yb.j : Nat) : Int), .ref yb.a]) = J2 at sU eU
      have hT2 := hT.mono sU
      have hb2 : LbAt J2 t2 ⟨yb.fr, Dl.tn many c yb.i, Dl.tn many c yb.j, yb.a, yb.es⟩ := ⟨eU, sU _ _ z1.es⟩
      have ob2 : LbOk M many ⟨yb.fr, Dl.tn many c yb.i, Dl.tn many c yb.j, yb.a, yb.es⟩ := ⟨Dl.tn_lt m0, Dl.tn_lt m0, o1.dv, o1.gd, o1.nr⟩
      have na2 : ∀ z ∈ zt ++ [(t2, (⟨yb.fr, Dl.tn many c yb.i, Dl.tn many c yb.j, yb.a, yb.es⟩ : Lb))], z.2.a ≠ O := fun z m => (List.mem_append.mp m).elim (na z) fun m => by
        rw [List.mem_singleton.mp m]
        exact fun q => by rw [show yb.a = O from q, nO] at z0; cases z0
      refine ⟨_, hT2.sq, by rw [List.length_map]; exact szC (by omega), Z.Same.mut (s5.trans sU) nO, zt ++ [(t2, ⟨yb.fr, Dl.tn many c yb.i, Dl.tn many c yb.j, yb.a, yb.es⟩)], ⟨by rw [upd_same, List.map_append]; rfl, fun z m => ?_, fun z m => ?_⟩, by rw [tk]; exact tr.snoc ⟨rfl, rfl, rfl, rfl⟩, na2⟩
      · have key : LbAt J2 z.1 z.2 := (List.mem_append.mp m).elim (hT2.at_ z) fun m => by rw [List.mem_singleton.mp m]; exact hb2
        refine ⟨?_, ?_⟩
        · rw [upd_ne (fun e => by have := key.at_; rw [e, hT2.sq] at this; cases this)]
          exact key.at_
        · rw [upd_ne (na2 z m)]
          exact key.es
      · rcases List.mem_append.mp m with m | m
        · exact hT.ok z m
        · rw [List.mem_singleton.mp m]
          exact ob2
    rintro J ⟨s5, zt, hT, tr, na⟩
    rw [List.take_length] at tr
    walk_at "go"
    refine ⟨O, M, many, st, zt, rfl, hT, hM0, hM, m8, by rw [tr.len]; omega, fun Y ys H23 s23 _ eY pl2 => ?_⟩
    have e2 : ys = trnL many c xs := pl.turn hc fok tr pl2
    have s623 := s622.trans (s5.trans s23)
    dsimp only [List.set]
    walk_at "go"
    intro G nG
    refine lc_flt (n := many) (fun k => .int (0 + (k : Int))) (fun _ => decide (0 < xs.length)) (fun k => .int (xs.getD (Dl.tn many (many - c) k) 0)) (by omega) nG (fun k H1 hk _ => ?_) (fun H1 _ => ?_) (fun k H1 x H2 _ _ y => ⟨by rw [y.1]; exact Same.refl _, y.2⟩) (fun k => rfl) (fun k H1 Q1 hk s1 q1 => ?_) (fun k H1 Q1 hk kb s1 q1 => ?_) (fun H24 s24 eG => ?_)
    · show k < ((many : Int)).toNat
      omega
    · show ((many : Int)).toNat ≤ many
      omega
    · walk_at "go"
      refine ⟨X, _, rfl, .inl (SqL.of ((s623.trans s1) _ _ eX6)), ?_⟩
      rw [List.length_map]
      walk_at "go"
      rw [show decide ((0 : Int) < (xs.length : Int)) = decide (0 < xs.length) from decide_eq_decide.mpr (by omega)]
      exact q1 _ (Same.refl _)
    · have x0 : 0 < xs.length := of_decide_eq_true kb
      have lx : xs.length = many := by
        rcases pl.len with e | e
        · rw [e] at x0
          exact absurd x0 (Nat.lt_irrefl _)
        · exact e
      walk_at "go"
      dsimp only
      rw [show (0 : Int) + (k : Int) - (c : Int) = (k : Int) - (c : Int) by omega, tn_int hc]
      have ht : Dl.tn many (many - c) k < xs.length := by rw [lx]; exact Dl.tn_lt m0
      exact ⟨X, _, _, _, rfl, rfl, SqL.of ((s623.trans s1) _ _ eX6), atI_nat (by rw [List.getElem?_map, List.getD_eq_getElem?_getD, List.getElem?_eq_getElem ht]; rfl), q1 _ (Same.refl _)⟩
    rw [flt_trn] at eG
    dsimp only
    refine ⟨_, _, dp_ints (b := true) (SqL.of (s24 _ _ eY)), dp_ints (b := true) (SqL.of eG), shaped_ints _ _, shaped_ints _ _, ?_⟩
    rw [eqv_ints, decide_eq_true e2]
    have s624 := s623.trans s24
    clear e2 pl2 eY eG s623 s24 s23 s5 tr hT na hZ22 s622 nG
    walk_at "go"
    refine ⟨fun σ' J => ∃ tt : Addr, σ' = [some (.ref a), some (.ref D), some (.int (many : Int)), some (.int (n : Int)), some (.int wh), some (.ref l), some (.int st), some (.ref X), some (.int stp), none, some (.ref Z_), some (.ref t), some (.int (k : Int)), some (.int (c : Int)), none, some (.ref O), none, some (.ref tt)] ∧ Same H6 J ∧ ((0 < xs.length ∧ ∃ T, J tt = some (.tup [.str (Str.ofString "days"), .ref T]) ∧ J T = some (.tup (xs.map V.int))) ∨ (xs = [] ∧ ∃ (T : Addr) (d : Int), J tt = some (.tup [.str (Str.ofString "ring"), .ref T, .int d]))), ?_, ?_⟩
    · walk_at "go"
      have hZ24 := hZ6.mono s624
      refine ⟨l, M, many, zs, rfl, hZ24, hM0, hM, by omega, fun p zp H25 s25 _ hP pf okp => ?_⟩
      walk_at "go"
      refine .inl ⟨p, true, false, M, many, st, zp, rfl, hP.bd, okp, hM0, by rw [pf.len]; omega, m8, hM, fun tt T x fs Pd2 H26 s26 et eT fo per2 _ da => ?_, fun tt T bs d fs Pd2 H26 s26 et eT fo per2 _ ra => ?_⟩
      · have e2 : (List.range many).map x = xs := pf.pl pl (plan_days_pl hP.bd.mo okp.ends fo per2 da)
        have x0 : 0 < xs.length := by rw [← e2, List.length_map, List.length_range]; exact m0
        exact ⟨tt, rfl, s624.trans (s25.trans s26), .inl ⟨x0, T, et, by rw [← e2]; exact eT⟩⟩
      · have e2 : [] = xs := pf.pl pl (plan_ring_pl hP.bd.mo okp.ends fo per2 ra)
        exact ⟨tt, rfl, s624.trans (s25.trans s26), .inr ⟨e2.symm, T, d, et⟩⟩
    clear s624
    rintro σ' J ⟨tt, rfl, s6J, fnd⟩
    refine ⟨fun σ' J => σ' = [some (.ref a), some (.ref D), some (.int (many : Int)), some (.int (n : Int)), some (.int wh), some (.ref l), some (.int st), some (.ref X), some (.int stp), none, some (.ref Z_), some (.ref t), some (.int (k : Int)), some (.int (c : Int)), none, some (.ref O), none, some (.ref tt)] ∧ Same H6 J, ?_, ?_⟩
    · walk_at "go"
      refine ⟨X, _, rfl, .inl (SqL.of (s6J _ _ eX6)), ?_⟩
      rw [List.length_map]
      rcases fnd with ⟨x0, T, et, eT⟩ | ⟨x0, T, d, et⟩
      · walk_at "go"
        rw [decide_eq_true (show (0 : Int) < (xs.length : Int) by omega)]
        walk_at "go"
        refine ⟨X, _, rfl, .inl ⟨SqL.of (s6J _ _ eX6), fun tp ntp => ?_⟩⟩
        have sp := same_new (o := .tup (xs.map V.int)) ntp
        have ep : (upd J tp (.tup (xs.map V.int))) tp = some (.tup (xs.map V.int)) := upd_same
        generalize upd J tp (.tup (xs.map V.int)) = J3 at sp ep
        walk_at "go"
        intro t3 nt3
        have st3 := same_new (o := .tup [.str (Str.ofString "days"), .ref tp]) nt3
        have s63 := s6J.trans (sp.trans st3)
        refine ⟨_, _, dp_days ((sp.trans st3) _ _ et) ((sp.trans st3) _ _ eT), dp_days upd_same (st3 _ _ ep), sh_days _, sh_days _, ?_⟩
        rw [eqv_same (sh_days _)]
        walk_at "go"
        refine ⟨X, _, rfl, .inl (SqL.of (s63 _ _ eX6)), ?_⟩
        rw [List.length_map]
        walk_at "go"
        rw [decide_eq_false (show ¬ V.int (xs.length : Int) = V.int 0 from fun z => by injection z with z; omega)]
        walk_at "go"
        exact s63
      · have hA : SqT K J tt [.str (Str.ofString "ring"), .ref T, .int d] := SqT.of et
        rw [x0]
        walk_at "go"
        refine ⟨X, _, rfl, .inl (SqL.of (s6J _ _ eX6)), ?_⟩
        rw [x0]
        walk_at "go"
        exact s6J
    rintro σ' J2 ⟨rfl, s6⟩
    walk_at "go"
    intro L0 nL0
    have s7 := same_new (o := .lst []) nL0
    have hZ0 : LbL (upd J2 L0 (.lst [])) M many L0 [] := ⟨upd_same, fun z m => absurd m (by simp), fun z m => absurd m (by simp)⟩
    generalize upd J2 L0 (.lst []) = J3 at s7 hZ0
    walk_at "go"
    refine ⟨L0, M, many, st, [], rfl, hZ0, hM0, hM, m8, Nat.zero_le _, fun Y ys J4 s8 _ eY pl2 => ?_⟩
    have e2 := pl_nolb pl2
    walk_at "go"
    intro G nG
    refine lc_rng (K := K) (n := many) (fun _ => st) (by omega) nG (fun _ => rfl) (fun k J Q' _ _ q' => ?_) (fun J5 s9 eG => ?_)
    · walk_at "go"
      exact q' J (Same.refl _)
    refine ⟨_, _, dp_ints (b := true) (SqL.of (s9 _ _ eY)), dp_ints (b := true) (SqL.of eG), shaped_ints _ _, shaped_ints _ _, ?_⟩
    rw [eqv_ints, decide_eq_true e2]
    have s69 := s6.trans (s7.trans (s8.trans s9))
    walk_at "go"
    refine ⟨l, M, many, st, zs, rfl, hZ6.mono s69, hM0, hM, m8, by omega, fun Y2 ys2 J6 s10 _ eY2 pl3 => ?_⟩
    have e3 : ys2 = xs := pl.same pl3 (fun z => Iff.rfl)
    walk_at "go"
    refine ⟨_, _, dp_ints (b := true) (SqL.of eY2), dp_ints (b := true) (SqL.of ((s69.trans s10) _ _ eX6)), shaped_ints _ _, shaped_ints _ _, ?_⟩
    rw [eqv_ints, decide_eq_true e3]
    exact q _
end
end Z
set_option pp.maxSteps 700
set_option Elab.async false
set_option linter.all false
set_option maxRecDepth 100000
set_option maxHeartbeats 4000000
set_option maxHeartbeats 0
namespace Z
open PySem PySem.Spec PyProof.Rows L2 Dy
def d_common_divisor : He.DefD := ⟨("common_divisor", none), "common_divisor", "common_divisor", defArgs s_common_divisor, defBody s_common_divisor, defScope s_common_divisor, [], []⟩
def d_check_days : He.DefD := ⟨("check_days", none), "check_days", "check_days", defArgs s_check_days, defBody s_check_days, defScope s_check_days, [], []⟩
def d_least_period : He.DefD := ⟨("least_period", none), "least_period", "least_period", defArgs s_least_period, defBody s_least_period, defScope s_least_period, [], []⟩
def d_day_at : He.DefD := ⟨("day_at", none), "day_at", "day_at", defArgs s_day_at, defBody s_day_at, defScope s_day_at, [], []⟩
def d_latest_days : He.DefD := ⟨("latest_days", none), "latest_days", "latest_days", defArgs s_latest_days, defBody s_latest_days, defScope s_latest_days, [], []⟩
def d_common_period : He.DefD := ⟨("common_period", none), "common_period", "common_period", defArgs s_common_period, defBody s_common_period, defScope s_common_period, [], []⟩
def d_check_bounds : He.DefD := ⟨("check_bounds", none), "check_bounds", "check_bounds", defArgs s_check_bounds, defBody s_check_bounds, defScope s_check_bounds, [], []⟩
def d_forces_of : He.DefD := ⟨("forces_of", none), "forces_of", "forces_of", defArgs s_forces_of, defBody s_forces_of, defScope s_forces_of, [], []⟩
def d_limit_of : He.DefD := ⟨("limit_of", none), "limit_of", "limit_of", defArgs s_limit_of, defBody s_limit_of, defScope s_limit_of, [], []⟩
def d_raise_days : He.DefD := ⟨("raise_days", none), "raise_days", "raise_days", defArgs s_raise_days, defBody s_raise_days, defScope s_raise_days, [], []⟩
def d_ring_in : He.DefD := ⟨("ring_in", none), "ring_in", "ring_in", defArgs s_ring_in, defBody s_ring_in, defScope s_ring_in, [], []⟩
def d_plan_days : He.DefD := ⟨("plan_days", none), "plan_days", "plan_days", defArgs s_plan_days, defBody s_plan_days, defScope s_plan_days, [], []⟩
def d_DayRule___init__ : He.DefD := ⟨("DayRule", some "__init__"), "__init__", "DayRule.__init__", defArgs s_DayRule___init__, defBody s_DayRule___init__, defScope s_DayRule___init__, [], []⟩
def d_DayRule_soonest : He.DefD := ⟨("DayRule", some "soonest"), "soonest", "DayRule.soonest", defArgs s_DayRule_soonest, defBody s_DayRule_soonest, defScope s_DayRule_soonest, [], []⟩
def d_cell : He.DefD := ⟨("_law_cell", none), "_law_cell", "_law_cell", defArgs s_cell, defBody s_cell, defScope s_cell, [], []⟩
def d_draws : He.DefD := ⟨("_law_draws", none), "_law_draws", "_law_draws", defArgs s_draws, defBody s_draws, defScope s_draws, [], []⟩
def d_take : He.DefD := ⟨("_law_take", none), "_law_take", "_law_take", defArgs s_take, defBody s_take, defScope s_take, [], []⟩
def d_whole : He.DefD := ⟨("_law_whole", none), "_law_whole", "_law_whole", defArgs s_whole, defBody s_whole, defScope s_whole, [], []⟩
def d_value : He.DefD := ⟨("_law_value", none), "_law_value", "_law_value", defArgs s_value, defBody s_value, defScope s_value, [], []⟩
def d_repeats : He.DefD := ⟨("_law_repeats", none), "_law_repeats", "_law_repeats", defArgs s_repeats, defBody s_repeats, defScope s_repeats, [], []⟩
def d_least : He.DefD := ⟨("_law_least", none), "_law_least", "_law_least", defArgs s_least, defBody s_least, defScope s_least, [], []⟩
def d_near_good : He.DefD := ⟨("_law_near_good", none), "_law_near_good", "_law_near_good", defArgs s_near_good, defBody s_near_good, defScope s_near_good, [], []⟩
def d_rule : He.DefD := ⟨("_law_rule", none), "_law_rule", "_law_rule", defArgs s_rule, defBody s_rule, defScope s_rule, [], []⟩
def d_bound : He.DefD := ⟨("_law_bound", none), "_law_bound", "_law_bound", defArgs s_bound, defBody s_bound, defScope s_bound, [], []⟩
def d_bounds : He.DefD := ⟨("_law_bounds", none), "_law_bounds", "_law_bounds", defArgs s_bounds, defBody s_bounds, defScope s_bounds, [], []⟩
def d_wide : He.DefD := ⟨("_law_wide", none), "_law_wide", "_law_wide", defArgs s_wide, defBody s_wide, defScope s_wide, [], []⟩
def d_start : He.DefD := ⟨("_law_start", none), "_law_start", "_law_start", defArgs s_start, defBody s_start, defScope s_start, [], []⟩
def d_period : He.DefD := ⟨("_law_period", none), "_law_period", "_law_period", defArgs s_period, defBody s_period, defScope s_period, [], []⟩
def d_passed : He.DefD := ⟨("_law_passed", none), "_law_passed", "_law_passed", defArgs s_passed, defBody s_passed, defScope s_passed, [], []⟩
def d_plan : He.DefD := ⟨("_law_plan", none), "_law_plan", "_law_plan", defArgs s_plan, defBody s_plan, defScope s_plan, [], []⟩
def d_not_earlier : He.DefD := ⟨("_law_not_earlier", none), "_law_not_earlier", "_law_not_earlier", defArgs s_not_earlier, defBody s_not_earlier, defScope s_not_earlier, [], []⟩
def d_turned_from : He.DefD := ⟨("_law_turned_from", none), "_law_turned_from", "_law_turned_from", defArgs s_turned_from, defBody s_turned_from, defScope s_turned_from, [], []⟩
def d_refused : He.DefD := ⟨("_law_refused", none), "_law_refused", "_law_refused", defArgs s_refused, defBody s_refused, defScope s_refused, [], []⟩
def d_refusals_hold : He.DefD := ⟨("_law_refusals_hold", none), "_law_refusals_hold", "_law_refusals_hold", defArgs s_refusals_hold, defBody s_refusals_hold, defScope s_refusals_hold, [], []⟩
def d_law : He.DefD := ⟨("law", none), "law", "law", defArgs s_law, defBody s_law, defScope s_law, [], []⟩
abbrev s_BadDays___init__ : Stmt := inClass (topS 6) 0
theorem xn_BadDays {P : Program} {w : World} {K : PySem.W.Frag} {mg : Str → Option Value} {base : Heap} {fl : Str} (h1 : supObs K "BadDays" = supVal "BadDays.__init__" s_BadDays___init__) (h : ExnF K (He.ga K "BadDays") "BadDays.__init__" "at" fl) (hfl : ((P.main.file : Str) == fl) = true) (htop : (P.main.scope.names.lookup ("super" : Str)).isSome = false) (g : mg "BadDays" = some (.ref (He.ga K "BadDays"))) (m_super : mg "super" = none) : Exn P w K mg base "BadDays" (He.ga K "BadDays") "at" := by
  obtain ⟨c, cc, fd, kV, doc, pm, ct, an, hfd, S, hcd⟩ := sup_of h1 h.sup hfl htop
  refine ⟨S.oex, g, He.ma K _ "__init__", fd, ["self", "at"], h.ini, h.ty, ?_, ?_⟩
  · exact exn_ok (v := "at") (F := ⟨"__init__", "BadDays.__init__", defArgs s_BadDays___init__, defBody s_BadDays___init__, defScope s_BadDays___init__, [("__class__", cc)], c⟩) hfd S hcd (NdefX.nscope_by (sc := defScope s_BadDays___init__) (by decide +kernel)) rfl rfl rfl (show (defScope s_BadDays___init__).names.lookup ("super" : Str) = some .globalImplicit by decide +kernel) m_super h.no (by decide) (by decide) rfl (fun _ _ _ _ _ => rfl) (fun _ _ _ _ _ => rfl) (fun _ _ _ _ _ => rfl) (fun _ _ _ _ _ => rfl)
  · subst hfd
    exact Binds.all fun us hl => match us, hl with | [_, _], _ => rfl
abbrev s_BadEvent___init__ : Stmt := inClass (topS 7) 0
theorem xn_BadEvent {P : Program} {w : World} {K : PySem.W.Frag} {mg : Str → Option Value} {base : Heap} {fl : Str} (h1 : supObs K "BadEvent" = supVal "BadEvent.__init__" s_BadEvent___init__) (h : ExnF K (He.ga K "BadEvent") "BadEvent.__init__" "at" fl) (hfl : ((P.main.file : Str) == fl) = true) (htop : (P.main.scope.names.lookup ("super" : Str)).isSome = false) (g : mg "BadEvent" = some (.ref (He.ga K "BadEvent"))) (m_super : mg "super" = none) : Exn P w K mg base "BadEvent" (He.ga K "BadEvent") "at" := by
  obtain ⟨c, cc, fd, kV, doc, pm, ct, an, hfd, S, hcd⟩ := sup_of h1 h.sup hfl htop
  refine ⟨S.oex, g, He.ma K _ "__init__", fd, ["self", "at"], h.ini, h.ty, ?_, ?_⟩
  · exact exn_ok (v := "at") (F := ⟨"__init__", "BadEvent.__init__", defArgs s_BadEvent___init__, defBody s_BadEvent___init__, defScope s_BadEvent___init__, [("__class__", cc)], c⟩) hfd S hcd (NdefX.nscope_by (sc := defScope s_BadEvent___init__) (by decide +kernel)) rfl rfl rfl (show (defScope s_BadEvent___init__).names.lookup ("super" : Str) = some .globalImplicit by decide +kernel) m_super h.no (by decide) (by decide) rfl (fun _ _ _ _ _ => rfl) (fun _ _ _ _ _ => rfl) (fun _ _ _ _ _ => rfl) (fun _ _ _ _ _ => rfl)
  · subst hfd
    exact Binds.all fun us hl => match us, hl with | [_, _], _ => rfl
def xns : List (PySem.W.Frag → SupV) := [fun K => supObs K "BadDays", fun K => supObs K "BadEvent"]
def exPr (K : PySem.W.Frag) : List Bool := []
def xvs : List SupV := [supVal "BadDays.__init__" s_BadDays___init__, supVal "BadEvent.__init__" s_BadEvent___init__]
def exXn (fl : Str) (K : PySem.W.Frag) : List Bool := [exnB fl "BadDays.__init__" "at" K (He.ga K "BadDays"), exnB fl "BadEvent.__init__" "at" K (He.ga K "BadEvent")]
def fn : List He.DefD := [d_common_divisor, d_check_days, d_least_period, d_day_at, d_latest_days, d_common_period, d_check_bounds, d_forces_of, d_limit_of, d_raise_days, d_ring_in, d_plan_days, d_DayRule___init__, d_DayRule_soonest, d_cell, d_draws, d_take, d_whole, d_value, d_repeats, d_least, d_near_good, d_rule, d_bound, d_bounds, d_wide, d_start, d_period, d_passed, d_plan, d_not_earlier, d_turned_from, d_refused, d_refusals_hold, d_law]
def fa : List He.Fa := [.glo "common_divisor", .glo "check_days", .glo "least_period", .glo "day_at", .glo "latest_days", .glo "common_period", .glo "check_bounds", .glo "forces_of", .glo "limit_of", .glo "raise_days", .glo "ring_in", .glo "plan_days", .glo "_law_cell", .glo "_law_draws", .glo "_law_take", .glo "_law_whole", .glo "_law_value", .glo "_law_repeats", .glo "_law_least", .glo "_law_near_good", .glo "_law_rule", .glo "_law_bound", .glo "_law_bounds", .glo "_law_wide", .glo "_law_start", .glo "_law_period", .glo "_law_passed", .glo "_law_plan", .glo "_law_not_earlier", .glo "_law_turned_from", .glo "_law_refused", .glo "_law_refusals_hold", .glo "law", .free "abs", .free "all", .free "bool", .free "enumerate", .free "int", .free "isinstance", .free "len", .free "list", .free "max", .free "min", .free "range", .free "super", .free "tuple", .glo "DayRule", .cls "DayRule", .mkr "DayRule", .noat "DayRule" "days", .meth "DayRule" "soonest", .glo "HouseError", .glo "BadCount", .glo "BadDays", .glo "BadEvent"]
def loose : List Str := [("_wall" : Str), ("common_divisor" : Str), ("HouseError" : Str), ("BadCount" : Str), ("BadDays" : Str), ("BadEvent" : Str), ("check_days" : Str), ("least_period" : Str), ("day_at" : Str), ("used_times" : Str), ("latest_days" : Str), ("common_period" : Str), ("DayRule" : Str), ("check_bounds" : Str), ("forces_of" : Str), ("limit_of" : Str), ("raise_days" : Str), ("ring_in" : Str), ("plan_days" : Str), ("_law_cell" : Str), ("_law_draws" : Str), ("_law_take" : Str), ("_law_whole" : Str), ("_law_value" : Str), ("_law_repeats" : Str), ("_law_least" : Str), ("_law_near_good" : Str), ("_law_rule" : Str), ("_law_bound" : Str), ("_law_bounds" : Str), ("_law_wide" : Str), ("_law_start" : Str), ("_law_period" : Str), ("_law_passed" : Str), ("_law_plan" : Str), ("_law_not_earlier" : Str), ("_law_turned_from" : Str), ("_law_refused" : Str), ("_law_refusals_hold" : Str)]
def fl : Str := PySem.Challenge.pw_signedpacts_k66_plan_moves_with_start.main.file
def exL (K : PySem.W.Frag) : List Bool := [exmB K (He.ga K "BadEvent") (He.ga K "BadEvent"), kitVB K (He.ga K "BadEvent") (.ref (He.ga K "HouseError")) true, kitVB K (He.ga K "BadEvent") (.ref (He.ga K "BadCount")) false]
def ex (K : PySem.W.Frag) : Bool := (exL K).all id && ((exXn fl K).all id && (exPr K).all id)
abbrev R : PySem.W.OpenRow := PySem.W.OpenLaw.row PySem.Challenge.rw_signedpacts_k66_plan_moves_with_start
abbrev hk : PySem.W.Hook := hookY 5 fa fn xns xvs ex
def ob (s : PySem.W.SharedT) : He.AlD × (List SupV × Bool) := obY 5 fa fn xns ex (HandSHeadRun.getT s)
theorem ob_eq (s : PySem.W.SharedT) : ob s = hk.obs s.abs := obY_eq (HandSHeadRun.getT_eq s)
theorem run (w : World) : HandSHeadRun.RunEq R (PySem.W.view R.prog [44]) hk ob 8000 loose w := by
  intro os
  kernel_rfl
theorem facts {P : Program} {w : World} {K : PySem.W.Frag} {h : Heap} {mg : Str → Option Value} {f : Addr} (X : K.In h) (G : h.Ns mainGlobals mg) (hfa : mg ("law" : Str) = some (.ref f)) (c : He.SaysD fa fn K) (cs : xns.map (fun f => f K) = xvs) (cx : ex K = true) (hfl : ((P.main.file : Str) == fl) = true) (htop : (P.main.scope.names.lookup ("super" : Str)).isSome = false) :
    ∃ fd : FuncData, (∀ (s : Shared) (v : Value), BindsTo s fd ⟨[v], []⟩ [("_law_script", v)]) ∧ ∀ base : Heap, K.In base → base.Ns mainGlobals mg → FnOk P w K mg base CX0 11 f fd ["_law_script"] (spLaw K) := by
  obtain ⟨cx, cy⟩ := He.ba cx
  obtain ⟨cy, cp⟩ := He.ba cy
  obtain ⟨fd_common_divisor, F_common_divisor⟩ := c.def_ 0 (d := d_common_divisor) rfl
  have F_common_divisor : FnP K "common_divisor" s_common_divisor _ fd_common_divisor := F_common_divisor
  have g_common_divisor := He.glo_ok X G (c.fact 0 (f := .glo "common_divisor") rfl)
  have b_common_divisor : Binds K fd_common_divisor P_common_divisor [] := F_common_divisor.bindsN fun _ _ _ _ _ _ us hl => match us, hl with | [_], _ => rfl
  obtain ⟨fd_check_days, F_check_days⟩ := c.def_ 1 (d := d_check_days) rfl
  have F_check_days : FnP K "check_days" s_check_days _ fd_check_days := F_check_days
  have g_check_days := He.glo_ok X G (c.fact 1 (f := .glo "check_days") rfl)
  have b_check_days : Binds K fd_check_days P_check_days [] := F_check_days.bindsN fun _ _ _ _ _ _ us hl => match us, hl with | [_], _ => rfl
  obtain ⟨fd_least_period, F_least_period⟩ := c.def_ 2 (d := d_least_period) rfl
  have F_least_period : FnP K "least_period" s_least_period _ fd_least_period := F_least_period
  have g_least_period := He.glo_ok X G (c.fact 2 (f := .glo "least_period") rfl)
  have b_least_period : Binds K fd_least_period P_least_period [] := F_least_period.bindsN fun _ _ _ _ _ _ us hl => match us, hl with | [_], _ => rfl
  obtain ⟨fd_day_at, F_day_at⟩ := c.def_ 3 (d := d_day_at) rfl
  have F_day_at : FnP K "day_at" s_day_at _ fd_day_at := F_day_at
  have g_day_at := He.glo_ok X G (c.fact 3 (f := .glo "day_at") rfl)
  have b_day_at : Binds K fd_day_at P_day_at [] := F_day_at.bindsN fun _ _ _ _ _ _ us hl => match us, hl with | [_, _], _ => rfl
  obtain ⟨fd_latest_days, F_latest_days⟩ := c.def_ 4 (d := d_latest_days) rfl
  have F_latest_days : FnP K "latest_days" s_latest_days _ fd_latest_days := F_latest_days
  have g_latest_days := He.glo_ok X G (c.fact 4 (f := .glo "latest_days") rfl)
  have b_latest_days : Binds K fd_latest_days P_latest_days [] := F_latest_days.bindsN fun _ _ _ _ _ _ us hl => match us, hl with | [_], _ => rfl
  obtain ⟨fd_common_period, F_common_period⟩ := c.def_ 5 (d := d_common_period) rfl
  have F_common_period : FnP K "common_period" s_common_period _ fd_common_period := F_common_period
  have g_common_period := He.glo_ok X G (c.fact 5 (f := .glo "common_period") rfl)
  have b_common_period : Binds K fd_common_period P_common_period [] := F_common_period.bindsN fun _ _ _ _ _ _ us hl => match us, hl with | [_], _ => rfl
  obtain ⟨fd_check_bounds, F_check_bounds⟩ := c.def_ 6 (d := d_check_bounds) rfl
  have F_check_bounds : FnP K "check_bounds" s_check_bounds _ fd_check_bounds := F_check_bounds
  have g_check_bounds := He.glo_ok X G (c.fact 6 (f := .glo "check_bounds") rfl)
  have b_check_bounds : Binds K fd_check_bounds P_check_bounds [] := F_check_bounds.bindsN fun _ _ _ _ _ _ us hl => match us, hl with | [_, _], _ => rfl
  obtain ⟨fd_forces_of, F_forces_of⟩ := c.def_ 7 (d := d_forces_of) rfl
  have F_forces_of : FnP K "forces_of" s_forces_of _ fd_forces_of := F_forces_of
  have g_forces_of := He.glo_ok X G (c.fact 7 (f := .glo "forces_of") rfl)
  have b_forces_of : Binds K fd_forces_of P_forces_of [] := F_forces_of.bindsN fun _ _ _ _ _ _ us hl => match us, hl with | [_], _ => rfl
  obtain ⟨fd_limit_of, F_limit_of⟩ := c.def_ 8 (d := d_limit_of) rfl
  have F_limit_of : FnP K "limit_of" s_limit_of _ fd_limit_of := F_limit_of
  have g_limit_of := He.glo_ok X G (c.fact 8 (f := .glo "limit_of") rfl)
  have b_limit_of : Binds K fd_limit_of P_limit_of [] := F_limit_of.bindsN fun _ _ _ _ _ _ us hl => match us, hl with | [_, _, _, _], _ => rfl
  obtain ⟨fd_raise_days, F_raise_days⟩ := c.def_ 9 (d := d_raise_days) rfl
  have F_raise_days : FnP K "raise_days" s_raise_days _ fd_raise_days := F_raise_days
  have g_raise_days := He.glo_ok X G (c.fact 9 (f := .glo "raise_days") rfl)
  have b_raise_days : Binds K fd_raise_days P_raise_days [] := F_raise_days.bindsN fun _ _ _ _ _ _ us hl => match us, hl with | [_, _, _, _, _], _ => rfl
  obtain ⟨fd_ring_in, F_ring_in⟩ := c.def_ 10 (d := d_ring_in) rfl
  have F_ring_in : FnP K "ring_in" s_ring_in _ fd_ring_in := F_ring_in
  have g_ring_in := He.glo_ok X G (c.fact 10 (f := .glo "ring_in") rfl)
  have b_ring_in : Binds K fd_ring_in P_ring_in [] := F_ring_in.bindsN fun _ _ _ _ _ _ us hl => match us, hl with | [_, _], _ => rfl
  obtain ⟨fd_plan_days, F_plan_days⟩ := c.def_ 11 (d := d_plan_days) rfl
  have F_plan_days : FnP K "plan_days" s_plan_days _ fd_plan_days := F_plan_days
  have g_plan_days := He.glo_ok X G (c.fact 11 (f := .glo "plan_days") rfl)
  have b_plan_days : Binds K fd_plan_days P_plan_days [] := F_plan_days.bindsN fun _ _ _ _ _ _ us hl => match us, hl with | [_, _, _], _ => rfl
  obtain ⟨fd_DayRule___init__, F_DayRule___init__⟩ := c.def_ 12 (d := d_DayRule___init__) rfl
  have F_DayRule___init__ : FnM K "__init__" "DayRule.__init__" s_DayRule___init__ (He.ma K (He.ga K "DayRule") "__init__") fd_DayRule___init__ := F_DayRule___init__
  have b_DayRule___init__ : Binds K fd_DayRule___init__ P_DayRule___init__ [] := F_DayRule___init__.bindsN fun _ _ _ _ _ _ us hl => match us, hl with | [_, _], _ => rfl
  obtain ⟨fd_DayRule_soonest, F_DayRule_soonest⟩ := c.def_ 13 (d := d_DayRule_soonest) rfl
  have F_DayRule_soonest : FnM K "soonest" "DayRule.soonest" s_DayRule_soonest (He.ma K (He.ga K "DayRule") "soonest") fd_DayRule_soonest := F_DayRule_soonest
  have b_DayRule_soonest : Binds K fd_DayRule_soonest P_DayRule_soonest [] := F_DayRule_soonest.bindsN fun _ _ _ _ _ _ us hl => match us, hl with | [_], _ => rfl
  obtain ⟨fd_cell, F_cell⟩ := c.def_ 14 (d := d_cell) rfl
  have F_cell : FnP K "_law_cell" s_cell _ fd_cell := F_cell
  have g_cell := He.glo_ok X G (c.fact 12 (f := .glo "_law_cell") rfl)
  have b_cell : Binds K fd_cell P_cell [] := F_cell.bindsN fun _ _ _ _ _ _ us hl => match us, hl with | [_, _], _ => rfl
  obtain ⟨fd_draws, F_draws⟩ := c.def_ 15 (d := d_draws) rfl
  have F_draws : FnP K "_law_draws" s_draws _ fd_draws := F_draws
  have g_draws := He.glo_ok X G (c.fact 13 (f := .glo "_law_draws") rfl)
  have b_draws : Binds K fd_draws P_draws [] := F_draws.bindsN fun _ _ _ _ _ _ us hl => match us, hl with | [_, _], _ => rfl
  obtain ⟨fd_take, F_take⟩ := c.def_ 16 (d := d_take) rfl
  have F_take : FnP K "_law_take" s_take _ fd_take := F_take
  have g_take := He.glo_ok X G (c.fact 14 (f := .glo "_law_take") rfl)
  have b_take : Binds K fd_take P_take [] := F_take.bindsN fun _ _ _ _ _ _ us hl => match us, hl with | [_, _], _ => rfl
  obtain ⟨fd_whole, F_whole⟩ := c.def_ 17 (d := d_whole) rfl
  have F_whole : FnP K "_law_whole" s_whole _ fd_whole := F_whole
  have g_whole := He.glo_ok X G (c.fact 15 (f := .glo "_law_whole") rfl)
  have b_whole : Binds K fd_whole P_whole [] := F_whole.bindsN fun _ _ _ _ _ _ us hl => match us, hl with | [_], _ => rfl
  obtain ⟨fd_value, F_value⟩ := c.def_ 18 (d := d_value) rfl
  have F_value : FnP K "_law_value" s_value _ fd_value := F_value
  have g_value := He.glo_ok X G (c.fact 16 (f := .glo "_law_value") rfl)
  have b_value : Binds K fd_value P_value [] := F_value.bindsN fun _ _ _ _ _ _ us hl => match us, hl with | [_, _], _ => rfl
  obtain ⟨fd_repeats, F_repeats⟩ := c.def_ 19 (d := d_repeats) rfl
  have F_repeats : FnP K "_law_repeats" s_repeats _ fd_repeats := F_repeats
  have g_repeats := He.glo_ok X G (c.fact 17 (f := .glo "_law_repeats") rfl)
  have b_repeats : Binds K fd_repeats P_repeats [] := F_repeats.bindsN fun _ _ _ _ _ _ us hl => match us, hl with | [_, _], _ => rfl
  obtain ⟨fd_least, F_least⟩ := c.def_ 20 (d := d_least) rfl
  have F_least : FnP K "_law_least" s_least _ fd_least := F_least
  have g_least := He.glo_ok X G (c.fact 18 (f := .glo "_law_least") rfl)
  have b_least : Binds K fd_least P_least [] := F_least.bindsN fun _ _ _ _ _ _ us hl => match us, hl with | [_], _ => rfl
  obtain ⟨fd_near_good, F_near_good⟩ := c.def_ 21 (d := d_near_good) rfl
  have F_near_good : FnP K "_law_near_good" s_near_good _ fd_near_good := F_near_good
  have g_near_good := He.glo_ok X G (c.fact 19 (f := .glo "_law_near_good") rfl)
  have b_near_good : Binds K fd_near_good P_near_good [] := F_near_good.bindsN fun _ _ _ _ _ _ us hl => match us, hl with | [_, _, _, _], _ => rfl
  obtain ⟨fd_rule, F_rule⟩ := c.def_ 22 (d := d_rule) rfl
  have F_rule : FnP K "_law_rule" s_rule _ fd_rule := F_rule
  have g_rule := He.glo_ok X G (c.fact 20 (f := .glo "_law_rule") rfl)
  have b_rule : Binds K fd_rule P_rule [] := F_rule.bindsN fun _ _ _ _ _ _ us hl => match us, hl with | [_, _, _, _, _], _ => rfl
  obtain ⟨fd_bound, F_bound⟩ := c.def_ 23 (d := d_bound) rfl
  have F_bound : FnP K "_law_bound" s_bound _ fd_bound := F_bound
  have g_bound := He.glo_ok X G (c.fact 21 (f := .glo "_law_bound") rfl)
  have b_bound : Binds K fd_bound P_bound [] := F_bound.bindsN fun _ _ _ _ _ _ us hl => match us, hl with | [_, _, _], _ => rfl
  obtain ⟨fd_bounds, F_bounds⟩ := c.def_ 24 (d := d_bounds) rfl
  have F_bounds : FnP K "_law_bounds" s_bounds _ fd_bounds := F_bounds
  have g_bounds := He.glo_ok X G (c.fact 22 (f := .glo "_law_bounds") rfl)
  have b_bounds : Binds K fd_bounds P_bounds [] := F_bounds.bindsN fun _ _ _ _ _ _ us hl => match us, hl with | [_, _, _, _], _ => rfl
  obtain ⟨fd_wide, F_wide⟩ := c.def_ 25 (d := d_wide) rfl
  have F_wide : FnP K "_law_wide" s_wide _ fd_wide := F_wide
  have g_wide := He.glo_ok X G (c.fact 23 (f := .glo "_law_wide") rfl)
  have b_wide : Binds K fd_wide P_wide [] := F_wide.bindsN fun _ _ _ _ _ _ us hl => match us, hl with | [_], _ => rfl
  obtain ⟨fd_start, F_start⟩ := c.def_ 26 (d := d_start) rfl
  have F_start : FnP K "_law_start" s_start _ fd_start := F_start
  have g_start := He.glo_ok X G (c.fact 24 (f := .glo "_law_start") rfl)
  have b_start : Binds K fd_start P_start [] := F_start.bindsN fun _ _ _ _ _ _ us hl => match us, hl with | [_], _ => rfl
  obtain ⟨fd_period, F_period⟩ := c.def_ 27 (d := d_period) rfl
  have F_period : FnP K "_law_period" s_period _ fd_period := F_period
  have g_period := He.glo_ok X G (c.fact 25 (f := .glo "_law_period") rfl)
  have b_period : Binds K fd_period P_period [] := F_period.bindsN fun _ _ _ _ _ _ us hl => match us, hl with | [_], _ => rfl
  obtain ⟨fd_passed, F_passed⟩ := c.def_ 28 (d := d_passed) rfl
  have F_passed : FnP K "_law_passed" s_passed _ fd_passed := F_passed
  have g_passed := He.glo_ok X G (c.fact 26 (f := .glo "_law_passed") rfl)
  have b_passed : Binds K fd_passed P_passed [] := F_passed.bindsN fun _ _ _ _ _ _ us hl => match us, hl with | [_], _ => rfl
  obtain ⟨fd_plan, F_plan⟩ := c.def_ 29 (d := d_plan) rfl
  have F_plan : FnP K "_law_plan" s_plan _ fd_plan := F_plan
  have g_plan := He.glo_ok X G (c.fact 27 (f := .glo "_law_plan") rfl)
  have b_plan : Binds K fd_plan P_plan [] := F_plan.bindsN fun _ _ _ _ _ _ us hl => match us, hl with | [_, _, _], _ => rfl
  obtain ⟨fd_not_earlier, F_not_earlier⟩ := c.def_ 30 (d := d_not_earlier) rfl
  have F_not_earlier : FnP K "_law_not_earlier" s_not_earlier _ fd_not_earlier := F_not_earlier
  have g_not_earlier := He.glo_ok X G (c.fact 28 (f := .glo "_law_not_earlier") rfl)
  have b_not_earlier : Binds K fd_not_earlier P_not_earlier [] := F_not_earlier.bindsN fun _ _ _ _ _ _ us hl => match us, hl with | [_, _], _ => rfl
  obtain ⟨fd_turned_from, F_turned_from⟩ := c.def_ 31 (d := d_turned_from) rfl
  have F_turned_from : FnP K "_law_turned_from" s_turned_from _ fd_turned_from := F_turned_from
  have g_turned_from := He.glo_ok X G (c.fact 29 (f := .glo "_law_turned_from") rfl)
  have b_turned_from : Binds K fd_turned_from P_turned_from [] := F_turned_from.bindsN fun _ _ _ _ _ _ us hl => match us, hl with | [_], _ => rfl
  obtain ⟨fd_refused, F_refused⟩ := c.def_ 32 (d := d_refused) rfl
  have F_refused : FnP K "_law_refused" s_refused _ fd_refused := F_refused
  have g_refused := He.glo_ok X G (c.fact 30 (f := .glo "_law_refused") rfl)
  have b_refused : Binds K fd_refused P_refused [] := F_refused.bindsN fun _ _ _ _ _ _ us hl => match us, hl with | [_, _, _], _ => rfl
  obtain ⟨fd_refusals_hold, F_refusals_hold⟩ := c.def_ 33 (d := d_refusals_hold) rfl
  have F_refusals_hold : FnP K "_law_refusals_hold" s_refusals_hold _ fd_refusals_hold := F_refusals_hold
  have g_refusals_hold := He.glo_ok X G (c.fact 31 (f := .glo "_law_refusals_hold") rfl)
  have b_refusals_hold : Binds K fd_refusals_hold P_refusals_hold [] := F_refusals_hold.bindsN fun _ _ _ _ _ _ us hl => match us, hl with | [_, _, _, _], _ => rfl
  obtain ⟨fd_law, F_law⟩ := c.def_ 34 (d := d_law) rfl
  have F_law : FnP K "law" s_law _ fd_law := F_law
  have g_law := He.glo_ok X G (c.fact 32 (f := .glo "law") rfl)
  have m_abs := He.free_ok X G (c.fact 33 (f := .free "abs") rfl)
  have m_all := He.free_ok X G (c.fact 34 (f := .free "all") rfl)
  have m_bool := He.free_ok X G (c.fact 35 (f := .free "bool") rfl)
  have m_enumerate := He.free_ok X G (c.fact 36 (f := .free "enumerate") rfl)
  have m_int := He.free_ok X G (c.fact 37 (f := .free "int") rfl)
  have m_isinstance := He.free_ok X G (c.fact 38 (f := .free "isinstance") rfl)
  have m_len := He.free_ok X G (c.fact 39 (f := .free "len") rfl)
  have m_list := He.free_ok X G (c.fact 40 (f := .free "list") rfl)
  have m_max := He.free_ok X G (c.fact 41 (f := .free "max") rfl)
  have m_min := He.free_ok X G (c.fact 42 (f := .free "min") rfl)
  have m_range := He.free_ok X G (c.fact 43 (f := .free "range") rfl)
  have m_super := He.free_ok X G (c.fact 44 (f := .free "super") rfl)
  have m_tuple := He.free_ok X G (c.fact 45 (f := .free "tuple") rfl)
  have g_DayRule := He.glo_ok X G (c.fact 46 (f := .glo "DayRule") rfl)
  have cls_DayRule := He.cls_ok (c.fact 47 (f := .cls "DayRule") rfl)
  have mk_DayRule := He.mkr_ok (c.fact 48 (f := .mkr "DayRule") rfl)
  have n_DayRule_days := He.noat_ok (c.fact 49 (f := .noat "DayRule" "days") rfl)
  have me_DayRule_soonest := He.meth_ok (c.fact 50 (f := .meth "DayRule" "soonest") rfl)
  have g_HouseError := He.glo_ok X G (c.fact 51 (f := .glo "HouseError") rfl)
  have g_BadCount := He.glo_ok X G (c.fact 52 (f := .glo "BadCount") rfl)
  have g_BadDays := He.glo_ok X G (c.fact 53 (f := .glo "BadDays") rfl)
  have g_BadEvent := He.glo_ok X G (c.fact 54 (f := .glo "BadEvent") rfl)
  have f_BadDays := exnB_ok (all_at cy 0)
  have x_BadDays : ∀ base : Heap, Exn P w K mg base "BadDays" (He.ga K "BadDays") "at" := fun base => xn_BadDays (y_at cs 0) f_BadDays hfl htop g_BadDays m_super
  have f_BadEvent := exnB_ok (all_at cy 1)
  have x_BadEvent : ∀ base : Heap, Exn P w K mg base "BadEvent" (He.ga K "BadEvent") "at" := fun base => xn_BadEvent (y_at cs 1) f_BadEvent hfl htop g_BadEvent m_super
  have teEE := of_decide_eq_true (all_at cx 0)
  have kEH := of_decide_eq_true (all_at cx 1)
  have kEC := of_decide_eq_true (all_at cx 2)
  have e := hfa.symm.trans g_law
  cases e
  have b := FunD.bindsA (ps := ["_law_script"]) F_law fun _ _ _ _ _ _ us hl => match us, hl with | [_], _ => rfl
  refine ⟨fd_law, fun s v => b s [v] rfl, fun base _ _ => ?_⟩
  have c_cell : Cal P w K mg base 1 "_law_cell" (spCell K) := cal_of F_cell g_cell b_cell (ok_cell F_cell m_len m_int)
  have c_draws : Cal P w K mg base 1 "_law_draws" spDraws := cal_of F_draws g_draws b_draws (ok_draws F_draws m_int m_abs m_range)
  have c_take : Cal P w K mg base 1 "_law_take" (spTake K) := cal_of F_take g_take b_take (ok_take F_take m_len)
  have c_check_days : CalX P w K mg base 3 "check_days" (spCheck (He.ga K "BadDays") K) := ⟨_, _, _, ok_check_days F_check_days m_len m_range (x_BadDays base), g_check_days, F_check_days.kp, b_check_days⟩
  have c_day_at : Cal P w K mg base 1 "day_at" (spDayAt K) := cal_of F_day_at g_day_at b_day_at (ok_day_at F_day_at m_len)
  have c_least_period : Cal P w K mg base 1 "least_period" (spLeast K) := cal_of F_least_period g_least_period b_least_period (ok_least_period F_least_period m_len m_range m_all)
  have c_common_divisor : Cal P w K mg base 1 "common_divisor" (spGcd K) := cal_of F_common_divisor g_common_divisor b_common_divisor (ok_common_divisor F_common_divisor m_abs)
  have k_DayRule : MakX P w K mg base 4 "DayRule" (He.ga K "DayRule") (spInit (He.ga K "DayRule") (He.ga K "BadDays") K) := ⟨_, _, _, mk_DayRule, ok_init F_DayRule___init__ cls_DayRule n_DayRule_days m_tuple c_check_days c_least_period, g_DayRule, b_DayRule___init__⟩
  have c_latest_days : Cal P w K mg base 2 "latest_days" (spLatD K) := cal_of F_latest_days g_latest_days b_latest_days (ok_latest_days F_latest_days m_len m_range m_max c_day_at)
  have me_soonest : Met P w K mg base 6 (He.ga K "DayRule") "soonest" (spSoonest (He.ga K "DayRule") K) := ⟨_, _, _, cls_DayRule, me_DayRule_soonest, ok_soonest F_DayRule_soonest m_len m_range cls_DayRule n_DayRule_days c_day_at c_latest_days k_DayRule, b_DayRule_soonest⟩
  have c_check_bounds : CalX P w K mg base 3 "check_bounds" (spChkB (He.ga K "BadEvent") K) := ⟨_, _, _, ok_check_bounds F_check_bounds m_enumerate (x_BadEvent base), g_check_bounds, F_check_bounds.kp, b_check_bounds⟩
  have c_common_period : Cal P w K mg base 2 "common_period" (spPerN (He.ga K "DayRule") K) := cal_of F_common_period g_common_period b_common_period (ok_common_period F_common_period m_len cls_DayRule n_DayRule_days c_common_divisor)
  have c_forces_of : Cal P w K mg base 7 "forces_of" (spForces (He.ga K "DayRule") K) := cal_of F_forces_of g_forces_of b_forces_of (ok_forces_of F_forces_of cls_DayRule n_DayRule_days me_soonest)
  have c_limit_of : Cal P w K mg base 1 "limit_of" (spLimit K) := cal_of F_limit_of g_limit_of b_limit_of (ok_limit_of F_limit_of m_len m_range m_max)
  have c_raise_days : Cal P w K mg base 2 "raise_days" (spRaise K) := cal_of F_raise_days g_raise_days b_raise_days (ok_raise_days F_raise_days m_len m_range m_list m_enumerate c_day_at)
  have c_ring_in : Cal P w K mg base 1 "ring_in" (spRingIn K) := cal_of F_ring_in g_ring_in b_ring_in (ok_ring_in F_ring_in m_len m_tuple)
  have c_plan_days : CalX P w K mg base 8 "plan_days" (spPlanE (He.ga K "DayRule") (He.ga K "BadEvent") K) := ⟨_, _, _, ok_plan_days F_plan_days m_tuple c_check_bounds c_forces_of c_common_period c_limit_of c_raise_days c_ring_in, g_plan_days, F_plan_days.kp, b_plan_days⟩
  have ch_whole : CalH P w K mg base 1 "_law_whole" spWhole := ⟨_, _, _, okh_whole F_whole m_isinstance m_int m_bool, g_whole, F_whole.kp, b_whole⟩
  have c_whole : Cal P w K mg base 1 "_law_whole" spWhole := cal_of F_whole g_whole b_whole (ok_whole F_whole m_isinstance m_int m_bool)
  have c_value : Cal P w K mg base 1 "_law_value" (spValue K) := cal_of F_value g_value b_value (ok_value F_value m_len m_int)
  have c_repeats : Cal P w K mg base 2 "_law_repeats" (spRepeats K) := cal_of F_repeats g_repeats b_repeats (ok_repeats F_repeats m_len m_range c_value)
  have c_least : Cal P w K mg base 3 "_law_least" (spLeastL K) := cal_of F_least g_least b_least (ok_least F_least m_len m_range c_repeats)
  have c_near_good : Cal P w K mg base 1 "_law_near_good" (spNear K) := cal_of F_near_good g_near_good b_near_good (ok_near_good F_near_good m_int m_range)
  have c_rule : Cal P w K mg base 2 "_law_rule" (spRuleL K) := cal_of F_rule g_rule b_rule (ok_rule F_rule m_int m_len m_range m_min m_max c_take c_near_good)
  have c_bound : Cal P w K mg base 3 "_law_bound" (spBound K) := cal_of F_bound g_bound b_bound (ok_bound F_bound m_int c_draws c_take c_rule)
  have c_bounds : Cal P w K mg base 4 "_law_bounds" (spBounds K) := cal_of F_bounds g_bounds b_bounds (ok_bounds F_bounds m_range c_cell c_bound)
  have c_wide : Cal P w K mg base 1 "_law_wide" spWide := cal_of F_wide g_wide b_wide (ok_wide F_wide m_int)
  have c_start : Cal P w K mg base 1 "_law_start" spStart := cal_of F_start g_start b_start (ok_start F_start m_int)
  have c_period : Cal P w K mg base 4 "_law_period" spPeriodL := cal_of F_period g_period b_period (ok_periodL F_period m_int m_range c_least)
  have c_passed : Cal P w K mg base 6 "_law_passed" (spPassed (He.ga K "DayRule") K) := cal_of F_passed g_passed b_passed (ok_passed F_passed k_DayRule)
  have c_plan : Cal P w K mg base 9 "_law_plan" (spPlanL K) := cal_of F_plan g_plan b_plan (ok_plan F_plan m_len m_isinstance m_tuple c_whole c_passed c_plan_days)
  have c_not_earlier : Cal P w K mg base 1 "_law_not_earlier" spNotE := cal_of F_not_earlier g_not_earlier b_not_earlier (ok_not_earlier F_not_earlier m_len m_range)
  have c_turned_from : Cal P w K mg base 7 "_law_turned_from" (spTurned (He.ga K "DayRule") K) := cal_of F_turned_from g_turned_from b_turned_from (ok_turned_from F_turned_from k_DayRule me_soonest)
  have c_refused : Cal P w K mg base 9 "_law_refused" (spRefd (He.ga K "DayRule") K) := cal_of F_refused g_refused b_refused (ok_refused F_refused m_isinstance g_HouseError g_BadEvent g_BadCount teEE f_BadEvent.ec kEH kEC f_BadEvent.xf f_BadEvent.no ch_whole c_plan_days)
  have c_refusals_hold : Cal P w K mg base 10 "_law_refusals_hold" spRefH := cal_of F_refusals_hold g_refusals_hold b_refusals_hold (ok_refusals_hold F_refusals_hold m_int m_len m_list m_tuple k_DayRule c_passed c_refused)
  exact ok_law F_law m_int m_len m_tuple m_range c_draws c_cell c_bounds c_wide c_start c_plan c_refusals_hold c_period c_not_earlier c_bound c_turned_from c_plan_days
end Z
open PySem PySem.W PySem.Calls PyProof.Rows
theorem PySem.Challenge.cw_signedpacts_k66_plan_moves_with_start_holds : PySem.Challenge.rw_signedpacts_k66_plan_moves_with_start.Holds := by
  w_on; o_law
  refine HandSHeadRun.head_any (r := OpenLaw.row PySem.Challenge.rw_signedpacts_k66_plan_moves_with_start) (q := view (OpenLaw.row PySem.Challenge.rw_signedpacts_k66_plan_moves_with_start).prog [44]) (H := Z.hk) (ob := Z.ob) (M := 8000) (loose := Z.loose) (d := HandSHeadRun.topDef (OpenLaw.row PySem.Challenge.rw_signedpacts_k66_plan_moves_with_start).prog 44) (kwd := []) Z.ob_eq
    (by kernel_rfl) (fun s => by kernel_rfl) Z.run (by kernel_rfl) (by kernel_rfl) (by kernel_rfl) (by rfl) (by first | assumption | decide +kernel) (by decide +kernel) ⟨rfl, rfl, rfl, rfl, rfl, by decide +kernel⟩ ?hw ?hc
  case hw => w_witness2
  case hc =>
    refine L2.walk_ofE (l := PySem.Challenge.rw_signedpacts_k66_plan_moves_with_start) (n := 63) (k := 11) (x := "_law_script") (CX := L2.CX0) rfl (by decide) (by kernel_rfl) ⟨rfl, by decide, by decide⟩ ?F (fun _ _ _ _ z => z)
    intro w mg fa h Y G hmg0
    obtain ⟨K, KX, c, cs, cx⟩ := Y
    have hmg : mg ("law" : PySem.Str) = some (.ref fa) := by
      have e : (HandSHeadRun.topDef (OpenLaw.row PySem.Challenge.rw_signedpacts_k66_plan_moves_with_start).prog 44).name = ("law" : PySem.Str) := by kernel_rfl
      rw [← e]
      exact hmg0
    obtain ⟨fd, hb, hF⟩ := Z.facts (P := (PySem.Challenge.rw_signedpacts_k66_plan_moves_with_start).prog) (w := w) KX G hmg c cs cx (by kernel_rfl) (by kernel_rfl)
    exact ⟨K, fd, Z.spLaw K, KX, hb, fun H a ns hl _ hS => ⟨a, ns, rfl, hS, hl, fun _ => rfl⟩, hF⟩
