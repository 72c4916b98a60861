import PyProof.Rows.All
import Wide.All
import OpenK.AllK
import Wide.FinOn
import HandS.ForMost
import HandS.Zip
import HandS.TupMul
import HandS.Codes
import KE.GoesMore
import KE.GoesEnum
import HandS.Defaults
import HandS.IsInst
import HandS.Wide
import HandS.WideBits
import HandS.NoneIn
import HandS.OwnEq
import HandS.Star
import HandS.SetTxtIn
import HandS.ExcInit
import HandS.ExcField
import HandS.ExcIs
import HandS.Nested
import HandS.ClsMeth
import HandS.HeadHook1
import KE.KSuper
import KE.KExcSuper
import HandS.WordsExc
import KE.KExcIs
import HandS.HeadHook2
import HandS.Property
import HandS.TupAny
import KE.KEqDeep
import HandS.Head0
import HandS.Head1
import HandS.Head2
import HandS.HeadEnd
import PySem.Challenge.RW_signedpacts_k60_day_rule_values
set_option Elab.async false
set_option linter.all false
set_option maxRecDepth 100000
set_option maxHeartbeats 4000000
namespace Z
open PySem PySem.Spec PyProof.Rows L2
/-! ### zip over two sequences, each a list (true) or a tuple (false) -/
def SqK (b : Bool) (K : PySem.W.Frag) (H : Hp) (a : Addr) (xs : List V) : Prop := match b with
  | true => SqL K H a xs
  | false => SqT K H a xs
def ItK (b : Bool) (h : Heap) (it l : Addr) (i : Nat) : Prop := match b with
  | true => h.IsListIter it l i
  | false => h.IsTupleIter it l i
def IsK (b : Bool) (h : Heap) (l : Addr) (xs : Array Value) : Prop := match b with
  | true => h.IsList l xs
  | false => h.IsTuple l xs
theorem ItK.at' {b : Bool} {h h' : Heap} {it l : Addr} {i : Nat} (x : ItK b h it l i) (k : ∀ o, h.get? it = some o → h'.get? it = some o) : ItK b h' it l i := by
  cases b
  · exact Heap.IsTupleIter.at x k
  · exact Heap.IsListIter.at x k
theorem ItK.obj {b : Bool} {h : Heap} {it l : Addr} {i : Nat} (x : ItK b h it l i) : ∃ o, h.get? it = some o ∧ ∀ v, o.data ≠ .cell v := by
  cases b
  · obtain ⟨o, e, _, d⟩ := (show h.IsTupleIter it l i from x)
    exact ⟨o, e, fun v q => by rw [d] at q; cases q⟩
  · obtain ⟨o, e, _, d⟩ := (show h.IsListIter it l i from x)
    exact ⟨o, e, fun v q => by rw [d] at q; cases q⟩
theorem sqk_is {X : Cx} {pins : List (Addr × Obj)} {σ : L2.St} {H : Hp} {s : Shared} {b : Bool} {a : Addr} {xs : List V} (I : Inv X pins σ H s) (h : SqK b X.K H a xs) :
    ∃ its : List Value, Vals xs its ∧ IsK b s.heap a its.toArray ∧ a < s.heap.objs.size := by
  cases b
  · obtain ⟨its, r, p, _⟩ := I.tuple h
    obtain ⟨o, ho, _⟩ := id p
    exact ⟨its, r, p, Heap.lt_size ho⟩
  · obtain ⟨its, r, p, _⟩ := I.list h
    exact ⟨its, r, p.isList, p.lt⟩
theorem sqk_inj {X : Cx} {pins : List (Addr × Obj)} {σ : L2.St} {H : Hp} {s : Shared} {b : Bool} {a : Addr} {xs ys : List V} (I : Inv X pins σ H s) (h : SqK b X.K H a xs) (h' : SqK b X.K H a ys) : xs = ys := by
  cases b
  · exact I.tuple_inj h h'
  · exact I.list_inj h h'
theorem drawsK {prog : Program} {w : World} {A : Around} (b : Bool) (hh : A.handled = none) (it l : Addr) (hne : l ≠ it) (items : Array Value) :
    Draws prog w A it [it, l] items.size (fun i v => items[i]? = some v) (fun i h => ItK b h it l i ∧ IsK b h l items) := by
  cases b
  · exact Draws.tuple hh it l hne items
  · exact Draws.list hh it l hne items
def ItzM (p q : Bool) (K : PySem.W.Frag) (a b : Addr) : It :=
  ⟨fun i H => ∃ (xs ys : List V) (x y : V), SqK p K H a xs ∧ SqK q K H b ys ∧ xs[i]? = some x ∧ ys[i]? = some y,
   fun i H v H' => ∃ T x y, v = .ref T ∧ H T = none ∧ H' = upd H T (.tup [x, y]) ∧ (∀ xs, SqK p K H a xs → xs[i]? = some x) ∧ (∀ ys, SqK q K H b ys → ys[i]? = some y),
   fun i H => ∃ xs ys : List V, SqK p K H a xs ∧ SqK q K H b ys ∧ (xs.length ≤ i ∨ ys.length ≤ i) ∧ i ≤ xs.length ∧ i ≤ ys.length⟩
theorem zsep {z TI TO i1 i2 a b : Addr} (D : ZipApart z TI TO i1 i2 a b) : ZipSep2 z TI TO i1 i2 [i1, a] [i2, b] where
  TIz := D.TIz
  TOz := D.TOz
  TITO := D.TITO
  TIi1 := D.TIi1
  mem1 := List.mem_cons_self
  zf1 := fun h => by rcases List.mem_cons.mp h with e | h; exact D.i1z e.symm; exact D.l1z (List.mem_singleton.mp h).symm
  Tf1 := fun h => by rcases List.mem_cons.mp h with e | h; exact D.TOi1 e; exact D.l1TO (List.mem_singleton.mp h).symm
  TIi2 := D.TIi2
  mem2 := List.mem_cons_self
  zf2 := fun h => by rcases List.mem_cons.mp h with e | h; exact D.i2z e.symm; exact D.l2z (List.mem_singleton.mp h).symm
  Tf2 := fun h => by rcases List.mem_cons.mp h with e | h; exact D.TOi2 e; exact D.l2TO (List.mem_singleton.mp h).symm
  sep1_2 := fun h => by rcases List.mem_cons.mp h with e | h; exact D.i12 e; exact D.l2i1 (List.mem_singleton.mp h).symm
  sep2_1 := fun h => by rcases List.mem_cons.mp h with e | h; exact D.i12 e.symm; exact D.l1i2 (List.mem_singleton.mp h).symm
theorem five {c z TI TO i1 i2 : Addr} {Pr : Addr → Prop} (hc : c ∈ [z, TI, TO, i1, i2]) (a : Pr z) (b : Pr TI) (d : Pr TO) (e : Pr i1) (f : Pr i2) : Pr c := by
  have q : c = z ∨ c = TI ∨ c = TO ∨ c = i1 ∨ c = i2 := by simpa using hc
  rcases q with rfl | rfl | rfl | rfl | rfl <;> assumption
theorem turn_zipM {p q : Bool} {P : Program} {w : World} {K : PySem.W.Frag} {elts : List Expr} {kk : Nat} {tpos : Pos} {a b z TI TO i1 i2 : Addr} (D : ZipApart z TI TO i1 i2 a b) :
    Turn P w K (.Tuple elts kk tpos) (ItzM p q K a b) [z, TI, TO, i1, i2] z (fun i h => IsZip h z TI TO .none ∧ IsTupOf2 h TI (.ref i1) (.ref i2) ∧ (∃ x y, IsTupOf2 h TO x y) ∧ ItK p h i1 a i ∧ ItK q h i2 b i) where
  mem := by simp
  obj := fun i h st c hc => by
    obtain ⟨hz, hI, ⟨x, y, hO⟩, h1, h2⟩ := st
    exact five (Pr := fun c => ∃ o, h.get? c = some o ∧ ∀ v, o.data ≠ .cell v) hc ⟨_, hz, fun v q => nomatch q⟩ ⟨_, hI, fun v q => nomatch q⟩ ⟨_, hO, fun v q => nomatch q⟩ h1.obj h2.obj
  keep := fun i h h' st k => by
    obtain ⟨hz, hI, ⟨x, y, hO⟩, h1, h2⟩ := st
    exact ⟨k z (by simp) _ hz, k TI (by simp) _ hI, ⟨x, y, k TO (by simp) _ hO⟩, h1.at' (fun o e => k i1 (by simp) o e), h2.at' (fun o e => k i2 (by simp) o e)⟩
  item := by
    intro X hP hw hK hc i pins s σ H E I hf st hg
    subst hP hw hK
    obtain ⟨hz, hI, ⟨x0, y0, hO⟩, h1, h2⟩ := st
    obtain ⟨xs, ys, x, y, qx, qy, ex, ey⟩ := hg
    obtain ⟨us, rx, kx, _⟩ := sqk_is I qx
    obtain ⟨vs, ry, ky, _⟩ := sqk_is I qy
    obtain ⟨u, eu, ru⟩ := rx.get ex
    obtain ⟨v, ev, rv⟩ := ry.get ey
    have hzl : z < s.heap.objs.size := Heap.lt_size hz
    have lu : i < us.toArray.size := by simpa using (List.getElem?_eq_some_iff.mp eu).1
    have lv : i < vs.toArray.size := by simpa using (List.getElem?_eq_some_iff.mp ev).1
    have hh : X.A.in1.handled = none := I.ok.hd hc
    refine wpAny_pyNext_zipD2_item (zsep D) (drawsK p hh i1 a D.l1i1 us.toArray) (drawsK q hh i2 b D.l2i2 vs.toArray) hz hI hO ⟨h1, kx⟩ ⟨h2, ky⟩ lu lv fun m1 m2 g tk p1 p2 gz gO g1 g2 gT gs gk => ?_
    have e1 : m1 = u := by
      have t1 : us.toArray[i]? = some u := by simpa using eu
      exact Option.some.inj (p1.symm.trans t1)
    have e2 : m2 = v := by
      have t1 : vs.toArray[i]? = some v := by simpa using ev
      exact Option.some.inj (p2.symm.trans t1)
    subst e1 e2
    refine ⟨_, rfl, wpAny_letOwnedTupleGo_zip (s := { s with heap := g, toks := tk }) gz fun g' gz' sb => ?_⟩
    have gT' : g'.get? s.heap.objs.size = some { cls := .type "tuple", data := .seq #[m1, m2] } := (sb.2 _ (Nat.ne_of_gt hzl)).trans gT
    have nw : ObjOk X.prog X.w (upd H s.heap.objs.size (.tup [x, y])) g' s.heap.objs.size (.tup [x, y]) := ⟨by show 2 ≤ sizeLine; decide, [m1, m2], .cons ru (.cons rv .nil), ⟨_, gT', rfl, _, rfl⟩⟩
    have I1 : Inv X pins σ (upd H s.heap.objs.size (.tup [x, y])) { s with heap := g', toks := tk } :=
      I.turnedNew (t' := tk) (ch := [z, TI, TO, i1, i2]) (fun c o nb e => (sb.2 c (fun w => nb (by simp [w]))).trans (gk c o (fun w => nb (by simp [w])) (fun w => nb (by simp [w])) (fun w => nb (by simp [w])) (fun w => nb (by simp [w])) e)) hf (Nat.le_refl _) nw
    refine ⟨.ref s.heap.objs.size, _, I1, rfl, ⟨_, x, y, rfl, I.hok.fresh (Nat.le_refl _), rfl, fun l hl => by rw [sqk_inj I hl qx]; exact ex, fun l hl => by rw [sqk_inj I hl qy]; exact ey⟩, ⟨gz', ?_, ⟨m1, m2, ?_⟩, ?_, ?_⟩, fun c hcm => ?_⟩
    · exact (sb.2 _ D.TIz).trans (gk _ _ D.TIz D.TITO D.TIi1 D.TIi2 hI)
    · exact (sb.2 _ D.TOz).trans gO
    · exact ItK.at' g1.1 (fun o e => (sb.2 _ D.i1z).trans e)
    · exact ItK.at' g2.1 (fun o e => (sb.2 _ D.i2z).trans e)
    · have lt : c < s.heap.objs.size := by
        obtain ⟨o1, q1, _⟩ := h1.obj
        obtain ⟨o2, q2, _⟩ := h2.obj
        exact five (Pr := fun c => c < s.heap.objs.size) hcm hzl (Heap.lt_size hI) (Heap.lt_size hO) (Heap.lt_size q1) (Heap.lt_size q2)
      rw [upd_ne (Nat.ne_of_lt lt)]
      exact (hf c hcm).1
  done := by
    intro X hP hw hK hc i pins s σ H E I hf st hg
    subst hP hw hK
    obtain ⟨hz, hI, ⟨x0, y0, hO⟩, h1, h2⟩ := st
    obtain ⟨xs, ys, qx, qy, hend, le1, le2⟩ := hg
    obtain ⟨us, rx, kx, _⟩ := sqk_is I qx
    obtain ⟨vs, ry, ky, _⟩ := sqk_is I qy
    have l1 := rx.length
    have l2 := ry.length
    have n1 : us.toArray.size = us.length := by simp
    have n2 : vs.toArray.size = vs.length := by simp
    have hh : X.A.in1.handled = none := I.ok.hd hc
    refine wpAny_pyNext_zipD2_end (i := i) (zsep D) (drawsK p hh i1 a D.l1i1 us.toArray) (drawsK q hh i2 b D.l2i2 vs.toArray) hz hI hO ⟨h1, kx⟩ ⟨h2, ky⟩ (by omega) (by omega) (by omega) fun g tk gk => ?_
    exact ⟨rfl, I.turnedL (t' := tk) (ch := [z, TI, TO, i1, i2]) (fun c o nb e => gk c o (fun w => nb (by simp [w])) (fun w => nb (by simp [w])) (fun w => nb (by simp [w])) (fun w => nb (by simp [w])) e) hf⟩
  self := fun A i s Q E st h => wpAny_pyIter_zip st.1 h
def iZipM (K : PySem.W.Frag) (ta : TA) : TI := fun σ H R => ta σ H fun vs H1 => ∃ p q a b xs ys, vs = [.ref a, .ref b] ∧ SqK p K H1 a xs ∧ SqK q K H1 b ys ∧ R (ItzM p q K a b) H1
theorem begK {p : Bool} {h : Heap} {a : Addr} {xs : Array Value} (k : IsK p h a xs) : ∃ o Hp', Begins (.ref a) o Hp' ∧ Hp' h ∧ ∀ h' it, h'.get? it = some o → ItK p h' it a 0 := by
  cases p
  · exact ⟨_, _, begins_tuple a xs, k, fun h' it e => ⟨_, e, rfl, rfl⟩⟩
  · exact ⟨_, _, begins_list a xs, k, fun h' it e => ⟨_, e, rfl, rfl⟩⟩
theorem pi_zipM {X : Cx} {e e2 : Expr} {ta : TA} {p pos tpos : Pos} {elts : List Expr} {kk : Nat} (hg : Gl X "zip") (hm : X.mg "zip" = none) (ha : PA X [e, e2] ta)
    (hs : starEach [e, e2] X.env = (false, eval e X.env) :: starEach [e2] X.env := by rfl) (hpl : (backTo pos (starEach [e2] X.env)).any (·.1) = false := by rfl) :
    PI X (.Tuple elts kk tpos) (.Call (.Name "zip" p) [e, e2] [] pos) (iZipM X.K ta) := by
  constructor
  intro pins s σ H R I h
  refine Call_ (ld_blt I hg hm PyProof.Rows.boot_zip (PyProof.Rows.callWith_type1 (thn (ha.run pos pins s σ H _ I h) fun us s1 ⟨vs, H1, I1, r1, q1⟩ => ?_) hs hpl))
  obtain ⟨k1, k2, a, b, xs, ys, ex, qx, qy, q⟩ := q1
  subst ex
  obtain ⟨u, v, rfl, ru, rv⟩ := Vals.two r1
  cases ru
  cases rv
  obtain ⟨i1, _, p1, lt1⟩ := sqk_is I1 qx
  obtain ⟨i2, _, p2, lt2⟩ := sqk_is I1 qy
  obtain ⟨o1, G1, B1, g1, w1⟩ := begK p1
  obtain ⟨o2, G2, B2, g2, w2⟩ := begK p2
  refine zip_begins2 B1 B2 g1 g2 fun h' hz hI hO e1 e2 hsz hk => wpAny_pyIter_zip hz ?_
  have I2 : Inv X pins σ H1 { s1 with heap := h' } := I1.kept (t' := s1.toks) hk
  refine ⟨s1.heap.objs.size + 4, [s1.heap.objs.size + 4, s1.heap.objs.size + 2, s1.heap.objs.size + 3, s1.heap.objs.size, s1.heap.objs.size + 1], _, _, H1, rfl, I2, turn_zipM (PySem.W.ktu_apart s1.heap.objs.size a b lt1 lt2), ⟨hz, hI, ⟨_, _, hO⟩, w1 _ _ e1, w2 _ _ e2⟩, fun c hcm => ?_, q⟩
  have hle : s1.heap.objs.size ≤ c := five (Pr := fun c => s1.heap.objs.size ≤ c) hcm (Nat.le_add_right _ _) (Nat.le_add_right _ _) (Nat.le_add_right _ _) (Nat.le_refl _) (Nat.le_add_right _ _)
  exact I1.fpOk hle (I1.hok.fresh hle)
end Z
set_option Elab.async false
set_option linter.all false
set_option maxRecDepth 100000
set_option maxHeartbeats 4000000
namespace Z
open PySem PySem.Spec PyProof.Rows L2
/-! ### (v,) * k for 0 ≤ k -/
theorem tmul0 (l : Addr) (v : Value) (n : Nat) (dd : Option Addr) (sl : Array (Option Value)) (u : Tok) :
    Meets (Builtin.«tuple.__mul__» ⟨[.ref l, .int 0 u], []⟩) (fun _ R s => s.heap.get? l = some { cls := .type "tuple", dict := dd, data := .seq #[v] n, slots := sl } ∧
      R (.ok (.ret (Value.ref s.heap.objs.size))) { s with heap := s.heap.push { cls := Value.type "tuple", data := Data.seq #[] }, toks := s.toks }) :=
  .of_wp fun prog w A R s h => by
    obtain ⟨hp, g, d, tk, os⟩ := s
    obtain ⟨hl, h⟩ := h
    have f1 := AutoSeq1.idx_int
    wp_walk using AutoSeq1.wpAny_loadPart' hl
    exact ⟨_, rfl, h⟩
theorem tmul1 (l : Addr) (items : Array Value) (n : Nat) (dd : Option Addr) (sl : Array (Option Value)) (u : Tok) :
    Meets (Builtin.«tuple.__mul__» ⟨[.ref l, .int 1 u], []⟩) (fun _ R s => s.heap.get? l = some { cls := .type "tuple", dict := dd, data := .seq items n, slots := sl } ∧ R (.ok (.ret (Value.ref l))) s) :=
  .of_wp fun prog w A R s h => by
    obtain ⟨hp, g, d, tk, os⟩ := s
    obtain ⟨hl, h⟩ := h
    have f1 := AutoSeq1.idx_int
    wp_walk using AutoSeq1.wpAny_loadPart' hl
    exact ⟨_, rfl, h⟩
theorem same_new {H : Hp} {p : Addr} {o : HO} (h : H p = none) : Same H (upd H p o) := fun b x e => by
  rw [upd_ne (ne_of_none e h)]
  exact e
def rRepU : R2 := fun x y H Q => ∃ l k v, x = .ref l ∧ y = .int k ∧ H l = some (.tup [v]) ∧ 0 ≤ k ∧ k ≤ 1000 ∧ ∀ p H', Same H H' → H' p = some (.tup (List.replicate k.toNat v)) → Q (.ref p) H'
theorem op_repU {X : Cx} : OpR X (binaryOp .Mult) rRepU := by
  intro pins s σ H x y vv uu Q I rx ry h
  obtain ⟨l, k, v, rfl, rfl, hT, h0, h1, q⟩ := id h
  by_cases k2 : 2 ≤ k
  · refine op_repT pins s σ H _ _ vv uu Q I rx ry ⟨l, k, [v], rfl, rfl, .inl (.inl hT), by simp, k2, h1, by simp, fun p np => q p _ (same_new np) ?_⟩
    rw [upd_same]
    congr 2
    generalize k.toNat = m
    induction m with
    | zero => rfl
    | succ m ih => rw [List.replicate_succ, List.flatten_cons, ih, List.replicate_succ]; rfl
  · cases rx
    obtain ⟨t, rfl⟩ := ry
    obtain ⟨its, r, ⟨⟨cls, dd, data, sl⟩, ho, hc, n, hd⟩, hs⟩ := I.tuple (.inl (.inl hT) : SqT X.K H l [v])
    simp only at hc hd
    subst hc hd
    obtain ⟨u, rfl, ru⟩ := Vals.one r
    by_cases k1 : k = 1
    · subst k1
      refine wpAny_binaryOp_repeat_ref (T := "tuple") (U := "int") (by decide) ⟨_, ho, rfl⟩ (fun s' => typeIs_int s' 1 t) noFill_tuple_mul F.fills_int_mul F.slot_int_rmul repeat_tuple F.slot_int_index.lookup
        (call_meets F.slot_int_rmul (typeIs_int s 1 t) F.entry_int_rmul (F.args_int_rmul_2 _ _) (int_rmul_tuple 1 t l [u].toArray n dd sl)
          ⟨ho, rfl, ⟨_, ho, rfl⟩, call_meets F.slot_tuple_mul ⟨_, ho, rfl⟩ F.entry_tuple_mul (F.args_tuple_mul_2 _ _) (tmul1 l [u].toArray n dd sl t) ⟨ho, ?_⟩⟩)
      exact ⟨.ref l, H, I, rfl, q l H (Same.refl H) hT⟩
    · have k0 : k = 0 := by omega
      subst k0
      refine wpAny_binaryOp_repeat_ref (T := "tuple") (U := "int") (by decide) ⟨_, ho, rfl⟩ (fun s' => typeIs_int s' 0 t) noFill_tuple_mul F.fills_int_mul F.slot_int_rmul repeat_tuple F.slot_int_index.lookup
        (call_meets F.slot_int_rmul (typeIs_int s 0 t) F.entry_int_rmul (F.args_int_rmul_2 _ _) (int_rmul_tuple 0 t l [u].toArray n dd sl)
          ⟨ho, rfl, ⟨_, ho, rfl⟩, call_meets F.slot_tuple_mul ⟨_, ho, rfl⟩ F.entry_tuple_mul (F.args_tuple_mul_2 _ _) (tmul0 l u n dd sl t) ⟨ho, ?_⟩⟩)
      refine ⟨.ref s.heap.objs.size, _, I.laid (t' := s.toks) (o := .tup []) (fun b ob z => Heap.get?_push_of_some _ z) (Nat.le_refl _) ?_, rfl, q _ _ (same_new (I.hok.fresh (Nat.le_refl _))) upd_same⟩
      exact ⟨Nat.zero_le _, [], .nil, IsTup.new _ _⟩
/-! ### loops and comprehensions over any iterator -/
def forW (J : It) (g : TG) (tb : TS) (D : Ends) (σ : L2.St) (H : Hp) : Prop := ∃ W : Nat → Nat → L2.St → Hp → Prop, (∃ m, W 0 m σ H) ∧ ∀ i m σ H, W i m σ H →
  (J.stop i H ∧ D.nx σ H) ∨ (J.go i H ∧ ∃ N : L2.St → Hp → Prop, (∀ σ' H', N σ' H' → ∃ m', m' < m ∧ W (i + 1) m' σ' H') ∧ ∀ x H', J.yld i H x H' → g x σ H' fun σ2 H2 => tb { D with nx := N, ct := N, bk := D.nx } σ2 H2)
theorem for_gen {J : It} {n : Nat} {g : TG} {tb : TS} {D : Ends} {σ : L2.St} {H : Hp} (Pv : Nat → L2.St → Hp → Prop) (h0 : Pv 0 σ H) (hgo : ∀ i σ H, i < n → Pv i σ H → J.go i H) (hst : ∀ σ H, Pv n σ H → J.stop n H)
    (hs : ∀ i σ H x H', i < n → Pv i σ H → J.yld i H x H' → g x σ H' fun σ2 H2 => tb { D with nx := Pv (i + 1), ct := Pv (i + 1), bk := D.nx } σ2 H2) (hd : ∀ σ H, Pv n σ H → D.nx σ H) : forW J g tb D σ H := by
  refine ⟨fun i m σ H => m = n - i ∧ i ≤ n ∧ Pv i σ H, ⟨n, by omega, Nat.zero_le _, h0⟩, fun i m σ H w => ?_⟩
  obtain ⟨rfl, hi, p⟩ := w
  by_cases hlt : i < n
  · exact .inr ⟨hgo i σ H hlt p, Pv (i + 1), fun σ' H' z => ⟨n - (i + 1), by omega, rfl, hlt, z⟩, fun x H' y => hs i σ H x H' hlt p y⟩
  · have e : i = n := by omega
    subst e
    exact .inl ⟨hst σ H p, hd σ H p⟩
def lcW (J : It) (g : TG) (tt : TT) (te : TE) (vs : List Nat) (σ : L2.St) (D : Addr) (Qd : Hp → Prop) (H1 : Hp) : Prop := ∃ W : Nat → Nat → Hp → Prop, (∃ m, W 0 m (upd H1 D (.lst []))) ∧ ∀ i m H, W i m H →
  (J.stop i H ∧ Qd H) ∨ (J.go i H ∧ ∃ Nx : Hp → Prop, (∀ H', Nx H' → ∃ m', m' < m ∧ W (i + 1) m' H') ∧ ∀ x H', J.yld i H x H' → g x (wipe σ vs) H' fun σ2 H2 => wipe σ2 vs = wipe σ vs ∧ tt σ2 H2 fun b H3 =>
    if b = true then te σ2 H3 fun y H4 => ∃ acc, H4 D = some (.lst acc) ∧ acc.length < sizeLine ∧ Nx (upd H4 D (.lst (acc ++ [y]))) else Nx H3)
theorem lc_gen {J : It} {n : Nat} {g : TG} {tt : TT} {te : TE} {vs : List Nat} {σ : L2.St} {H1 : Hp} {D : Addr} {Qd : Hp → Prop} (Pv : Nat → Hp → Prop) (h0 : Pv 0 (upd H1 D (.lst []))) (hgo : ∀ i H, i < n → Pv i H → J.go i H) (hst : ∀ H, Pv n H → J.stop n H)
    (hs : ∀ i H x H', i < n → Pv i H → J.yld i H x H' → g x (wipe σ vs) H' fun σ2 H2 => wipe σ2 vs = wipe σ vs ∧ tt σ2 H2 fun b H3 =>
      if b = true then te σ2 H3 fun y H4 => ∃ acc, H4 D = some (.lst acc) ∧ acc.length < sizeLine ∧ Pv (i + 1) (upd H4 D (.lst (acc ++ [y]))) else Pv (i + 1) H3) (hd : ∀ H, Pv n H → Qd H) : lcW J g tt te vs σ D Qd H1 := by
  refine ⟨fun i m H => m = n - i ∧ i ≤ n ∧ Pv i H, ⟨n, by omega, Nat.zero_le _, h0⟩, fun i m H w => ?_⟩
  obtain ⟨rfl, hi, p⟩ := w
  by_cases hlt : i < n
  · exact .inr ⟨hgo i H hlt p, Pv (i + 1), fun H' z => ⟨n - (i + 1), by omega, rfl, hlt, z⟩, fun x H' y => hs i H x H' hlt p y⟩
  · have e : i = n := by omega
    subst e
    exact .inl ⟨hst H p, hd H p⟩
/-! ### a def of the module that may be called by its name -/
structure Cal (P : Program) (w : World) (K : PySem.W.Frag) (mg : Str → Option Value) (base : Heap) (k : Nat) (x : Str) (sp : Sp) : Prop where
  ex : ∃ (f : Addr) (fd : FuncData) (ps : List Str), FnOk P w K mg base CX0 k f fd ps sp ∧ mg x = some (.ref f) ∧ PySem.W.keepIn K (.ref f) = true ∧ Binds K fd ps []
section
variable {X : Cx} {k j : Nat} {x : Str} {sp : Sp} {p pos : Pos} {e : Expr} {es : List Expr} {t : TA}
theorem pe_cl (c : Cal X.prog X.w X.K X.mg X.base k x sp) (hr : Room j X.A) (hk : k ≤ j) (hg : Gl X x) (ha : PA X (e :: es) t)
    (hdb : (x == ("__debug__" : Str)) = false := by decide) (he : starEach (e :: es) X.env = (false, eval e X.env) :: starEach es X.env := by rfl) (hpl : (backTo pos (starEach es X.env)).any (·.1) = false := by rfl) : PE X (.Call (.Name x p) (e :: es) [] pos) (tCall sp [] E0 t) := by
  obtain ⟨f, fd, ps, F, hm, kp, b⟩ := c.ex
  exact pe_call F (hr.mono hk) hg hm kp b .nil pass0 ha hdb he hpl
end
structure CalK (P : Program) (w : World) (K : PySem.W.Frag) (mg : Str → Option Value) (base : Heap) (k : Nat) (x : Str) (n : Nat) (ks : List Str) (gV : List V → List V → List V) (sp : Sp) : Prop where
  ex : ∃ (f : Addr) (fd : FuncData) (ps : List Str) (g : List Value → List Value → List Value), FnOk P w K mg base CX0 k f fd ps sp ∧ mg x = some (.ref f) ∧ PySem.W.keepIn K (.ref f) = true ∧ KBn K fd ps n ks g gV
section
variable {X : Cx} {k j n : Nat} {x : Str} {sp : Sp} {ks : List Str} {gV : List V → List V → List V} {p pos : Pos} {e : Expr} {es : List Expr} {kws : List Keyword} {t tk : TA}
theorem pe_clK (c : CalK X.prog X.w X.K X.mg X.base k x n ks gV sp) (hr : Room j X.A) (hk : k ≤ j) (hg : Gl X x) (ha : PA X (e :: es) t) (hkw : PK X kws tk)
    (hall : (backToKw pos (keywordEach kws X.env)).all (·.1.isSome) = true := by rfl) (hks : (backToKw pos (keywordEach kws X.env)).filterMap (·.1) = ks := by rfl) (hdb : (x == ("__debug__" : Str)) = false := by decide)
    (he : starEach (e :: es) X.env = (false, eval e X.env) :: starEach es X.env := by rfl) (hpl : ((backTo pos (starEach (e :: es) X.env)).any (·.1) || (backToKw pos (keywordEach kws X.env)).any (·.1.isNone)) = false := by rfl) :
    PE X (.Call (.Name x p) (e :: es) kws pos) (tCallN n ks.length sp gV E0 t tk) := by
  obtain ⟨f, fd, ps, g, F, hm, kp, b⟩ := c.ex
  exact pe_callN F (hr.mono hk) hg hm kp b pass0 ha hkw hall hks hdb he hpl
end
/-! ### heaps -/
/-- all but p stands -/
def SB (p : Addr) (H H' : Hp) : Prop := ∀ b o, b ≠ p → H b = some o → H' b = some o
theorem Same.sb {p : Addr} {H H' : Hp} (s : Same H H') : SB p H H' := fun b o _ h => s b o h
theorem SB.trans {p : Addr} {H H1 H2 : Hp} (a : SB p H H1) (b : SB p H1 H2) : SB p H H2 := fun c o n h => b c o n (a c o n h)
theorem SB.upd {p : Addr} {H H' : Hp} {o : HO} (s : SB p H H') : SB p H (upd H' p o) := fun b u n h => by
  rw [upd_ne n]
  exact s b u n h
theorem SB.same {p : Addr} {H H' : Hp} (s : SB p H H') (n : H p = none) : Same H H' := fun b o h => s b o (ne_of_none h n) h
theorem Same.mut {p : Addr} {H H' : Hp} {o : HO} (s : Same H H') (n : H p = none) : Same H (L2.upd H' p o) := fun b u h => by
  rw [upd_ne (ne_of_none h n)]
  exact s b u h
theorem SB.sq {K : PySem.W.Frag} {p a : Addr} {H H' : Hp} {xs : List V} (s : SB p H H') (n : a ≠ p) (h : SqL K H a xs) : SqL K H' a xs := by
  rcases h with (h | ⟨o, h⟩) | h
  · exact .inl (.inl (s _ _ n h))
  · exact .inl (.inr ⟨o, s _ _ n h⟩)
  · exact .inr h
theorem Same.sqT {K : PySem.W.Frag} {a : Addr} {H H' : Hp} {xs : List V} (s : Same H H') (h : SqT K H a xs) : SqT K H' a xs := by
  rcases h with (h | ⟨o, h⟩) | h
  · exact .inl (.inl (s _ _ h))
  · exact .inl (.inr ⟨o, s _ _ h⟩)
  · exact .inr h
theorem Same.sqK {b : Bool} {K : PySem.W.Frag} {a : Addr} {H H' : Hp} {xs : List V} (s : Same H H') (h : SqK b K H a xs) : SqK b K H' a xs := by
  cases b
  · exact Z.Same.sqT s h
  · exact s.seq h
theorem at_map {α : Type} {f : α → V} {xs : List α} {i : Nat} {x : α} (h : xs[i]? = some x) : atI (xs.map f) (i : Int) = some (f x) := atI_nat (by rw [List.getElem?_map, h]; rfl)
theorem of_map {α : Type} {f : α → V} {xs : List α} {i : Nat} {v : V} (h : (xs.map f)[i]? = some v) : ∃ x, xs[i]? = some x ∧ v = f x := by
  rw [List.getElem?_map] at h
  cases e : xs[i]? with
  | none => rw [e] at h; cases h
  | some x => rw [e] at h; exact ⟨x, rfl, (Option.some.inj h).symm⟩
end Z
set_option Elab.async false
set_option linter.all false
set_option maxRecDepth 100000
set_option maxHeartbeats 4000000
namespace Z
open PySem PySem.Spec PyProof.Rows L2
open C8 (pss_cut tCut)
local macro_rules | `(tactic| walk_at "num") => `(tactic| first | omega | decide | exact ⟨by omega, by omega⟩ | exact ⟨by omega, by omega, by omega⟩ | exact ⟨by decide, by decide, by decide⟩ | exact Or.inl ⟨by omega, by omega⟩ | exact Or.inr ⟨by omega, by omega⟩)
local macro_rules | `(tactic| walk_at "go") => `(tactic| repeat (first | refine ⟨_, rfl, ?_⟩ | refine ⟨_, _, rfl, rfl, ?_⟩ | refine ⟨_, _, rfl, rfl, (by walk_at "num"), ?_⟩ | refine Or.inl ⟨_, rfl, ?_⟩ | refine ⟨rfl, ?_⟩ | refine And.intro (by walk_at "num") ?_))
def topS (i : Nat) : Stmt := PySem.Challenge.pw_signedpacts_k60_day_rule_values.main.body.getD i (.Pass ⟨0, 0, 0, 0⟩)
abbrev s_cell : Stmt := topS 15
abbrev N_cell : List Str := ["_law_script", "_law_k"]
abbrev P_cell : List Str := ["_law_script", "_law_k"]
theorem sc_cell : FnScope N_cell P_cell (defScope s_cell) := ⟨rfl, rfl, rfl, by decide +kernel, rfl, by decide +kernel, by decide +kernel⟩
abbrev s_draws : Stmt := topS 16
abbrev N_draws : List Str := ["_law_cell_here", "_law_many", "_law_rest", "_law_large", "_law_seed", "_law_found", "_law_k"]
abbrev P_draws : List Str := ["_law_cell_here", "_law_many"]
theorem sc_draws : FnScope N_draws P_draws (defScope s_draws) := ⟨rfl, rfl, rfl, by decide +kernel, rfl, by decide +kernel, by decide +kernel⟩
abbrev s_take : Stmt := topS 17
abbrev N_take : List Str := ["_law_draws_here", "_law_place"]
abbrev P_take : List Str := ["_law_draws_here", "_law_place"]
theorem sc_take : FnScope N_take P_take (defScope s_take) := ⟨rfl, rfl, rfl, by decide +kernel, rfl, by decide +kernel, by decide +kernel⟩
abbrev FnP (K : PySem.W.Frag) (x : Str) (st : Stmt) (f : Addr) (fd : FuncData) : Prop := FunD K x x (defArgs st) (defBody st) (defScope st) [] [] f fd
section
variable {P : Program} {w : World} {K : PySem.W.Frag} {mg : Str → Option Value} {base : Heap} {f : Addr} {fd : FuncData}
theorem cal_of {k : Nat} {x : Str} {st : Stmt} {ps : List Str} {sp : Sp} (F : FnP K x st f fd) (g : mg x = some (.ref f)) (b : Binds K fd ps []) (h : FnOk P w K mg base CX0 k f fd ps sp) : Cal P w K mg base k x sp := ⟨f, fd, ps, h, g, F.kp, b⟩
/-! ### _law_cell -/
def spCell (K : PySem.W.Frag) : Sp := fun vs H Q _ => ∃ (a : Addr) (ns : List Int) (k : Nat), vs = [.ref a, .int (k : Int)] ∧ SqL K H a (ns.map V.int) ∧ Q (.int (ns.getD k 0)) H
theorem ok_cell (F : FnP K "_law_cell" s_cell f fd) (m_len : mg "len" = none) (m_int : mg "int" = none) : FnOk P w K mg base CX0 1 f fd P_cell (spCell K) := by
  refine F.ok sc_cell (fun vs H Q E h => ?_) (fun cdv A outer s H vs Q E hr h => ?_)
  · obtain ⟨a, ns, k, rfl, _⟩ := h
    rfl
  · obtain ⟨a, ns, k, rfl, hS, q⟩ := h
    refine ⟨_, PSs.nox (pss_cons (ps_if (pt_cmpR op_lt (pv 1) (pe_callB call_len_seq (by rfl) m_len PySem.boot_len (pa_cons (pv 0) pa_nil)) (nomark _)) (pss_one (ps_ret (pe_callTy call_int1 (by rfl) m_int (by decide +kernel) (pa_cons (pe_ix ix_list (pv 0) (pv 1) (fun _ _ => rfl)) pa_nil)))) pss_nil)
      (pss_one (ps_ret pe_int))), ?_⟩
    walk_at "go"
    refine ⟨a, _, rfl, .inl hS, ?_⟩
    walk_at "go"
    rw [List.length_map]
    refine ite2 (fun e => ?_) (fun e => ?_)
    · have hk : k < ns.length := by have := of_decide_eq_true e; omega
      walk_at "go"
      refine ⟨a, _, _, _, rfl, rfl, hS, at_map (List.getElem?_eq_getElem hk), ?_⟩
      walk_at "go"
      rw [List.getD_eq_getElem?_getD, List.getElem?_eq_getElem hk] at q
      exact q
    · have hk : ¬ k < ns.length := fun z => e (decide_eq_true (by omega))
      rw [List.getD_eq_getElem?_getD, List.getElem?_eq_none (by omega)] at q
      exact q
/-! ### _law_draws -/
def Dr (n : Nat) (ds : List Int) : Prop := ds.length = n ∧ ∀ d ∈ ds, 0 ≤ d ∧ d < 1000000
def spDraws : Sp := fun vs H Q _ => ∃ (c : Int) (n : Nat), vs = [.int c, .int (n : Int)] ∧ n ≤ 100000 ∧ ∀ p ds, H p = none → Dr n ds → Q (.ref p) (upd H p (.lst (ds.map V.int)))
theorem ok_draws (F : FnP K "_law_draws" s_draws f fd) (m_int : mg "int" = none) (m_abs : mg "abs" = none) (m_range : mg "range" = none) : FnOk P w K mg base CX0 1 f fd P_draws spDraws := by
  refine F.ok sc_draws (fun vs H Q E h => ?_) (fun cdv A outer s H vs Q E hr h => ?_)
  · obtain ⟨c, n, rfl, _⟩ := h
    rfl
  · obtain ⟨c, n, rfl, hn, q⟩ := h
    refine ⟨_, PSs.nox (pss_cons (ps_set (i := 2) sc_draws.nd rfl (by first | exact .inl rfl | exact .inr rfl) (pe_callB call_abs (by rfl) m_abs (by decide +kernel) (pa_cons (pe_callTy call_int1 (by rfl) m_int (by decide +kernel) (pa_cons (pv 0) pa_nil)) pa_nil)))
      (pss_cons (ps_set (i := 3) sc_draws.nd rfl (by first | exact .inl rfl | exact .inr rfl) (pe_cmpR op_ge (pv 2) (pe_op op_pow pe_int pe_int) (nomark _)))
      (pss_cons (ps_set (i := 4) sc_draws.nd rfl (by first | exact .inl rfl | exact .inr rfl) (pe_op op_mod (pe_callTy call_int1 (by rfl) m_int (by decide +kernel) (pa_cons (pv 2) pa_nil)) pe_int))
      (pss_cons (ps_set (i := 5) sc_draws.nd rfl (by first | exact .inl rfl | exact .inr rfl) (pe_lst pa_nil))
      (pss_cons (ps_for PassesOwn.never rfl (pi_range1 (by rfl) m_range (pa_cons (pv 1) pa_nil)) (pg_name (i := 6) sc_draws.nd rfl (by first | exact .inl rfl | exact .inr rfl))
        (pss_cons (ps_set (i := 4) sc_draws.nd rfl (by first | exact .inl rfl | exact .inr rfl) (pe_op op_mod (pe_callTy call_int1 (by rfl) m_int (by decide +kernel) (pa_cons (pe_op op_add (pe_op op_add (pe_op op_mul (pv 4) pe_int) (pe_op op_mul pe_int (pv 6))) pe_int) pa_nil)) pe_int))
      (pss_one (ps_if (PW.pt (pw_and (pt_val (pv 3)) (pw_and1 (pt_cmpR op_gt (pv 2) pe_int (nomark _))))) (pss_cons (ps_expr (pe_bm PySem.F.plainAttrs_list PySem.F.slot_list_append PySem.F.type_list_append mt_append (pv 5) (pa_cons (pe_op op_mod (pe_callTy call_int1 (by rfl) m_int (by decide +kernel) (pa_cons (pv 2) pa_nil)) pe_int) pa_nil)))
      (pss_one (ps_set (i := 2) sc_draws.nd rfl (by first | exact .inl rfl | exact .inr rfl) (pe_op op_fdiv (pv 2) pe_int)))) (pss_one (ps_expr (pe_bm PySem.F.plainAttrs_list PySem.F.slot_list_append PySem.F.type_list_append mt_append (pv 5) (pa_cons (pe_op op_mod (pe_callTy call_int1 (by rfl) m_int (by decide +kernel) (pa_cons (pe_op op_fdiv (pe_op op_mod (pe_callTy call_int1 (by rfl) m_int (by decide +kernel) (pa_cons (pe_op op_add (pe_op op_mul (pv 4) pe_int) (pe_op op_mul pe_int (pv 6))) pa_nil)) pe_int) pe_int) pa_nil)) pe_int) pa_nil))))))))
      (pss_one (ps_ret (pv 5)))))))), ?_⟩
    walk_at "go"
    intro p np
    walk_at "go"
    refine for_gen (n := n) (fun i σ H1 => ∃ (r : Int) (z : Int) (ds : List Int) (v : Option V), 0 ≤ r ∧ 0 ≤ z ∧ z < 2147483647 ∧ Dr i ds ∧ H1 = upd H p (.lst (ds.map V.int)) ∧
      σ = [some (.int c), some (.int (n : Int)), some (.int r), some (.bl (decide ((10 : Int) ^ 18 ≤ (if c < 0 then -c else c)))), some (.int z), some (.ref p), v]) ?_ ?_ ?_ ?_ ?_
    · refine ⟨_, _, [], none, ?_, ?_, ?_, ⟨rfl, fun d hd => nomatch hd⟩, rfl, rfl⟩
      · split <;> omega
      · omega
      · omega
    · intro i σ H1 hi _
      show i < (n : Int).toNat
      omega
    · intro σ H1 _
      show (n : Int).toNat ≤ n
      omega
    · rintro i σ H1 x H' hi ⟨r, z, ds, v, hr0, hz0, hz1, hd, rfl, rfl⟩ ⟨rfl, rfl⟩
      have hlen : (ds.map V.int).length < sizeLine := by
        rw [List.length_map, hd.1]
        exact Nat.lt_of_lt_of_le hi (Nat.le_trans hn (by decide))
      have fin : ∀ (r' z' d : Int) (u : Option V), 0 ≤ r' → 0 ≤ z' → z' < 2147483647 → 0 ≤ d → d < 1000000 → ∃ (r : Int) (z : Int) (es : List Int) (v : Option V), 0 ≤ r ∧ 0 ≤ z ∧ z < 2147483647 ∧ Dr (i + 1) es ∧ upd (upd H p (.lst (ds.map V.int))) p (.lst (ds.map V.int ++ [.int d])) = upd H p (.lst (es.map V.int)) ∧
          [some (.int c), some (.int (n : Int)), some (.int r'), some (.bl (decide ((10 : Int) ^ 18 ≤ (if c < 0 then -c else c)))), some (.int z'), some (.ref p), u] = [some (.int c), some (.int (n : Int)), some (.int r), some (.bl (decide ((10 : Int) ^ 18 ≤ (if c < 0 then -c else c)))), some (.int z), some (.ref p), v] := by
        intro r' z' d u a1 a2 a3 a4 a5
        refine ⟨r', z', ds ++ [d], u, a1, a2, a3, ⟨by rw [List.length_append, hd.1]; rfl, fun x hx => ?_⟩, ?_, rfl⟩
        · rcases List.mem_append.mp hx with h | h
          · exact hd.2 x h
          · rw [List.mem_singleton.mp h]
            exact ⟨a4, a5⟩
        · rw [upd_upd, List.map_append]
          rfl
      walk_at "go"
      refine ite2 (fun e => ?_) (fun e => ?_)
      · walk_at "go"
        refine ite2 (fun e2 => ?_) (fun e2 => ?_)
        · walk_at "go"
          refine ⟨.inl ⟨rfl, _, .inl (.inl upd_same)⟩, ?_⟩
          walk_at "go"
          refine ⟨_, _, _, rfl, rfl, upd_same, hlen, ?_⟩
          walk_at "go"
          exact fin _ _ _ _ (by omega) (by omega) (by omega) (by omega) (by omega)
        · walk_at "go"
          refine ⟨.inl ⟨rfl, _, .inl (.inl upd_same)⟩, ?_⟩
          walk_at "go"
          refine ⟨_, _, _, rfl, rfl, upd_same, hlen, ?_⟩
          walk_at "go"
          exact fin _ _ _ _ (by omega) (by omega) (by omega) (by omega) (by omega)
      · walk_at "go"
        refine ⟨.inl ⟨rfl, _, .inl (.inl upd_same)⟩, ?_⟩
        walk_at "go"
        refine ⟨_, _, _, rfl, rfl, upd_same, hlen, ?_⟩
        walk_at "go"
        exact fin _ _ _ _ (by omega) (by omega) (by omega) (by omega) (by omega)
    · rintro σ H1 ⟨r, z, ds, v, hr0, hz0, hz1, hd, rfl, rfl⟩
      walk_at "go"
      exact q p ds np hd
/-! ### _law_take -/
def spTake (K : PySem.W.Frag) : Sp := fun vs H Q _ => ∃ (a p : Addr) (n m : Nat) (ds : List Int), vs = [.ref a, .ref p] ∧ SqL K H a (ds.map V.int) ∧ Dr n ds ∧ H p = some (.lst [.int (m : Int)]) ∧ a ≠ p ∧ ∀ r : Int, 0 ≤ r → r < 1000000 → Q (.int r) (upd H p (.lst [.int ((m + 1 : Nat) : Int)]))
theorem ok_take (F : FnP K "_law_take" s_take f fd) (m_len : mg "len" = none) : FnOk P w K mg base CX0 1 f fd P_take (spTake K) := by
  refine F.ok sc_take (fun vs H Q E h => ?_) (fun cdv A outer s H vs Q E hr h => ?_)
  · obtain ⟨a, p, n, m, ds, rfl, _⟩ := h
    rfl
  · obtain ⟨a, p, n, m, ds, rfl, hS, hd, hp, ne, q⟩ := h
    refine ⟨_, PSs.nox (pss_cons (ps_asg (pe_op op_add (pe_ix ix_list (pv 1) pe_int (fun _ _ => rfl)) pe_int) (pg_sub (pv 1) pe_int set_list))
      (pss_cons (ps_if (pt_cmpR op_gt (pe_ix ix_list (pv 1) pe_int (fun _ _ => rfl)) (pe_callB call_len_seq (by rfl) m_len PySem.boot_len (pa_cons (pv 0) pa_nil)) (nomark _)) (pss_one (ps_ret pe_int)) pss_nil)
      (pss_one (ps_ret (pe_ix ix_list (pv 0) (pe_op op_sub (pe_ix ix_list (pv 1) pe_int (fun _ _ => rfl)) pe_int) (fun _ _ => rfl)))))), ?_⟩
    have sb : SB p H (upd H p (.lst [.int ((m + 1 : Nat) : Int)])) := SB.upd (Z.Same.sb (Same.refl H))
    have hS' := sb.sq ne hS
    walk_at "go"
    refine ⟨p, _, 0, _, rfl, rfl, SqL.of hp, rfl, ?_⟩
    walk_at "go"
    refine ⟨p, _, 0, 0, rfl, rfl, hp, rfl, ?_⟩
    show tSeq _ _ _ _ (upd H p (.lst [.int ((m : Int) + 1)]))
    rw [show ((m : Int) + 1) = ((m + 1 : Nat) : Int) by omega]
    walk_at "go"
    refine ⟨p, _, 0, _, rfl, rfl, SqL.of upd_same, rfl, ?_⟩
    walk_at "go"
    refine ⟨a, _, rfl, .inl hS', ?_⟩
    walk_at "go"
    rw [List.length_map]
    refine ite2 (fun e => ?_) (fun e => ?_)
    · exact q 0 (by omega) (by omega)
    · have hk : m < ds.length := by
        apply Decidable.byContradiction
        intro z
        exact e (decide_eq_true (by omega))
      walk_at "go"
      refine ⟨p, _, 0, _, rfl, rfl, SqL.of upd_same, rfl, ?_⟩
      walk_at "go"
      refine ⟨a, _, _, _, rfl, rfl, hS', at_of (by omega) (show (ds.map V.int)[m]? = some (.int ds[m]) by rw [List.getElem?_map, List.getElem?_eq_getElem hk]; rfl), ?_⟩
      have h1 := hd.2 ds[m] (List.getElem_mem hk)
      exact q _ h1.1 h1.2
end
end Z
set_option Elab.async false
set_option linter.all false
set_option maxRecDepth 100000
set_option maxHeartbeats 4000000
namespace Z
open PySem PySem.Spec PyProof.Rows L2
/-! ### data -/
def sqD (b : Bool) (ds : List PyData) : PyData := match b with
  | true => .list ds
  | false => .tuple ds
def intsD (b : Bool) (ns : List Int) : PyData := sqD b (ns.map PyData.int)
def matD (b : Bool) (rs : List (List Int)) : PyData := sqD b (rs.map (intsD b))
theorem dp_sq {b : Bool} {K : PySem.W.Frag} {H : Hp} {a : Addr} {xs : List V} {ds : List PyData} (h : SqK b K H a xs) (d : DpAll K H xs ds) : Dp K H (.ref a) (sqD b ds) := by
  cases b
  · exact .tup h d
  · exact .lst h d
theorem dpa_ints {K : PySem.W.Frag} {H : Hp} : ∀ ns : List Int, DpAll K H (ns.map V.int) (ns.map PyData.int)
  | [] => .nil
  | n :: r => .cons (.int n) (dpa_ints r)
theorem dp_ints {b : Bool} {K : PySem.W.Frag} {H : Hp} {a : Addr} {ns : List Int} (h : SqK b K H a (ns.map V.int)) : Dp K H (.ref a) (intsD b ns) := dp_sq h (dpa_ints ns)
/-- a matrix: a list (or tuple) of lists (or tuples) of ints, at ps -/
def Mat (b : Bool) (K : PySem.W.Frag) (H : Hp) (a : Addr) (ps : List Addr) (rs : List (List Int)) : Prop := SqK b K H a (ps.map V.ref) ∧ ps.length = rs.length ∧ ∀ (i : Nat) (p : Addr) (r : List Int), ps[i]? = some p → rs[i]? = some r → SqK b K H p (r.map V.int)
theorem Mat.mono {b : Bool} {K : PySem.W.Frag} {H H' : Hp} {a : Addr} {ps : List Addr} {rs : List (List Int)} (s : Same H H') (m : Mat b K H a ps rs) : Mat b K H' a ps rs := ⟨Z.Same.sqK s m.1, m.2.1, fun i p r h1 h2 => Z.Same.sqK s (m.2.2 i p r h1 h2)⟩
theorem dpa_mat {b : Bool} {K : PySem.W.Frag} {H : Hp} : ∀ (ps : List Addr) (rs : List (List Int)), ps.length = rs.length → (∀ (i : Nat) (p : Addr) (r : List Int), ps[i]? = some p → rs[i]? = some r → SqK b K H p (r.map V.int)) → DpAll K H (ps.map V.ref) (rs.map (intsD b))
  | [], [], _, _ => .nil
  | p :: ps, r :: rs, hl, h => .cons (dp_ints (h 0 p r rfl rfl)) (dpa_mat ps rs (by simpa using hl) fun i q s h1 h2 => h (i + 1) q s h1 h2)
theorem Mat.dp {b : Bool} {K : PySem.W.Frag} {H : Hp} {a : Addr} {ps : List Addr} {rs : List (List Int)} (m : Mat b K H a ps rs) : Dp K H (.ref a) (matD b rs) := dp_sq m.1 (dpa_mat ps rs m.2.1 m.2.2)
theorem lay_ints : ∀ ns : List Int, PyData.canLayAll0 (ns.map PyData.int) = true
  | [] => rfl
  | n :: r => by
    rw [List.map_cons, PyData.canLayAll0, lay_ints r]
    rfl
theorem dep_ints : ∀ ns : List Int, PyData.depthAll (ns.map PyData.int) = 0
  | [] => rfl
  | n :: r => by
    rw [List.map_cons, PyData.depthAll, dep_ints r]
    rfl
theorem shaped_ints (b : Bool) (ns : List Int) : SeqAt.shaped (intsD b ns) = true := by
  unfold SeqAt.shaped intsD
  cases b
  · show (PyData.canLayAll0 (ns.map PyData.int) && decide (PyData.depthAll (ns.map PyData.int) + 1 ≤ 64)) = true
    rw [lay_ints, dep_ints]
    rfl
  · show (PyData.canLayAll0 (ns.map PyData.int) && decide (PyData.depthAll (ns.map PyData.int) + 1 ≤ 64)) = true
    rw [lay_ints, dep_ints]
    rfl
theorem lay_mat (b : Bool) : ∀ rs : List (List Int), PyData.canLayAll0 (rs.map (intsD b)) = true
  | [] => rfl
  | n :: r => by
    rw [List.map_cons, PyData.canLayAll0, lay_mat b r, SeqAt.canLay_of_shaped (shaped_ints b n)]
    rfl
theorem dep_mat (b : Bool) : ∀ rs : List (List Int), PyData.depthAll (rs.map (intsD b)) ≤ 1
  | [] => Nat.zero_le _
  | n :: r => by
    rw [List.map_cons, PyData.depthAll]
    have h := dep_mat b r
    have h2 : (intsD b n).depth = 1 := by
      cases b
      · show PyData.depthAll (n.map PyData.int) + 1 = 1
        rw [dep_ints]
      · show PyData.depthAll (n.map PyData.int) + 1 = 1
        rw [dep_ints]
    omega
theorem shaped_mat (b : Bool) (rs : List (List Int)) : SeqAt.shaped (matD b rs) = true := by
  have h := dep_mat b rs
  unfold SeqAt.shaped matD
  cases b
  · show (PyData.canLayAll0 (rs.map (intsD false)) && decide (PyData.depthAll (rs.map (intsD false)) + 1 ≤ 64)) = true
    rw [lay_mat, decide_eq_true (by omega)]
    rfl
  · show (PyData.canLayAll0 (rs.map (intsD true)) && decide (PyData.depthAll (rs.map (intsD true)) + 1 ≤ 64)) = true
    rw [lay_mat, decide_eq_true (by omega)]
    rfl
theorem same2 {K : PySem.W.Frag} {H : Hp} {x y : V} {d : PyData} {R : PyData → PyData → Prop} (hx : Dp K H x d) (hy : Dp K H y d) (hs : SeqAt.shaped d = true) (q : R d d) : ∃ d' e', Dp K H x d' ∧ Dp K H y e' ∧ SeqAt.shaped d' = true ∧ SeqAt.shaped e' = true ∧ R d' e' := ⟨d, d, hx, hy, hs, hs, q⟩
theorem eqv_same {d : PyData} (hs : SeqAt.shaped d = true) : PyData.eqv d d = true := SeqAt.eqv_refl d (SeqAt.canLay_of_shaped hs)
/-! ### a target that is one of two kinds -/
def gOr (t u : TG) : TG := fun v σ H Q => t v σ H Q ∨ u v σ H Q
theorem pg_or {X : Cx} {e : Expr} {t u : TG} (h1 : PG X e t) (h2 : PG X e u) : PG X e (gOr t u) := by
  refine ⟨fun pins s σ H v uu Q I r hw => ?_⟩
  rcases hw with h | h
  · exact h1.run pins s σ H v uu Q I r h
  · exact h2.run pins s σ H v uu Q I r h
/-! ### isinstance of built-in kinds -/
theorem isi {K : PySem.W.Frag} {H : Hp} {x : V} {T c : String} {b : Bool} {R : Bool → Prop} (t : TyOf K H x (.type T)) (h : kitB T c = some b) (q : R b) : ∃ (x' c' : V) (t' u' : Value) (b' : Bool), [x, .ty c] = [x', c'] ∧ ClsV c' u' ∧ TyX K H x' t' ∧ PySem.W.kitOne K t' u' = some b' ∧ R b' :=
  ⟨x, .ty c, .type T, .type c, b, rfl, .ty c, .base t, kit_ty h, q⟩
/-! ### rules by the written part itself (within a comprehension's block) -/
section
variable {X : Cx} {K : PySem.W.Frag}
theorem ix_list_K (h : X.K = K) : IxR X (rIxL K) := by subst h; exact ix_list
theorem ix_tup_K (h : X.K = K) : IxR X (rIxT K) := by subst h; exact ix_tup
theorem ix_seq_K (h : X.K = K) : IxR X (rIx K) := by subst h; exact ix_seq
theorem call_len_seq_K (h : X.K = K) : CallR X (.builtin "len") (fun xs H Q => ∃ p ys, xs = [.ref p] ∧ (SqL K H p ys ∨ SqT K H p ys) ∧ Q (.int ys.length) H) := by subst h; exact call_len_seq
theorem call_list_of_K (h : X.K = K) : CallR X (.type "list") (fun xs H Q => ∃ p ys, xs = [.ref p] ∧ (SqL K H p ys ∨ SqT K H p ys) ∧ ∀ l, H l = none → Q (.ref l) (upd H l (.lst ys))) := by subst h; exact call_list_of
theorem call_tuple_of_K (h : X.K = K) : CallR X (.type "tuple") (fun xs H Q => ∃ p ys, xs = [.ref p] ∧ ((SqL K H p ys ∧ ∀ l, H l = none → Q (.ref l) (upd H l (.tup ys))) ∨ (SqT K H p ys ∧ Q (.ref p) H))) := by subst h; exact call_tuple_of
theorem op_in_seq_K (h : X.K = K) : OpR X (compareOp .In) (rIn K false) := by subst h; exact op_in_seq
theorem op_notIn_seq_K (h : X.K = K) : OpR X (compareOp .NotIn) (rIn K true) := by subst h; exact op_notIn_seq
theorem op_eqD_K (h : X.K = K) (hu : X.A.units + 64 < cLine) : OpR X (compareOp .Eq) (rEqD K) := by subst h; exact op_eqD hu
theorem op_neD_K (h : X.K = K) (hu : X.A.units + 64 < cLine) : OpR X (compareOp .NotEq) (rNeD K) := by subst h; exact op_neD hu
theorem call_isi_K (h : X.K = K) : CallR X (.builtin "isinstance") (rIsi K) := by subst h; exact call_isi
end
/-! ### great products -/
theorem big_mul {i j : Int} (hi : i.natAbs < 2 ^ 4000) (hj : j.natAbs < 2 ^ 4000) : CMulX i j := mulx_ok hi hj (by decide)
/-! ### sums of multiples of rows -/
def combN (rs : List (List Int)) (fs : List Int) (w : Nat) : Nat → List Int
  | 0 => List.replicate w 0
  | n + 1 => List.zipWith (fun a b => a + fs.getD n 0 * b) (combN rs fs w n) (rs.getD n [])
theorem combN_len {rs : List (List Int)} {fs : List Int} {w : Nat} (h : ∀ r ∈ rs, r.length = w) : ∀ n, n ≤ rs.length → (combN rs fs w n).length = w
  | 0, _ => List.length_replicate
  | n + 1, hn => by
    rw [combN, List.length_zipWith, combN_len h n (by omega), List.getD_eq_getElem?_getD, List.getElem?_eq_getElem (by omega), Option.getD_some, h _ (List.getElem_mem _)]
    omega
theorem combN_at {rs : List (List Int)} {fs : List Int} {w i c : Nat} (hi : i < rs.length) (hf : i < fs.length) (c1 : c < (combN rs fs w i).length) (c2 : c < rs[i].length) : (combN rs fs w (i + 1))[c]? = some ((combN rs fs w i)[c] + fs[i] * rs[i][c]) := by
  have g1 : fs.getD i 0 = fs[i] := by rw [List.getD_eq_getElem?_getD, List.getElem?_eq_getElem hf]; rfl
  have g2 : rs.getD i [] = rs[i] := by rw [List.getD_eq_getElem?_getD, List.getElem?_eq_getElem hi]; rfl
  rw [combN, List.getElem?_zipWith, g1, g2, List.getElem?_eq_getElem c1, List.getElem?_eq_getElem c2]
end Z
set_option Elab.async false
set_option linter.all false
set_option maxRecDepth 100000
set_option maxHeartbeats 4000000
namespace Z
open PySem PySem.Spec PyProof.Rows L2
/-! ### own classes: making, methods, calls of instances, == -/
structure Mak (P : Program) (w : World) (K : PySem.W.Frag) (mg : Str → Option Value) (base : Heap) (k : Nat) (x : Str) (sp : Sp) : Prop where
  ex : ∃ (C f : Addr) (fd : FuncData) (ps : List Str) (si : Sp), Mk K C f ∧ FnOk P w K mg base CX0 k f fd ps si ∧ mg x = some (.ref C) ∧ Binds K fd ps [] ∧
    ∀ vs H Q E, sp vs H Q E → ∀ n dx, H n = none → H dx = none → dx ≠ n → si (.ref n :: vs) (upd (upd H dx (.own n)) n (.ins C dx [])) (fun v H2 => v = .non ∧ Q (.ref n) H2) E
structure Met (P : Program) (w : World) (K : PySem.W.Frag) (mg : Str → Option Value) (base : Heap) (k : Nat) (C : Addr) (m : Str) (sp : Sp) : Prop where
  ex : ∃ (f : Addr) (fd : FuncData) (ps : List Str), Cls K C ∧ Meth K C m f ∧ FnOk P w K mg base CX0 k f fd ps sp ∧ Binds K fd ps []
section
variable {X : Cx} {k j : Nat} {x m : Str} {sp : Sp} {C : Addr} {p pos apos : Pos} {e o : Expr} {es : List Expr} {t : TA} {ta : TE}
theorem pe_mk (c : Mak X.prog X.w X.K X.mg X.base k x sp) (hr : Room j X.A) (hk : k + 1 ≤ j) (hg : Gl X x) (ha : PA X (e :: es) t)
    (hdb : (x == ("__debug__" : Str)) = false := by decide) (he : starEach (e :: es) X.env = (false, eval e X.env) :: starEach es X.env := by rfl) (hpl : (backTo pos (starEach es X.env)).any (·.1) = false := by rfl) : PE X (.Call (.Name x p) (e :: es) [] pos) (tCall sp [] E0 t) := by
  obtain ⟨C, f, fd, ps, si, M, F, hm, b, imp⟩ := c.ex
  constructor
  intro pins s σ H Q I h
  refine wpAny_Call_Name_kw (ld_glob I hg hm ?_ hdb)
  refine PySem.W.callWith_K (h₀ := X.base) I.ok.mod.kin M.kp (thn (ha.run pos pins s σ H _ I h) fun us s1 ⟨vs, H1, I1, r, q⟩ => ⟨I1.kIn, ?_⟩) he hpl
  have q2 : sp vs H1 Q E0 := by
    have z : sp (vs ++ []) H1 Q E0 := q
    rw [List.append_nil] at z
    exact z
  refine run_make (dvs := []) M F (hr.mono hk) b .nil pass0 I1 r (fun n dx n1 n2 n3 => ?_)
  rw [List.append_nil]
  exact imp _ _ _ _ q2 n dx n1 n2 n3
theorem pe_me {pl : Sem Bool} (c : Met X.prog X.w X.K X.mg X.base k C m sp) (he : PE X o ta) (hr : Room j X.A) (hk : k ≤ j) (ha : PA X (e :: es) t)
    (hst : starEach (e :: es) X.env = (false, eval e X.env) :: starEach es X.env := by rfl) (hpl : (backTo pos (starEach es X.env)).any (·.1) = false := by rfl)
    (ht : eval (.Call (.Attribute o m apos) (e :: es) [] pos) X.env = (do
      let ov ← eval o X.env
      standAt apos.atName
      let (f, first) ← holding [ov] (getMethod ov m pl)
      callWith pos f first (backTo pos (starEach (e :: es) X.env)) (backToKw pos (keywordEach [] X.env))) := by rfl) : PE X (.Call (.Attribute o m apos) (e :: es) [] pos) (tMeth C m sp [] E0 ta t) := by
  obtain ⟨f, fd, ps, cl, me, F, b⟩ := c.ex
  exact pe_meth he cl me F (hr.mono hk) b .nil pass0 ha hst hpl ht
theorem pe_me0 {pl : Sem Bool} (c : Met X.prog X.w X.K X.mg X.base k C m sp) (he : PE X o ta) (hr : Room j X.A) (hk : k ≤ j)
    (ht : eval (.Call (.Attribute o m apos) [] [] pos) X.env = (do
      let ov ← eval o X.env
      standAt apos.atName
      let (f, first) ← holding [ov] (getMethod ov m pl)
      callWith pos f first (backTo pos (starEach [] X.env)) (backToKw pos (keywordEach [] X.env))) := by rfl) : PE X (.Call (.Attribute o m apos) [] [] pos) (tMeth C m sp [] E0 ta tNil) := by
  obtain ⟨f, fd, ps, cl, me, F, b⟩ := c.ex
  exact pe_meth0 he cl me F (hr.mono hk) b .nil pass0 ht
end
/-! ### f(e, ..), f an instance of C -/
structure Cob (P : Program) (w : World) (K : PySem.W.Frag) (mg : Str → Option Value) (base : Heap) (k : Nat) (C : Addr) (sp : Sp) : Prop where
  ex : ∃ g : Addr, StX.CallO K C g ∧ FnR P w K mg base CX0 k g sp
def tCo (C : Addr) (sp : Sp) (tf : TE) (t : TA) : TE := fun σ H Q => tf σ H fun y H1 => ∃ a, y = V.ref a ∧ t σ H1 fun vs H2 => (∃ dx fs, H2 a = some (.ins C dx fs)) ∧ sp (V.ref a :: vs) H2 Q E0
section
variable {X : Cx} {k j : Nat} {sp : Sp} {C : Addr} {pos : Pos} {e fe : Expr} {es : List Expr} {t : TA} {tf : TE}
theorem pe_co (c : Cob X.prog X.w X.K X.mg X.base k C sp) (hf : PE X fe tf) (hr : Room j X.A) (hk : k ≤ j) (ha : PA X (e :: es) t)
    (ht : eval (.Call fe (e :: es) [] pos) X.env = (do callWith pos (← eval fe X.env) [] (backTo pos (starEach (e :: es) X.env)) (backToKw pos (keywordEach [] X.env))) := by rfl)
    (he : starEach (e :: es) X.env = (false, eval e X.env) :: starEach es X.env := by rfl) (hpl : (backTo pos (starEach es X.env)).any (·.1) = false := by rfl) : PE X (.Call fe (e :: es) [] pos) (tCo C sp tf t) := by
  obtain ⟨g, co, F⟩ := c.ex
  constructor
  intro pins s σ H Q I h
  refine Call_ (thn (hf.run pins s σ H _ I h) fun u s1 ⟨y, H1, I1, ry, a, ey, q⟩ => ?_) ht
  subst ey
  obtain rfl : u = Value.ref a := ry
  refine StX.callO_with (thn (ha.run pos pins s1 σ H1 _ I1 q) fun us s2 ⟨vs, H2, I2, r, hi, q2⟩ => ?_) he hpl
  have hi2 : StX.InsC X H2 a C := .inr hi
  obtain ⟨ox, od, J, hd⟩ := StX.insC_at I2 hi2
  exact ⟨⟨C, ox, od, J, hd⟩, StX.run_callO co F (hr.mono hk) pass0 I2 hi2 r q2⟩
end
/-! ### a == b by the class's own __eq__ -/
structure Eqo (P : Program) (w : World) (K : PySem.W.Frag) (mg : Str → Option Value) (base : Heap) (k : Nat) (C : Addr) (sp : Sp) : Prop where
  ex : ∃ (f : Addr) (fd : FuncData) (ps : List Str), FnOk P w K mg base CX0 k f fd ps sp ∧ PySem.W.findIn K (.ref C) "__eq__" = some (some (.ref f)) ∧ PySem.W.isFn K (.ref f) = true ∧ Binds K fd ps []
def rOwn (C : Addr) (sp : Sp) : R2 := fun x y H Q => ∃ a b dx dy fs gs, x = .ref a ∧ y = .ref b ∧ H a = some (.ins C dx fs) ∧ H b = some (.ins C dy gs) ∧ sp [.ref a, .ref b] H (fun v H' => ∃ r, v = .bl r ∧ Q v H') E0
theorem op_own {X : Cx} {k j : Nat} {C : Addr} {sp : Sp} (c : Eqo X.prog X.w X.K X.mg X.base k C sp) (hr : Room j X.A) (hk : k ≤ j) : OpR X (compareOp .Eq) (rOwn C sp) := by
  intro pins s σ H x y v u Q I rx ry hq
  obtain ⟨f, fd, ps, F, hs, hf, hb⟩ := c.ex
  obtain ⟨a, b, dx, dy, fs, gs, rfl, rfl, ha, hb', q⟩ := hq
  cases rx
  cases ry
  obtain ⟨mA, J, _⟩ := ins_get I.hok ha
  obtain ⟨mB, J', _⟩ := ins_get I.hok hb'
  obtain ⟨od, J, _⟩ := J.look
  obtain ⟨od', J', _⟩ := J'.look
  obtain ⟨m, hF⟩ := I.fr
  show wpAny (model X.prog X.w) X.A (richCompare .Eq (Value.ref a) (Value.ref b)) (EP X pins σ Q) X.xe s
  refine PySem.W.cmp_K (op := .Eq) (tb := .ref C) (hr.mono hk).units0 hF I.ok.mod.kin J J'.type (by simp [PySem.W.notFirst]) hs hf ?_
  have r2 : Vals [V.ref a, V.ref b] [Value.ref a, Value.ref b] := .cons rfl (.cons rfl .nil)
  refine thn (run_fn (dvs := []) F (hr.mono hk) hb .nil pass0 I r2 q) fun r s' z => ?_
  obtain ⟨v, H', I', rv, b', rfl, q'⟩ := z
  cases rv
  exact ⟨.bl b', H', I', rfl, q'⟩
end Z
set_option Elab.async false
set_option linter.all false
set_option maxRecDepth 100000
set_option maxHeartbeats 4000000
namespace Z
open PySem PySem.Spec PyProof.Rows L2 NdefX
/-! ### an own exception whose __init__ begins with super().__init__(..) -/
/-- what the written part says of it: the function f of the class C (cell cc, code c) -/
structure SupK (P : Program) (K : PySem.W.Frag) (C f c cc : Addr) (fd : FuncData) : Prop where
  lk : ∃ oc od osl, K.lookup f = some ⟨oc, od, .func fd, osl⟩
  code : ∃ (ccl : Value) (cdd : Option Addr) (vs : Array Value) (ccs : Array (Option Value)) (file : Str) (tf : Tok), K.lookup c = some ⟨ccl, cdd, .fields vs, ccs⟩ ∧ vs[2]? = some (.str file tf) ∧ ((P.main.file : Str) == file) = true
  cell : ∃ cl cld csl, K.lookup cc = some ⟨cl, cld, .cell (some (.ref C)), csl⟩
  top : (P.main.scope.names.lookup ("super" : Str)).isSome = false
  mro : PySem.W.mroIn K C (.ref C) = some true
  opq : PySem.W.nsIn K cStatics "thirdparty.any" = some none
  ini : PySem.W.ks_superIn K C C "__init__" = some (some (.builtin "ValueError.__init__"))
  sub : PySem.W.subIn K (.ref C) (.type "ValueError") = some true
  exi : PySem.W.excInitIn K C He.veBase "ValueError.__new__" = true
  oex : OexC K C
section
variable {CX : CXT} {P : Program} {w : World} {K : PySem.W.Frag} {mg : Str → Option Value} {base : Heap} {N ps : List Str} {F : NF} {f C a cc : Addr} {A : Around} {outer : List Env} {s0 s : Shared} {H0 H : Hp} {E : XK} {σ : L2.St}
/-- the bound __init__ called -/
theorem call_mw {X : Cx} {pins : List (Addr × Obj)} {u : Addr} {us : List Value} {Q : Value → Shared → Prop} {E : Value → Shared → Prop} {A : Around} (S : SupK X.prog X.K C f c cc fd) (I : Inv X ((u, PySem.W.kxs_mw "ValueError.__init__" a) :: pins) σ H s) (e : H a = some (exo a C none)) (hz : us.length ≤ sizeLine)
    (h : ∀ s', Inv X ((u, PySem.W.kxs_mw "ValueError.__init__" a) :: pins) σ H s' → Q .none s') : wpAny (model X.prog X.w) A (call (.ref u) us) Q E s := by
  have FB := F.excBase_ValueError
  obtain ⟨nm, N', qn, bs, bm, hdct, sn, sub, ab, col, dd, k0, k1, k2, k3, k5, hC, hT⟩ := PySem.W.excInit_of I.kIn S.exi
  have hu := (I.pin (u, PySem.W.kxs_mw "ValueError.__init__" a) (List.mem_append_right _ (List.mem_cons_self ..))).1
  obtain ⟨t1, he⟩ := exo_at I.hok e
  obtain ⟨hh, g, d, tk, os⟩ := s
  refine wpAny_call (codeAny_of_tree ?_)
  show wpAny _ A.in1 (callAny (.ref u) ⟨us, []⟩) _ _ _
  simp only [callAny]
  refine wpAny_bind (wpAny_load hu ?_)
  simp only [PySem.W.kxs_mw, show (Value.type "method-wrapper" == Value.type "method" || Value.type "method-wrapper" == Value.type "builtin_function_or_method" || Value.type "method-wrapper" == Value.type "method-wrapper") = true by decide, if_true]
  refine PySem.W.KFB.if_so (by decide) ?_
  refine wpAny_bind (PySem.W.check_bound_init FB.toExcCallFacts hC he rfl ?_)
  refine wpAny_bind (wpAny_pure (wpAny_pure ?_))
  refine ⟨plainId_quiet FB.init.plain _, codeAny_builtin FB.initEntry ?_⟩
  refine PySem.W.exc_init_tree (cls := .ref C) (t0 := t1) (dv := none) (c2 := .none) (c3 := .none) (b4 := .bool false) he hz fun h' k hx _ => ?_
  have J := I.write (t' := tk) (x := a) (e := a) (o := exo a C none) (by rw [e]; exact True.intro) (.inl rfl) k ⟨_, hx⟩ (exo_ok hx)
  have eu : upd H a (exo a C none) = H := by
    funext b
    by_cases hb : b = a
    · rw [hb, upd_same, e]
    · rw [upd_ne hb]
  rw [eu] at J
  exact h _ J
/-- super().__init__(e, ..), the first statement -/
theorem super_first {pl : Sem Bool} {fd : FuncData} {ar : Arg} {t : TA} {e : Expr} {es : List Expr} {p0 p1 p2 pos pos2 : Pos} {Qn : Hp → Prop} (S : SupK P K C f F.c cc fd) (hcl : F.cl = [(("__class__" : Str), cc)]) (hp : (fd.params.posonlyargs ++ fd.params.args).head? = some ar)
    (hks : F.scope.names.lookup ("super" : Str) = some .globalImplicit) (hkc : F.scope.names.lookup ("__class__" : Str) = some .free) (hka : F.scope.names.lookup ar.arg = some .local) (hk : F.scope.kind = .function) (m_super : mg "super" = none)
    (hN : N[0]? = some ar.arg) (ha : PA (ncx CX P w K mg base N F f A outer s0 H0 E) (e :: es) t) (I : Inv (ncx CX P w K mg base N F f A outer s0 H0 E) [] σ H s) (hs : σ[0]? = some (some (.ref a))) (hx : H a = some (exo a C none))
    (ht : t σ H fun vs H1 => vs.length ≤ 1000 ∧ H1 a = some (exo a C none) ∧ Qn H1)
    (hint : interactive (ncx CX P w K mg base N F f A outer s0 H0 E).env = false := by rfl) (hsw : swapsWith (.Call (.Attribute (.Call (.Name "super" p0) [] [] p1) "__init__" p2) (e :: es) [] pos) none pos2.line (ncx CX P w K mg base N F f A outer s0 H0 E).env = pure false := by rfl)
    (hev : eval (.Call (.Attribute (.Call (.Name "super" p0) [] [] p1) "__init__" p2) (e :: es) [] pos) (ncx CX P w K mg base N F f A outer s0 H0 E).env = (do
      let ov ← attributeBase (.Call (.Name "super" p0) [] [] p1) "__init__" (ncx CX P w K mg base N F f A outer s0 H0 E).env (eval (.Call (.Name "super" p0) [] [] p1) (ncx CX P w K mg base N F f A outer s0 H0 E).env)
      standAt p2.atName
      let (g, first) ← holding [ov] (getMethod ov "__init__" pl)
      callWith pos g first (backTo pos (starEach (e :: es) (ncx CX P w K mg base N F f A outer s0 H0 E).env)) []) := by rfl)
    (he : starEach (e :: es) (ncx CX P w K mg base N F f A outer s0 H0 E).env = (false, eval e (ncx CX P w K mg base N F f A outer s0 H0 E).env) :: starEach es (ncx CX P w K mg base N F f A outer s0 H0 E).env := by rfl) (hpl : (backTo pos (starEach es (ncx CX P w K mg base N F f A outer s0 H0 E).env)).any (·.1) = false := by rfl) :
    _root_.PySem.wpAt (model P w) (ncx CX P w K mg base N F f A outer s0 H0 E).A (.func F.body (ncx CX P w K mg base N F f A outer s0 H0 E).env) (exec (.Expr (.Call (.Attribute (.Call (.Name "super" p0) [] [] p1) "__init__" p2) (e :: es) [] pos) pos2) (ncx CX P w K mg base N F f A outer s0 H0 E).env)
      (fun fl s' => fl = .next ∧ ∃ H1, Inv (ncx CX P w K mg base N F f A outer s0 H0 E) [] σ H1 s' ∧ H1 a = some (exo a C none) ∧ Qn H1) (ncx CX P w K mg base N F f A outer s0 H0 E).xe s := by
  obtain ⟨oc, od, osl, lkf⟩ := S.lk
  obtain ⟨ccl, cdd, vs, ccs, file, tf, lkc, hvs, hfile⟩ := S.code
  obtain ⟨cl, cld, csl, lkcc⟩ := S.cell
  have KX : K.In s.heap := I.kIn
  obtain ⟨m, hn, hl⟩ := I.loc
  obtain ⟨u, ru, lu⟩ := hl 0 ar.arg (.ref a) hN hs (.inl hka)
  obtain rfl : u = .ref a := ru
  have hma : m ar.arg = some (.ref a) := by
    rcases lu with ⟨_, z⟩ | ⟨z, _⟩
    · exact z
    · rcases z with z | z
      · rw [show (ncx CX P w K mg base N F f A outer s0 H0 E).env.kindOf ar.arg = some .local from hka] at z; cases z
      · rw [show (ncx CX P w K mg base N F f A outer s0 H0 E).env.kindOf ar.arg = some .local from hka] at z; cases z
  obtain ⟨nm, q, NN, bs, bm, sn, sub, ab, col, dd, k0, k1, k2, k3, k5, hC, hbm⟩ := S.oex.cls
  obtain ⟨t1, hox⟩ := exo_at I.hok hx
  refine ks_wpAt_Expr_any (ks_wpAt_MethodCall ?_ hev) hint hsw
  refine ks_wpAt_super_base (env := (ncx CX P w K mg base N F f A outer s0 H0 E).env) (cc := F.c) hks hkc (by decide) rfl (KX _ _ lkf) rfl hp rfl (KX _ _ lkc) rfl hvs hfile S.top ?_
  obtain ⟨mb, h1, h2⟩ := I.mod.blt
  refine PySem.W.ks_loadName_global hk hks (Calls.loadGlobal_builtin (by rw [I.ok.glob]; exact I.mod.glob.keeps I.bk) m_super (by rw [I.ok.blt]; exact h1.keeps I.bk) ((h2 "super" (by decide)).trans (by decide +kernel)) ⟨rfl, ?_⟩)
  refine wpAny_loadName_free hk hkc (c := cc) (by show F.cl.lookup _ = _; rw [hcl]; rfl) ⟨_, KX _ _ lkcc, rfl⟩ ?_
  refine wpAny_loadName_local hk hka hn hma ?_
  refine ks_wpAny_isType_cls (KX _ _ hC) rfl ⟨rfl, ?_⟩
  obtain ⟨hh, g, d, tk, os⟩ := s
  refine ks_wpAny_call_super (KX _ _ hC) rfl hox rfl (fun c z => by cases z) (PySem.W.looks_mroIn KX S.mro) (fun h' eso kso => ?_)
  have I2 : Inv (ncx CX P w K mg base N F f A outer s0 H0 E) [] σ H ⟨h', g, d, tk, os⟩ := I.kept kso
  have KX2 : K.In h' := I2.kIn
  have hox2 := kso _ _ hox
  have IA : PySem.W.InstAt h' a _ C none := ⟨hox2, rfl, rfl, trivial⟩
  have hI : PySem.W.Looks (model P w) h' (isInstance (.ref a) (.type "ValueError")) true := IA.type.andThen (PySem.W.looks_subIn KX2 S.sub)
  have hm := S.ini
  cases hc : PySem.W.clsIn K C with
  | none =>
    unfold PySem.W.ks_superIn at hm
    rw [hc] at hm
    cases hm
  | some cd =>
    unfold PySem.W.ks_superIn at hm
    rw [hc] at hm
    refine PySem.W.kxs_getMethod PySem.W.kxs_ValueError eso (PySem.W.looks_opaque KX2 S.opq) (l₀ := cd.mro) ?_ rfl KX2 hm hI (PySem.W.ks_ne KX2 IA hc) (by decide) ?_
    · exact fun A Q E s k q => wpAny_bind ((PySem.W.looks_clsIn KX2 hc) A _ E s k (wpAny_pure q))
    · have I3 : Inv (ncx CX P w K mg base N F f A outer s0 H0 E) [(h'.objs.size, PySem.W.kxs_mw "ValueError.__init__" a)] σ H ⟨h'.push (PySem.W.kxs_mw "ValueError.__init__" a), g, d, tk + 1, os⟩ := ClX.pin_new I2 (fun b o e => Heap.get?_push_of_some _ e) (Nat.le_refl _) (Heap.get?_push_at rfl rfl) (fun v z => by cases z)
      rw [he]
      refine PySem.W.kxs_callWith (i := "ValueError.__init__") (x := a) (by show (false || (backTo pos (starEach es _)).any (·.1)) = false; rw [hpl]; rfl) ?_
      refine PySem.Calls.evalArgs_plain ?_
      have hrun := ha.run pos _ _ σ H _ I3 ht
      rw [he] at hrun
      refine thn hrun fun us s3 ⟨ws, H3, I4, r, q1, q2, q3⟩ => ?_
      refine ⟨ClX.pin_at I4, ?_⟩
      refine call_mw (X := ncx CX P w K mg base N F f A outer s0 H0 E) S I4 q2 (by show us.length ≤ sizeLine; rw [← r.length]; exact Nat.le_trans q1 (by decide)) fun s' I5 => ⟨rfl, H3, ClX.unpin I5, q2, q3⟩
theorem wpAt_to {M : Model} {A : Around} {c : Code} {α : Type} {m : Sem α} {Q Q' : α → Shared → Prop} {E : Value → Shared → Prop} {s : Shared} (h : _root_.PySem.wpAt M A c m Q E s) (hq : ∀ a s', Q a s' → Q' a s') : _root_.PySem.wpAt M A c m Q' E s := ks_wpAt_mono h hq fun _ _ z => z
/-- THE RULE: such an __init__, the rest of its body by its readings -/
theorem sup_ok {pl : Sem Bool} {fd : FuncData} {dV kV doc pm ct : Value} {an : Option Addr} {ar : Arg} {k : Nat} {sp : Sp} {txt : Str} {j : Nat} {p0 p1 p2 p3 pos pos2 : Pos} {rest : List Stmt} (hfd : fd = PySem.W.fnX F.name F.qual F.params F.body F.scope F.cl dV kV doc pm an (.ref F.c) ct)
    (S : SupK P K C f F.c cc fd) (hcd : PySem.W.codeIn K (.ref F.c) F.qual = true) (NS : NScope N ps ["__class__"] F.scope) (hcl : F.cl = [(("__class__" : Str), cc)]) (hp : (F.params.posonlyargs ++ F.params.args).head? = some ar) (hks : F.scope.names.lookup ("super" : Str) = some .globalImplicit) (m_super : mg "super" = none)
    (hN : N[0]? = some ar.arg) (hka : F.scope.names.lookup ar.arg = some .local)
    (hb : F.body = .Expr (.Call (.Attribute (.Call (.Name "super" p0) [] [] p1) "__init__" p2) [.Constant (.str txt) j p3] [] pos) pos2 :: rest)
    (len : ∀ vs H Q E, sp vs H Q E → vs.length = ps.length) (hself : ∀ vs H Q E, sp vs H Q E → ∃ a vs', vs = .ref a :: vs' ∧ H a = some (exo a C none))
    (hint : ∀ (A : Around) (outer : List Env) (s : Shared) (H : Hp) (E : XK), interactive (ncx CX P w K mg base N F f A outer s H E).env = false)
    (hsw : ∀ (A : Around) (outer : List Env) (s : Shared) (H : Hp) (E : XK), swapsWith (.Call (.Attribute (.Call (.Name "super" p0) [] [] p1) "__init__" p2) [.Constant (.str txt) j p3] [] pos) none pos2.line (ncx CX P w K mg base N F f A outer s H E).env = pure false)
    (hev : ∀ (A : Around) (outer : List Env) (s : Shared) (H : Hp) (E : XK), eval (.Call (.Attribute (.Call (.Name "super" p0) [] [] p1) "__init__" p2) [.Constant (.str txt) j p3] [] pos) (ncx CX P w K mg base N F f A outer s H E).env = (do
      let ov ← attributeBase (.Call (.Name "super" p0) [] [] p1) "__init__" (ncx CX P w K mg base N F f A outer s H E).env (eval (.Call (.Name "super" p0) [] [] p1) (ncx CX P w K mg base N F f A outer s H E).env)
      standAt p2.atName
      let (g, first) ← holding [ov] (getMethod ov "__init__" pl)
      callWith pos g first (backTo pos (starEach [.Constant (.str txt) j p3] (ncx CX P w K mg base N F f A outer s H E).env)) []))
    (hrest : ∀ (A : Around) (outer : List Env) (s : Shared) (H : Hp) (vs : List V) (Q : VK) (E : XK), sp vs H Q E → ∃ t, PSs (ncx CX P w K mg base N F f A outer s H E) rest t ∧ t { nx := fun _ H' => Q .non H', rt := Q } (startF N vs [some (.ref C)]) H) : FnOk P w K mg base CX (k + 1) f fd ps sp := by
  refine ⟨len, fun A outer s H args us vs Q E hr e0 hbn r hsp => ?_⟩
  have hl := len _ _ _ _ hsp
  have KX : K.In s.heap := e0.mod.kin.keeps fun b o e => (e0.bs b o e).1
  have lim : s.heap.NoLimit := e0.mod.nolimit.keeps fun b o e => (e0.bs b o e).1
  obtain ⟨oc, od, osl, lkf⟩ := S.lk
  obtain ⟨cl, cld, csl, lkcc⟩ := S.cell
  have CA : CellsAt F.cl ["__class__"] [some (.ref C)] s.heap H := by
    refine ⟨rfl, fun y c e => ?_, fun x y c e1 e2 => ?_, fun i y e => ?_⟩
    · rw [hcl] at e
      have ec : c = cc := by
        unfold List.lookup at e
        split at e
        · exact (Option.some.inj e).symm
        · cases e
      subst ec
      exact ⟨(e0.bs _ _ (e0.mod.kin _ _ lkcc)).2, _, _, KX _ _ lkcc, rfl⟩
    · rw [hcl] at e1 e2
      have k : ∀ z : Str, ([(("__class__" : Str), cc)] : List (Str × Addr)).lookup z = some c → z = "__class__" := fun z e => by
        unfold List.lookup at e
        split at e
        · next h => exact beq_iff_eq.mp h
        · cases e
      rw [k x e1, k y e2]
    · have ey : y = "__class__" := by
        cases i with
        | zero => exact (Option.some.inj e).symm
        | succ i => cases e
      subst ey
      refine ⟨cc, by rw [hcl]; rfl, fun v hv => ?_⟩
      have ei : i = 0 := by
        cases i with
        | zero => rfl
        | succ i => cases e
      subst ei
      obtain rfl : V.ref C = v := Option.some.inj (Option.some.inj hv)
      exact ⟨.ref C, rfl, _, KX _ _ lkcc, rfl⟩
  subst hfd
  refine ks_codeAny_call_defAt hr.depth (KX _ _ lkf) rfl lim (PySem.W.codeRec_of KX hcd) rfl hbn NS.nocell (fun ⟨n, _⟩ hy => NS.par n (List.of_mem_zip hy).1) (fun h₁ hns kp => ?_) NS.co NS.gen NS.kind
  show _root_.PySem.wpAt _ (ncx CX P w K mg base N F f A outer s H E).A (.func F.body (ncx CX P w K mg base N F f A outer s H E).env) (execs F.body (ncx CX P w K mg base N F f A outer s H E).env) _ (ncx CX P w K mg base N F f A outer s H E).xe _
  have I : Inv (ncx CX P w K mg base N F f A outer s H E) [] (startF N vs [some (.ref C)]) H { s with heap := h₁, toks := s.toks + (ps.zip us).length } := inv_startN NS hr.hd e0 hl r CA hns kp
  obtain ⟨a, vs', rfl, hx⟩ := hself _ _ _ _ hsp
  have hexe : execs F.body (ncx CX P w K mg base N F f A outer s H E).env = execs (.Expr (.Call (.Attribute (.Call (.Name "super" p0) [] [] p1) "__init__" p2) [.Constant (.str txt) j p3] [] pos) pos2 :: rest) (ncx CX P w K mg base N F f A outer s H E).env := by rw [hb]
  rw [hexe]
  refine ks_wpAt_execs_cons (wpAt_to (super_first (Qn := fun H1 => H1 = H) S hcl hp hks (NS.frk _ (List.mem_cons_self ..)) hka NS.kind m_super hN (pa_cons pe_str pa_nil) I rfl hx ⟨by simp, hx, rfl⟩ (hint A outer s H E) (hsw A outer s H E) (hev A outer s H E)) ?_)
  rintro fl s1 ⟨rfl, H1, I1, _, rfl⟩
  obtain ⟨t, ht, hq⟩ := hrest A outer s H1 _ Q E hsp
  refine wpAt_of_wpAny (wpAny_mono (ht.run [] _ _ H1 _ I1 hq) (fun fl s' hs => ?_) fun e s' hs => hs)
  have fin : ∀ {σ' : L2.St} {H' : Hp} {v : V} {u : Value}, Inv (ncx CX P w K mg base N F f A outer s H1 E) [] σ' H' s' → L2.RelV v u → Q v H' → CE outer P w H1 s Q u s' :=
    fun {σ' H' v u} J rv q => ⟨v, H', J.os, J.bare, J.base, J.hok, rv, q⟩
  cases fl with
  | ret u =>
    obtain ⟨v, σ', H', J, rv, q⟩ := hs
    exact fin J rv q
  | next =>
    obtain ⟨σ', H', J, q⟩ := hs
    exact fin (v := V.non) (u := Value.none) J rfl q
  | brk =>
    obtain ⟨_, _, _, q⟩ := hs
    exact False.elim q
  | cont =>
    obtain ⟨_, _, _, q⟩ := hs
    exact False.elim q
end
end Z
set_option Elab.async false
set_option linter.all false
set_option maxRecDepth 100000
set_option maxHeartbeats 4000000
namespace Z
open PySem PySem.Spec PyProof.Rows L2 NdefX
/-! ### class X(..): def __init__(self, v): super().__init__("text"); self.field = v -/
def spEx (C : Addr) (field : Str) : Sp := fun vs H Q _ => ∃ (a : Addr) (v : V), vs = [.ref a, v] ∧ H a = some (exo a C none) ∧ ∀ dx, H dx = none → dx ≠ a → Q .non (upd (upd H dx (exd dx [(field, v)])) a (exo a C (some dx)))
theorem exn_ok {P : Program} {w : World} {K : PySem.W.Frag} {mg : Str → Option Value} {base : Heap} {F : NF} {f C cc : Addr} {pl : Sem Bool} {fd : FuncData} {dV kV doc pm ct : Value} {an : Option Addr} {ar : Arg} {txt v field : Str} {j : Nat} {p0 p1 p2 p3 pos pos2 q1 q2 q3 q4 : Pos} (hfd : fd = PySem.W.fnX F.name F.qual F.params F.body F.scope F.cl dV kV doc pm an (.ref F.c) ct)
    (S : SupK P K C f F.c cc fd) (hcd : PySem.W.codeIn K (.ref F.c) F.qual = true) (NS : NScope ["self", v, "__class__"] ["self", v] ["__class__"] F.scope) (hcl : F.cl = [(("__class__" : Str), cc)]) (hp : (F.params.posonlyargs ++ F.params.args).head? = some ar) (har : ar.arg = "self") (hks : F.scope.names.lookup ("super" : Str) = some .globalImplicit) (m_super : mg "super" = none)
    (hno : PySem.W.findIn K (.ref C) field = some none) (hvd : (v == ("__debug__" : Str)) = false) (hvc : (v == ("__classdict__" : Str)) = false)
    (hb : F.body = [.Expr (.Call (.Attribute (.Call (.Name "super" p0) [] [] p1) "__init__" p2) [.Constant (.str txt) j p3] [] pos) pos2, .Assign [.Attribute (.Name "self" q1) field q2] (.Name v q3) q4])
    (hint : ∀ (A : Around) (outer : List Env) (s : Shared) (H : Hp) (E : XK), interactive (ncx CX0 P w K mg base ["self", v, "__class__"] F f A outer s H E).env = false)
    (hsw : ∀ (A : Around) (outer : List Env) (s : Shared) (H : Hp) (E : XK), swapsWith (.Call (.Attribute (.Call (.Name "super" p0) [] [] p1) "__init__" p2) [.Constant (.str txt) j p3] [] pos) none pos2.line (ncx CX0 P w K mg base ["self", v, "__class__"] F f A outer s H E).env = pure false)
    (hev : ∀ (A : Around) (outer : List Env) (s : Shared) (H : Hp) (E : XK), eval (.Call (.Attribute (.Call (.Name "super" p0) [] [] p1) "__init__" p2) [.Constant (.str txt) j p3] [] pos) (ncx CX0 P w K mg base ["self", v, "__class__"] F f A outer s H E).env = (do
      let ov ← attributeBase (.Call (.Name "super" p0) [] [] p1) "__init__" (ncx CX0 P w K mg base ["self", v, "__class__"] F f A outer s H E).env (eval (.Call (.Name "super" p0) [] [] p1) (ncx CX0 P w K mg base ["self", v, "__class__"] F f A outer s H E).env)
      standAt p2.atName
      let (g, first) ← holding [ov] (getMethod ov "__init__" pl)
      callWith pos g first (backTo pos (starEach [.Constant (.str txt) j p3] (ncx CX0 P w K mg base ["self", v, "__class__"] F f A outer s H E).env)) []))
    (hs2 : ∀ (A : Around) (outer : List Env) (s : Shared) (H : Hp) (E : XK), swapsWith (.Name v q3) (some (.Attribute (.Name "self" q1) field q2)) q4.line (ncx CX0 P w K mg base ["self", v, "__class__"] F f A outer s H E).env = pure false) : FnOk P w K mg base CX0 1 f fd ["self", v] (spEx C field) := by
  refine sup_ok (k := 0) (rest := [.Assign [.Attribute (.Name "self" q1) field q2] (.Name v q3) q4]) hfd S hcd NS hcl hp hks m_super (by rw [har]; rfl) (by rw [har]; exact NS.par _ (List.mem_cons_self ..)) hb (fun vs H Q E h => ?_) (fun vs H Q E h => ?_) hint hsw hev (fun A outer s H vs Q E h => ?_)
  · obtain ⟨a, y, rfl, _⟩ := h
    rfl
  · obtain ⟨a, y, rfl, hx, _⟩ := h
    exact ⟨a, [y], rfl, hx⟩
  · obtain ⟨a, y, rfl, hx, q⟩ := h
    refine ⟨_, pss_one (ps_ost (pe_var (i := 0) rfl (.inl (NS.par _ (List.mem_cons_self ..)))) (pe_var (i := 1) rfl (.inl (NS.par _ (List.mem_cons_of_mem _ (List.mem_cons_self ..)))) hvd hvc) (hs2 A outer s H E)), ?_⟩
    refine ⟨y, rfl, .ref a, rfl, a, C, rfl, S.oex, hno, .inl ⟨hx, fun dx n1 n2 => ?_⟩⟩
    exact q dx n1 n2
/-! ### raise X(e) -/
structure Exn (P : Program) (w : World) (K : PySem.W.Frag) (mg : Str → Option Value) (base : Heap) (x : Str) (C : Addr) (field : Str) : Prop where
  oex : OexC K C
  gl : mg x = some (.ref C)
  ini : ∃ fI fd ps, PySem.W.findIn K (.ref C) "__init__" = some (some (.ref fI)) ∧ PySem.W.typeIn K (.ref fI) = some (.type "function") ∧ FnOk P w K mg base CX0 1 fI fd ps (spEx C field) ∧ Binds K fd ps []
section
variable {X : Cx} {x field : Str} {C : Addr} {j : Nat} {e : Expr} {ta : TA} {p pos pos2 : Pos} {W : WX}
theorem pmk_exn (c : Exn X.prog X.w X.K X.mg X.base x C field) (hr : Room j X.A) (hk : 2 ≤ j) (hg : Gl X x) (ha : PA X [e] ta) (hdb : (x == ("__debug__" : Str)) = false := by decide) (he : starEach [e] X.env = (false, eval e X.env) :: starEach [] X.env := by rfl) (hpl : (backTo pos (starEach [] X.env)).any (·.1) = false := by rfl) :
    PMk X (.Call (.Name x p) [e] [] pos) (tMkO C (spEx C field) [] ta) := by
  obtain ⟨fI, fd, ps, iC, tI, F1, b⟩ := c.ini
  exact pmk_oex (X := X) (pos := pos) (p := p) (dvs := []) c.oex iC tI F1 (hr.mono hk) b .nil pass0 hg c.gl ha hdb he hpl
/-- raise X(e) -/
theorem ps_exn (hc : X.calm = true) (tk : Takes X W) (c : Exn X.prog X.w X.K X.mg X.base x C field) (hr : Room j X.A) (hk : 2 ≤ j) (hg : Gl X x) (ha : PA X [e] ta) (hdb : (x == ("__debug__" : Str)) = false := by decide) (he : starEach [e] X.env = (false, eval e X.env) :: starEach [] X.env := by rfl) (hpl : (backTo pos (starEach [] X.env)).any (·.1) = false := by rfl) :
    PS X (.Raise (some (.Call (.Name x p) [e] [] pos)) none pos2) (fun _ σ H => tMkO C (spEx C field) [] ta σ H fun cls d H' => W cls d σ H') := ps_raise hc tk (pmk_exn c hr hk hg ha hdb he hpl)
end
/-- what is left to show of X(v) -/
theorem mkx_of {C : Addr} {field : Str} {v : V} {H1 : Hp} {Q : XK} (q : ∀ d, H1 d = none → Q (.ref C) (some d) (upd H1 d (.xd [(field, v)]))) :
    [v].length ≤ 1000 ∧ ∀ a, H1 a = none → spEx C field (.ref a :: ([v] ++ [])) (upd H1 a (exo a C none)) (fun v H2 => v = .non ∧ ∃ (d : Addr) (fs : List (Str × V)), H2 a = some (exo a C (some d)) ∧ H2 d = some (exd d fs) ∧ H1 d = none ∧ Q (.ref C) (some d) (upd (del H2 a) d (.xd fs))) (fun _ _ _ => False) := by
  refine ⟨by simp, fun a na => ⟨a, v, rfl, upd_same, fun dx n1 n2 => ⟨rfl, dx, [(field, v)], upd_same, ?_, ?_, ?_⟩⟩⟩
  · rw [upd_ne n2, upd_same]
  · rw [← n1, upd_ne n2]
  · have n3 : H1 dx = none := by rw [← n1, upd_ne n2]
    have e1 : upd (del (upd (upd (upd H1 a (exo a C none)) dx (exd dx [(field, v)])) a (exo a C (some dx))) a) dx (.xd [(field, v)]) = upd H1 dx (.xd [(field, v)]) := by
      funext b
      by_cases hb : b = dx
      · rw [hb, upd_same, upd_same]
      · rw [upd_ne hb, upd_ne hb]
        by_cases ha2 : b = a
        · rw [ha2, del_same, na]
        · rw [del_ne ha2, upd_ne ha2, upd_ne hb, upd_ne ha2]
    rw [e1]
    exact q dx n3
/-! ### calls that may raise -/
structure CalX (P : Program) (w : World) (K : PySem.W.Frag) (mg : Str → Option Value) (base : Heap) (k : Nat) (x : Str) (sp : Sp) : Prop where
  ex : ∃ (f : Addr) (fd : FuncData) (ps : List Str), FnOk P w K mg base (L2.CX P w) k f fd ps sp ∧ mg x = some (.ref f) ∧ PySem.W.keepIn K (.ref f) = true ∧ Binds K fd ps []
structure MakX (P : Program) (w : World) (K : PySem.W.Frag) (mg : Str → Option Value) (base : Heap) (k : Nat) (x : Str) (C : Addr) (sp : Sp) : Prop where
  ex : ∃ (f : Addr) (fd : FuncData) (ps : List Str), Mk K C f ∧ FnOk P w K mg base (L2.CX P w) k f fd ps sp ∧ mg x = some (.ref C) ∧ Binds K fd ps []
structure MetX (P : Program) (w : World) (K : PySem.W.Frag) (mg : Str → Option Value) (base : Heap) (k : Nat) (C : Addr) (m : Str) (sp : Sp) : Prop where
  ex : ∃ (f : Addr) (fd : FuncData) (ps : List Str), Cls K C ∧ Meth K C m f ∧ FnOk P w K mg base (L2.CX P w) k f fd ps sp ∧ Binds K fd ps []
structure CobX (P : Program) (w : World) (K : PySem.W.Frag) (mg : Str → Option Value) (base : Heap) (k : Nat) (C : Addr) (sp : Sp) : Prop where
  ex : ∃ (g : Addr) (fd : FuncData) (ps : List Str), StX.CallO K C g ∧ FnOk P w K mg base (L2.CX P w) k g fd ps sp ∧ Binds K fd ps []
/-- C(e, ..) by its __init__'s promise; what is raised at the slots -/
def tMkW (C : Addr) (sp : Sp) (E : L2.St → XK) (t : TA) : TE := fun σ H Q => t σ H fun vs H1 => ∀ n dx, H1 n = none → H1 dx = none → dx ≠ n → sp (.ref n :: vs) (upd (upd H1 dx (.own n)) n (.ins C dx [])) (fun v H2 => v = .non ∧ Q (.ref n) H2) (E σ)
def tCoW (C : Addr) (sp : Sp) (E : L2.St → XK) (tf : TE) (t : TA) : TE := fun σ H Q => tf σ H fun y H1 => ∃ a, y = V.ref a ∧ t σ H1 fun vs H2 => (∃ dx fs, H2 a = some (.ins C dx fs)) ∧ sp (V.ref a :: vs) H2 Q (E σ)
def tMeW (C : Addr) (m : Str) (sp : Sp) (E : L2.St → XK) (ta : TE) (t : TA) : TE := fun σ H Q => ta σ H fun x H1 => ∃ a dx fs, x = V.ref a ∧ H1 a = some (.ins C dx fs) ∧ List.lookup m fs = none ∧ t σ H1 fun vs H2 => sp (x :: vs) H2 Q (E σ)
section
variable {X : Cx} {k j : Nat} {x m : Str} {sp : Sp} {C : Addr} {p pos apos : Pos} {e o fe : Expr} {es : List Expr} {t : TA} {ta tf : TE} {W : WX} {E : L2.St → XK}
theorem passS0 {σ : L2.St} : PassesAt (L2.CX X.prog X.w) X σ E0 := fun pins H s e s' I c => passL pins σ H s e s' I c
/-- any result of a promise, at the slots -/
theorem back_at {σ : L2.St} {H : Hp} {s : Shared} {pins : List (Addr × Obj)} {Q : VK} {E : XK} {CX : CXT} (hx : PassesAt CX X σ E) (I : Inv X pins σ H s) : ∀ (r : Result) (s' : Shared), CR CX X.stack X.prog X.w H s Q E r s' → match r with
    | .ok (.ret v) => EP X pins σ Q v s'
    | .ok _ => False
    | .error e => X.xe e s'
  | .error e, s', h => hx pins H s e s' I h
  | .ok (.ret u), s', h => I.after h
  | .ok .next, s', h => h
  | .ok .brk, s', h => h
  | .ok .cont, s', h => h
theorem pe_clE (c : CalX X.prog X.w X.K X.mg X.base k x sp) (hx : ∀ σ, PassesAt (L2.CX X.prog X.w) X σ (E σ)) (hr : Room j X.A) (hk : k ≤ j) (hg : Gl X x) (ha : PA X (e :: es) t) (hdb : (x == ("__debug__" : Str)) = false := by decide) (he : starEach (e :: es) X.env = (false, eval e X.env) :: starEach es X.env := by rfl) (hpl : (backTo pos (starEach es X.env)).any (·.1) = false := by rfl) :
    PE X (.Call (.Name x p) (e :: es) [] pos) (tCallS sp E t) := by
  obtain ⟨f, fd, ps, F, hm, kp, b⟩ := c.ex
  exact pe_callS F (hr.mono hk) hg hm kp b hx ha hdb he hpl
theorem pe_mkE (c : MakX X.prog X.w X.K X.mg X.base k x C sp) (hx : ∀ σ, PassesAt (L2.CX X.prog X.w) X σ (E σ)) (hr : Room j X.A) (hk : k + 1 ≤ j) (hg : Gl X x) (ha : PA X (e :: es) t) (hdb : (x == ("__debug__" : Str)) = false := by decide) (he : starEach (e :: es) X.env = (false, eval e X.env) :: starEach es X.env := by rfl) (hpl : (backTo pos (starEach es X.env)).any (·.1) = false := by rfl) :
    PE X (.Call (.Name x p) (e :: es) [] pos) (tMkW C sp E t) := by
  obtain ⟨f, fd, ps, M, F, hm, b⟩ := c.ex
  constructor
  intro pins s σ H Q I h
  refine wpAny_Call_Name_kw (ld_glob I hg hm ?_ hdb)
  refine PySem.W.callWith_K (h₀ := X.base) I.ok.mod.kin M.kp (thn (ha.run pos pins s σ H _ I h) fun us s1 z => ?_) he hpl
  obtain ⟨vs, H1, I1, rr, q⟩ := z
  refine ⟨I1.kIn, ?_⟩
  obtain ⟨n, hn⟩ : ∃ n, n = s1.heap.objs.size := ⟨_, rfl⟩
  have q1 := q (n + 1) n (I1.hok.fresh (by rw [hn]; exact Nat.le_succ _)) (I1.hok.fresh (by rw [hn]; exact Nat.le_refl _)) (Nat.ne_of_lt (Nat.lt_succ_self _))
  subst hn
  have J := Inv.made (C := C) I1
  have r3 : Vals (V.ref (s1.heap.objs.size + 1) :: vs) (Value.ref (s1.heap.objs.size + 1) :: us) := .cons rfl rr
  have b3 := b { s1 with heap := (s1.heap.push PySem.W.emptyDict).push (PySem.W.instObj C s1.heap.objs.size) } (Value.ref (s1.heap.objs.size + 1) :: us) J.kIn (by rw [List.append_nil, ← r3.length]; exact F.len _ _ _ _ q1)
  rw [List.append_nil] at b3
  have run := F.run _ X.stack _ _ _ _ _ _ _ ((hr.mono hk).make C us []) (J.env0.make C us []) b3 r3 q1
  refine wpAny_call (make_map (f := f) I1.kIn M.makes M.init (beq_iff_eq.mp M.fn) (codeAny_mono run fun r s' hq => ?_))
  have z := back_at (hx σ) J r s' hq
  match r, z with
  | .error e, z => exact z
  | .ok (.ret u), ⟨v, H', J', rv, ev, q3⟩ =>
    subst ev
    exact ⟨rv, V.ref (s1.heap.objs.size + 1), H', J', rfl, q3⟩
theorem run_atE {f : Addr} {fd : FuncData} {ps : List Str} {σ : L2.St} {H : Hp} {s : Shared} {pins : List (Addr × Obj)} {Q : VK} {us : List Value} {vs : List V} (F : FnOk X.prog X.w X.K X.mg X.base (L2.CX X.prog X.w) k f fd ps sp) (b : Binds X.K fd ps []) (hx : PassesAt (L2.CX X.prog X.w) X σ (E σ)) (hr : Room k X.A) (I : Inv X pins σ H s) (r : Vals vs us) (h : sp vs H Q (E σ)) :
    codeAny (model X.prog X.w) X.A (.call (.ref f) ⟨us, []⟩) (fun r s' => match r with | .ok (.ret v) => EP X pins σ Q v s' | .ok _ => False | .error e => X.xe e s') s := by
  have b3 := b s us I.kIn (by rw [List.append_nil, ← r.length]; exact F.len _ _ _ _ h)
  rw [List.append_nil] at b3
  exact codeAny_mono (F.run _ X.stack _ _ _ _ _ _ _ hr I.env0 b3 r h) (back_at hx I)
theorem pe_coE (c : CobX X.prog X.w X.K X.mg X.base k C sp) (hf : PE X fe tf) (hx : ∀ σ, PassesAt (L2.CX X.prog X.w) X σ (E σ)) (hr : Room j X.A) (hk : k ≤ j) (ha : PA X (e :: es) t)
    (ht : eval (.Call fe (e :: es) [] pos) X.env = (do callWith pos (← eval fe X.env) [] (backTo pos (starEach (e :: es) X.env)) (backToKw pos (keywordEach [] X.env))) := by rfl)
    (he : starEach (e :: es) X.env = (false, eval e X.env) :: starEach es X.env := by rfl) (hpl : (backTo pos (starEach es X.env)).any (·.1) = false := by rfl) : PE X (.Call fe (e :: es) [] pos) (tCoW C sp E tf t) := by
  obtain ⟨g, fd, ps, co, F, b⟩ := c.ex
  constructor
  intro pins s σ H Q I h
  refine Call_ (thn (hf.run pins s σ H _ I h) fun u s1 ⟨y, H1, I1, ry, a, ey, q⟩ => ?_) ht
  subst ey
  obtain rfl : u = Value.ref a := ry
  refine StX.callO_with (thn (ha.run pos pins s1 σ H1 _ I1 q) fun us s2 z => ?_) he hpl
  obtain ⟨vs, H2, I2, r, hi, q2⟩ := z
  have hi2 : StX.InsC X H2 a C := .inr hi
  obtain ⟨ox, od, J, hd⟩ := StX.insC_at I2 hi2
  exact ⟨⟨C, ox, od, J, hd⟩, wpAny_call (PySem.W.kco_code I2.kIn J hd co.at_ co.fn co.fi (run_atE (vs := .ref a :: vs) (us := .ref a :: us) F b (hx σ) (hr.mono hk) I2 (.cons rfl r) q2))⟩
theorem pe_meE {pl : Sem Bool} (c : MetX X.prog X.w X.K X.mg X.base k C m sp) (ho : PE X o ta) (hx : ∀ σ, PassesAt (L2.CX X.prog X.w) X σ (E σ)) (hr : Room j X.A) (hk : k ≤ j) (ha : PA X (e :: es) t)
    (hst : starEach (e :: es) X.env = (false, eval e X.env) :: starEach es X.env := by rfl) (hpl : (backTo pos (starEach es X.env)).any (·.1) = false := by rfl)
    (ht : eval (.Call (.Attribute o m apos) (e :: es) [] pos) X.env = (do
      let ov ← eval o X.env
      standAt apos.atName
      let (g, first) ← holding [ov] (getMethod ov m pl)
      callWith pos g first (backTo pos (starEach (e :: es) X.env)) (backToKw pos (keywordEach [] X.env))) := by rfl) : PE X (.Call (.Attribute o m apos) (e :: es) [] pos) (tMeW C m sp E ta t) := by
  obtain ⟨f, fd, ps, cl, me, F, b⟩ := c.ex
  constructor
  intro pins s σ H Q I h
  refine PySem.W.methodCall_KW (pl := pl) (thn (ho.run pins s σ H _ I h) fun u s1 z => ?_) ht
  obtain ⟨y, H1, I1, ry, a, dx, fs, ey, ea, l, q⟩ := z
  subst ey
  obtain rfl : u = Value.ref a := ry
  refine getmeth_ok I1 ea cl me l ?_
  refine PySem.W.callWith_K (first := [.ref a]) (h₀ := X.base) I.ok.mod.kin me.kp (thn (ha.run pos pins s1 σ H1 _ I1 q) fun us s2 z => ?_) hst hpl
  obtain ⟨vs, H2, I2, r, q2⟩ := z
  exact ⟨I2.kIn, wpAny_call (run_atE (vs := .ref a :: vs) (us := .ref a :: us) F b (hx σ) (hr.mono hk) I2 (.cons rfl r) q2)⟩
theorem takes_fn {P : Program} {w : World} {K : PySem.W.Frag} {mg : Str → Option Value} {base : Heap} {N : List Str} {qual : Str} {scope : Scope} {f : Addr} {cd : Value} {A : Around} {outer : List Env} {s : Shared} {H : Hp} {E : XK} : Takes (cxOf (L2.CX P w) P w K mg base N qual scope f cd A outer s H E) (fun cls d _ H' => E cls d H') := takes_of rfl rfl rfl rfl
end
end Z
set_option Elab.async false
set_option linter.all false
set_option maxRecDepth 100000
set_option maxHeartbeats 4000000
namespace Z
open PySem PySem.Spec PyProof.Rows L2 NdefX
/-! ### what the head tells of such a class -/
def oexB (K : PySem.W.Frag) (C : Addr) : Bool := (match K.lookup C with
  | some ⟨.type t, _, .cls cd, sl⟩ => (match cd.mro, sl.toList with
    | .ref D :: bm, [_, _, _, _, some (.builtin n), _] => decide (t = "type") && (decide (D = C) && (decide (n = "ValueError.__new__") && (!cd.hasDel && (cd.hasDict && PySem.HandSPX.refsVE bm))))
    | _, _ => false)
  | _ => false) && (He.eqO (PySem.W.findIn K (.ref C) "__setattr__") (some (some (.builtin "object.__setattr__"))) && (decide (PySem.W.subIn K (.ref C) (.type "BaseException") = some true) && (decide (PySem.W.typeIn K (.ref C) = some (.type "type")) && PySem.W.keepIn K (.ref C))))
theorem oexB_ok {K : PySem.W.Frag} {C : Addr} (h : oexB K C = true) : OexC K C := by
  obtain ⟨h0, h⟩ := He.ba h
  obtain ⟨h1, h⟩ := He.ba h
  obtain ⟨h2, h⟩ := He.ba h
  obtain ⟨h3, h4⟩ := He.ba h
  refine ⟨?_, He.eqO_ok h1, of_decide_eq_true h2, of_decide_eq_true h3, h4⟩
  split at h0
  · next t dd cd sl lk =>
    split at h0
    · next D bm a0 a1 a2 a3 n a5 em es =>
      obtain ⟨g1, h0⟩ := He.ba h0
      obtain ⟨g2, h0⟩ := He.ba h0
      obtain ⟨g3, h0⟩ := He.ba h0
      obtain ⟨g4, h0⟩ := He.ba h0
      obtain ⟨g5, g6⟩ := He.ba h0
      have g1 := of_decide_eq_true g1
      have g2 := of_decide_eq_true g2
      have g3 := of_decide_eq_true g3
      subst g1 g2 g3
      obtain ⟨c1, c2, c3, c4, c5, c6, c7, c8, c9, c10, c11⟩ := cd
      have k3 : c3 = .ref D :: bm := em
      have k4 : c11 = false := by
        have z : (!c11) = true := g4
        cases c11
        · rfl
        · cases z
      have k5 : c6 = true := g5
      clear em g4 g5
      subst k3 k4 k5
      refine ⟨c1, c5, c4, c2, bm, c7, c8, c9, c10, dd, a0, a1, a2, a3, a5, ?_, g6⟩
      rw [lk]
      have : sl = #[a0, a1, a2, a3, some (.builtin "ValueError.__new__"), a5] := by
        apply Array.toList_inj.mp
        rw [es]
      rw [this]
    · cases h0
  · cases h0
def initFd (K : PySem.W.Frag) (C : Addr) : Option FuncData := match K.lookup (He.ma K C "__init__") with
  | some ⟨_, _, .func fd, _⟩ => some fd
  | _ => none
abbrev SupV : Type := Option (Str × Str × Arguments × FuncBody × Scope × Addr × List Str × Value × Addr)
def supObs (K : PySem.W.Frag) (x : Str) : SupV := (initFd K (He.ga K x)).map fun fd => (fd.name, fd.qualname, fd.params, fd.body, fd.scope, fd.globals, fd.closure.map (·.1), fd.defaults, fd.builtins)
def supVal (q : Str) (st : Stmt) : SupV := some ("__init__", q, defArgs st, .stmts (defBody st), defScope st, mainGlobals, ["__class__"], .none, builtinsNs)
def supB (fl : Str) (K : PySem.W.Frag) (C : Addr) (q : Str) : Bool := (match initFd K C with
  | some fd => (match fd.code, fd.closure with
    | .ref c, [(_, cc)] => PySem.W.codeIn K (.ref c) q && ((match K.lookup c with
      | some ⟨_, _, .fields vs, _⟩ => (match (vs[2]? : Option Value) with
        | some (.str file _) => fl == file
        | _ => false)
      | _ => false) && (match K.lookup cc with
      | some ⟨_, _, .cell (some (.ref D)), _⟩ => decide (D = C)
      | _ => false))
    | _, _ => false)
  | none => false) && (decide (PySem.W.mroIn K C (.ref C) = some true) && (He.eqO (PySem.W.nsIn K cStatics "thirdparty.any") (some none) && (He.eqO (PySem.W.ks_superIn K C C "__init__") (some (some (.builtin "ValueError.__init__"))) && (decide (PySem.W.subIn K (.ref C) (.type "ValueError") = some true) && (PySem.W.excInitIn K C He.veBase "ValueError.__new__" && oexB K C)))))
theorem sup_of {P : Program} {K : PySem.W.Frag} {x q fl : Str} {st : Stmt} (h1 : supObs K x = supVal q st) (h2 : supB fl K (He.ga K x) q = true) (hfl : ((P.main.file : Str) == fl) = true) (htop : (P.main.scope.names.lookup ("super" : Str)).isSome = false) :
    ∃ (c cc : Addr) (fd : FuncData) (kV doc pm ct : Value) (an : Option Addr), fd = PySem.W.fnX "__init__" q (defArgs st) (defBody st) (defScope st) [(("__class__" : Str), cc)] .none kV doc pm an (.ref c) ct ∧ SupK P K (He.ga K x) (He.ma K (He.ga K x) "__init__") c cc fd ∧ PySem.W.codeIn K (.ref c) q = true := by
  obtain ⟨g0, h2⟩ := He.ba h2
  obtain ⟨g1, h2⟩ := He.ba h2
  obtain ⟨g2, h2⟩ := He.ba h2
  obtain ⟨g3, h2⟩ := He.ba h2
  obtain ⟨g4, h2⟩ := He.ba h2
  obtain ⟨g5, g6⟩ := He.ba h2
  unfold supObs at h1
  cases e : initFd K (He.ga K x) with
  | none =>
    rw [e] at h1
    cases h1
  | some fd =>
    rw [e] at h1 g0
    have lk : ∃ oc od osl, K.lookup (He.ma K (He.ga K x) "__init__") = some ⟨oc, od, .func fd, osl⟩ := by
      unfold initFd at e
      split at e
      · next oc od fd' osl l =>
        cases e
        exact ⟨_, _, _, l⟩
      · cases e
    obtain ⟨n1, n2, n3, n4, n5, n6, n7, n8, n9, n10, n11, n12, n13, n14, n15⟩ := fd
    have h1 : (some (n1, n2, n3, n4, n5, n6, n7.map (·.1), n8, n15) : SupV) = supVal q st := h1
    unfold supVal at h1
    simp only [Option.some.injEq, Prod.mk.injEq] at h1
    obtain ⟨a1, a2, a3, a4, a5, a6, a7, a8, a9⟩ := h1
    subst a1 a2 a3 a4 a5 a6 a8 a9
    dsimp only at g0
    split at g0
    · next c y cc =>
      obtain ⟨b1, g0⟩ := He.ba g0
      obtain ⟨b2, b3⟩ := He.ba g0
      have ey : y = "__class__" := by
        have := a7
        simpa using this
      subst ey
      refine ⟨c, cc, _, _, _, _, _, _, rfl, ⟨lk, ?_, ?_, htop, of_decide_eq_true g1, He.eqO_ok g2, He.eqO_ok g3, of_decide_eq_true g4, g5, oexB_ok g6⟩, b1⟩
      · split at b2
        · next u1 u2 vs u3 l =>
          split at b2
          · next file tf ev =>
            refine ⟨_, _, vs, _, file, tf, l, ev, ?_⟩
            rw [beq_iff_eq.mp b2] at hfl
            exact hfl
          · cases b2
        · cases b2
      · split at b3
        · next u1 u2 D u3 l =>
          have := of_decide_eq_true b3
          subst this
          exact ⟨_, _, _, l⟩
        · cases b3
    · cases g0
end Z
set_option Elab.async false
set_option linter.all false
set_option maxRecDepth 100000
set_option maxHeartbeats 4000000
namespace Z
open PySem PySem.Spec PyProof.Rows L2 NdefX
/-! ### isinstance(e, c), e a caught error with a dict of its own -/
def rIsX (K : PySem.W.Frag) (a : Addr) (cls : Value) (d : Option Addr) : List V → Hp → VK → Prop := fun xs H Q => ∃ (D dd : Addr) (fs : List (Str × V)) (c : V) (cv : Value) (b : Bool), cls = .ref D ∧ d = some dd ∧ ExcC K D ∧ H dd = some (.xd fs) ∧ xs = [.ref a, c] ∧ (∀ u, RelV c u → u = cv) ∧ PySem.W.kitOne K (.ref D) cv = some b ∧ Q (.bl b) H
theorem call_isX {X : Cx} {a : Addr} {cls : Value} {d : Option Addr} {oe : Obj} {pn : List (Addr × Obj)} (hz : Zc cls d oe) (hf : ∃ vs, oe.data = .fields vs) : CallR (X.suite a ((a, oe) :: pn)) (.builtin "isinstance") (rIsX X.K a cls d) := by
  intro pins s σ H xs us Q I r h
  obtain ⟨D, dd, fs, c, cv, b, rfl, rfl, C, ed, rfl, hcv, e, q⟩ := h
  obtain ⟨u1, u2, rfl, r1, r2⟩ := vals2 r
  cases r1
  have ec := hcv _ r2
  subst ec
  obtain ⟨hget, _⟩ := I.pin (a, oe) (List.mem_append.mpr (.inl List.mem_cons_self))
  obtain ⟨vs, hv⟩ := hf
  have hx : ObjOk X.prog X.w H s.heap dd (.xd fs) := I.hok dd _ ed
  obtain ⟨mA, hns, hr⟩ := hx
  obtain ⟨od, ho, hl⟩ := lookIn_ns hns
  have J : PySem.W.InstAt s.heap a oe D (some od) := ⟨hget, hz.1, by unfold PySem.W.notCls; rw [hv] <;> rfl, by rw [hz.2]; exact ho⟩
  have hcl : (PySem.W.clsIn X.K D).isSome = true := by
    obtain ⟨cd, hc, _⟩ := PySem.W.any_some C.hd
    rw [hc]
    rfl
  exact PySem.W.kia_one (PySem.W.kitx_exc hcl C.hg C.hk C.hs C.ha C.hn C.ht C.hm) I.kIn J e (fun z => nomatch z) fun tk => ⟨.bl b, H, I.kept (t' := tk) fun _ _ z => z, rfl, q⟩
end Z
set_option Elab.async false
set_option linter.all false
set_option maxRecDepth 100000
set_option maxHeartbeats 4000000
namespace Z
open PySem PySem.Spec PyProof.Rows L2 NdefX
/-! ### the head with own exceptions: facts of defs and classes, one more Bool, the __init__s -/
def asX (g : Addr → Option Obj) (n : Nat) : List Addr := He.asD g n ++ [cStatics]
def hookX (n : Nat) (fa : List He.Fa) (fn : List He.DefD) (xs : List Str) (vs : List SupV) (ex : PySem.W.Frag → Bool) : PySem.W.Hook where
  α := He.AlD × (List SupV × Bool)
  obs := fun s => (He.obsD fa fn (He.frG s.heap.get? (asX s.heap.get? n)), xs.map (supObs (He.frG s.heap.get? (asX s.heap.get? n))), ex (He.frG s.heap.get? (asX s.heap.get? n)))
  val := fun _ => (He.valD fn, vs, true)
  says := fun _ h => ∃ K : PySem.W.Frag, K.In h ∧ He.SaysD fa fn K ∧ xs.map (supObs K) = vs ∧ ex K = true
  of := fun _ _ e => ⟨_, He.frG_in, congrArg (fun z : He.AlD × (List SupV × Bool) => z.1) e, congrArg (fun z : He.AlD × (List SupV × Bool) => z.2.1) e, congrArg (fun z : He.AlD × (List SupV × Bool) => z.2.2) e⟩
  keeps := fun _ _ _ ⟨K, hK, c⟩ k => ⟨K, PySem.W.Frag.In.keeps hK k, c⟩
def obX (n : Nat) (fa : List He.Fa) (fn : List He.DefD) (xs : List Str) (ex : PySem.W.Frag → Bool) (g : Addr → Option Obj) : He.AlD × (List SupV × Bool) := (He.obsD fa fn (He.frG g (asX g n)), xs.map (supObs (He.frG g (asX g n))), ex (He.frG g (asX g n)))
theorem obX_eq {n : Nat} {fa : List He.Fa} {fn : List He.DefD} {xs : List Str} {vs : List SupV} {ex : PySem.W.Frag → Bool} {g : Addr → Option Obj} {s : Shared} (h : ∀ a, g a = s.heap.get? a) : obX n fa fn xs ex g = (hookX n fa fn xs vs ex).obs s := by
  have e : g = s.heap.get? := funext h
  rw [e] <;> rfl
theorem sup_at {xs : List Str} {vs : List SupV} {K : PySem.W.Frag} (e : xs.map (supObs K) = vs) (i : Nat) {x : Str} {v : SupV} (h1 : xs[i]? = some x := by rfl) (h2 : vs[i]? = some v := by rfl) : supObs K x = v := by
  have := congrArg (fun z : List SupV => z[i]?) e
  simp only [List.getElem?_map, h1, h2] at this
  exact Option.some.inj this
def excB (K : PySem.W.Frag) (D : Addr) : Bool := He.eqO (PySem.W.findIn K (.ref D) "__getattribute__") (some (some (.builtin "BaseException.__getattribute__"))) && (He.eqO (PySem.W.findIn K (.ref D) "__getattr__") (some none) && (decide (PySem.W.subIn K (.ref D) (.type "BaseException") = some true) && (PySem.W.hasDictIn K D && (He.eqO (PySem.W.findIn K (.ref D) "__class__") (some (some (.builtin "object.__class__"))) && (He.eqO (PySem.W.specialIn K (.builtin "object.__class__") "__get__") (some (some (.builtin "getset_descriptor.__get__"))) && (decide (PySem.W.takesIn K (.builtin "object.__class__") = some true) && decide (PySem.W.mroIn K D (.type "object") = some true)))))))
theorem excB_ok {K : PySem.W.Frag} {D : Addr} (h : excB K D = true) : ExcC K D ∧ XfC K D := by
  obtain ⟨h1, h⟩ := He.ba h
  obtain ⟨h2, h⟩ := He.ba h
  obtain ⟨h3, h⟩ := He.ba h
  obtain ⟨h4, h⟩ := He.ba h
  obtain ⟨h5, h⟩ := He.ba h
  obtain ⟨h6, h⟩ := He.ba h
  obtain ⟨h7, h8⟩ := He.ba h
  exact ⟨⟨He.eqO_ok h1, He.eqO_ok h2, of_decide_eq_true h3, h4, He.eqO_ok h5, He.eqO_ok h6, of_decide_eq_true h7, of_decide_eq_true h8⟩, ⟨He.eqO_ok h1, He.eqO_ok h2, of_decide_eq_true h3, h4⟩⟩
/-- an own exception class with the field -/
def exnB (fl q field : Str) (K : PySem.W.Frag) (C : Addr) : Bool := supB fl K C q && (He.eqO (PySem.W.findIn K (.ref C) "__init__") (some (some (.ref (He.ma K C "__init__")))) && (decide (PySem.W.typeIn K (.ref (He.ma K C "__init__")) = some (.type "function")) && (He.eqO (PySem.W.findIn K (.ref C) field) (some none) && excB K C)))
structure ExnF (K : PySem.W.Frag) (C : Addr) (q field fl : Str) : Prop where
  sup : supB fl K C q = true
  ini : PySem.W.findIn K (.ref C) "__init__" = some (some (.ref (He.ma K C "__init__")))
  ty : PySem.W.typeIn K (.ref (He.ma K C "__init__")) = some (.type "function")
  no : PySem.W.findIn K (.ref C) field = some none
  ec : ExcC K C
  xf : XfC K C
theorem exnB_ok {fl q field : Str} {K : PySem.W.Frag} {C : Addr} (h : exnB fl q field K C = true) : ExnF K C q field fl := by
  obtain ⟨h1, h⟩ := He.ba h
  obtain ⟨h2, h⟩ := He.ba h
  obtain ⟨h3, h⟩ := He.ba h
  obtain ⟨h4, h5⟩ := He.ba h
  exact ⟨h1, He.eqO_ok h2, of_decide_eq_true h3, He.eqO_ok h4, (excB_ok h5).1, (excB_ok h5).2⟩
def exmB (K : PySem.W.Frag) (a b : Addr) : Bool := decide (PySem.W.exmOne K (.ref a) (.ref b) = some true)
def kitVB (K : PySem.W.Frag) (a : Addr) (v : Value) (b : Bool) : Bool := decide (PySem.W.kitOne K (.ref a) v = some b)
end Z
set_option Elab.async false
set_option linter.all false
set_option maxRecDepth 100000
set_option maxHeartbeats 4000000
namespace Z
open PySem PySem.Spec PyProof.Rows L2 NdefX
/-! ### the head with own exceptions and properties: further observations are any functions of the written part -/
def hookY (n : Nat) (fa : List He.Fa) (fn : List He.DefD) (xs : List (PySem.W.Frag → SupV)) (vs : List SupV) (ex : PySem.W.Frag → Bool) : PySem.W.Hook where
  α := He.AlD × (List SupV × Bool)
  obs := fun s => (He.obsD fa fn (He.frG s.heap.get? (asX s.heap.get? n)), xs.map (fun f => f (He.frG s.heap.get? (asX s.heap.get? n))), ex (He.frG s.heap.get? (asX s.heap.get? n)))
  val := fun _ => (He.valD fn, vs, true)
  says := fun _ h => ∃ K : PySem.W.Frag, K.In h ∧ He.SaysD fa fn K ∧ xs.map (fun f => f K) = vs ∧ ex K = true
  of := fun _ _ e => ⟨_, He.frG_in, congrArg (fun z : He.AlD × (List SupV × Bool) => z.1) e, congrArg (fun z : He.AlD × (List SupV × Bool) => z.2.1) e, congrArg (fun z : He.AlD × (List SupV × Bool) => z.2.2) e⟩
  keeps := fun _ _ _ ⟨K, hK, c⟩ k => ⟨K, PySem.W.Frag.In.keeps hK k, c⟩
def obY (n : Nat) (fa : List He.Fa) (fn : List He.DefD) (xs : List (PySem.W.Frag → SupV)) (ex : PySem.W.Frag → Bool) (g : Addr → Option Obj) : He.AlD × (List SupV × Bool) := (He.obsD fa fn (He.frG g (asX g n)), xs.map (fun f => f (He.frG g (asX g n))), ex (He.frG g (asX g n)))
theorem obY_eq {n : Nat} {fa : List He.Fa} {fn : List He.DefD} {xs : List (PySem.W.Frag → SupV)} {vs : List SupV} {ex : PySem.W.Frag → Bool} {g : Addr → Option Obj} {s : Shared} (h : ∀ a, g a = s.heap.get? a) : obY n fa fn xs ex g = (hookY n fa fn xs vs ex).obs s := by
  have e : g = s.heap.get? := funext h
  rw [e] <;> rfl
theorem y_at {xs : List (PySem.W.Frag → SupV)} {vs : List SupV} {K : PySem.W.Frag} (e : xs.map (fun f => f K) = vs) (i : Nat) {f : PySem.W.Frag → SupV} {v : SupV} (h1 : xs[i]? = some f := by rfl) (h2 : vs[i]? = some v := by rfl) : f K = v := by
  have := congrArg (fun z : List SupV => z[i]?) e
  simp only [List.getElem?_map, h1, h2] at this
  exact Option.some.inj this
def isB (K : PySem.W.Frag) (C : Addr) : Bool := He.eqO (PySem.W.findIn K (.ref C) "__class__") (some (some (.builtin "object.__class__"))) && (He.eqO (PySem.W.specialIn K (.builtin "object.__class__") "__get__") (some (some (.builtin "getset_descriptor.__get__"))) && (decide (PySem.W.takesIn K (.builtin "object.__class__") = some true) && (decide (PySem.W.mroIn K C (.type "object") = some true) && decide (PySem.W.kitOne K (.ref C) (.ref C) = some true))))
theorem isB_ok {K : PySem.W.Frag} {C : Addr} (cl : Cls K C) (h : isB K C = true) : C8.InsC K C := by
  obtain ⟨h1, h⟩ := He.ba h
  obtain ⟨h2, h⟩ := He.ba h
  obtain ⟨h3, h⟩ := He.ba h
  obtain ⟨h4, h5⟩ := He.ba h
  exact ⟨cl, He.eqO_ok h1, He.eqO_ok h2, of_decide_eq_true h3, of_decide_eq_true h4, of_decide_eq_true h5⟩
def spB (K : PySem.W.Frag) (C : Addr) (m : Str) : Bool := He.eqO (PySem.W.findIn K (.ref C) m) (some (some (.ref (He.ma K C m)))) && (PySem.W.isFn K (.ref (He.ma K C m)) && PySem.W.fnIn K (He.ma K C m))
theorem spB_ok {K : PySem.W.Frag} {C : Addr} {m : Str} (h : spB K C m = true) : PySem.W.findIn K (.ref C) m = some (some (.ref (He.ma K C m))) ∧ PySem.W.isFn K (.ref (He.ma K C m)) = true ∧ PySem.W.fnIn K (He.ma K C m) = true := by
  obtain ⟨h1, h⟩ := He.ba h
  obtain ⟨h2, h3⟩ := He.ba h
  exact ⟨He.eqO_ok h1, h2, h3⟩
theorem all_at {bs : List Bool} (h : bs.all id = true) (i : Nat) {b : Bool} (e : bs[i]? = some b := by rfl) : b = true := List.all_eq_true.mp h b (List.mem_of_getElem? e)
theorem fnr_ok {P : Program} {w : World} {K : PySem.W.Frag} {mg : Str → Option Value} {base : Heap} {k : Nat} {f : Addr} {fd : FuncData} {ps : List Str} {sp : Sp} (F : FnOk P w K mg base CX0 k f fd ps sp) (b : Binds K fd ps []) : FnR P w K mg base CX0 k f sp := (FnOk.raw (dvs := []) F b .nil).imp fun vs H Q E h => by
  show sp (vs ++ []) H Q E
  rw [List.append_nil]
  exact h
/-! a property's getter -/
def gtA (K : PySem.W.Frag) (C : Addr) (m : Str) : Addr := match PySem.W.recIn K (He.ma K C m) "property" with
  | some (.ref g :: _) => g
  | _ => 0
def fdAt (K : PySem.W.Frag) (g : Addr) : Option FuncData := match K.lookup g with
  | some ⟨_, _, .func fd, _⟩ => some fd
  | _ => none
def propObs (x m : Str) (K : PySem.W.Frag) : SupV := (fdAt K (gtA K (He.ga K x) m)).map fun fd => (fd.name, fd.qualname, fd.params, fd.body, fd.scope, fd.globals, fd.closure.map (·.1), fd.defaults, fd.builtins)
def propVal (m q : Str) (st : Stmt) : SupV := some (m, q, defArgs st, .stmts (defBody st), defScope st, mainGlobals, [], .none, builtinsNs)
def propB (K : PySem.W.Frag) (C : Addr) (m q : Str) : Bool := He.eqO (PySem.W.findIn K (.ref C) m) (some (some (.ref (He.ma K C m)))) && (He.eqO (PySem.W.specialIn K (.ref (He.ma K C m)) "__get__") (some (some (.builtin "property.__get__"))) && (decide (PySem.W.takesIn K (.ref (He.ma K C m)) = some true) && ((match PySem.W.recIn K (He.ma K C m) "property" with
  | some (.ref _ :: _) => true
  | _ => false) && (PySem.W.keepIn K (.ref (gtA K C m)) && (match fdAt K (gtA K C m) with
  | some fd => PySem.W.codeIn K fd.code q && (He.dflB K fd.defaults [] && He.kwdB K fd.kwdefaults [])
  | none => false)))))
theorem prop_of {K : PySem.W.Frag} {x m q : Str} {st : Stmt} (h1 : propObs x m K = propVal m q st) (h2 : propB K (He.ga K x) m q = true) : ∃ fd : FuncData, PropOf K (He.ga K x) m (He.ma K (He.ga K x) m) (gtA K (He.ga K x) m) ∧ FunD K m q (defArgs st) (defBody st) (defScope st) [] [] (gtA K (He.ga K x) m) fd := by
  obtain ⟨g0, h2⟩ := He.ba h2
  obtain ⟨g1, h2⟩ := He.ba h2
  obtain ⟨g2, h2⟩ := He.ba h2
  obtain ⟨g3, h2⟩ := He.ba h2
  obtain ⟨g4, g5⟩ := He.ba h2
  have P : PropOf K (He.ga K x) m (He.ma K (He.ga K x) m) (gtA K (He.ga K x) m) := by
    refine ⟨He.eqO_ok g0, He.eqO_ok g1, of_decide_eq_true g2, ?_⟩
    unfold gtA
    split at g3
    · next g rest e =>
      rw [e]
      exact ⟨rest, rfl⟩
    · cases g3
  unfold propObs at h1
  cases e : fdAt K (gtA K (He.ga K x) m) with
  | none =>
    rw [e] at h1
    cases h1
  | some fd =>
    rw [e] at h1 g5
    have lk : ∃ oc od osl, K.lookup (gtA K (He.ga K x) m) = some ⟨oc, od, .func fd, osl⟩ := by
      unfold fdAt at e
      split at e
      · next oc od fd' osl l =>
        cases e
        exact ⟨_, _, _, l⟩
      · cases e
    obtain ⟨oc, od, osl, lk⟩ := lk
    obtain ⟨n1, n2, n3, n4, n5, n6, n7, n8, n9, n10, n11, n12, n13, n14, n15⟩ := fd
    have h1 : (some (n1, n2, n3, n4, n5, n6, n7.map (·.1), n8, n15) : SupV) = propVal m q st := h1
    unfold propVal at h1
    simp only [Option.some.injEq, Prod.mk.injEq] at h1
    obtain ⟨a1, a2, a3, a4, a5, a6, a7, a8, a9⟩ := h1
    have a7 : n7 = [] := List.map_eq_nil_iff.mp a7
    subst a1 a2 a3 a4 a5 a6 a7 a8 a9
    obtain ⟨k1, k2⟩ := He.ba (show (PySem.W.codeIn K n13 n2 && (He.dflB K .none [] && He.kwdB K n9 [])) = true from g5)
    obtain ⟨k3, k4⟩ := He.ba k2
    exact ⟨_, P, ⟨oc, od, _, n9, n10, n11, n12, n13, n14, osl, rfl, lk, k1, He.dflB_ok k3, He.kwdB_ok k4⟩, g4⟩
end Z
set_option Elab.async false
set_option linter.all false
namespace Dy
/-! ### day functions: the mathematics -/
/-- the value of the rule with these days -/
def dv (ds : List Int) (d : Int) : Int := ds.getD (d % (ds.length : Int)).toNat 0 + (ds.length : Int) * (d / (ds.length : Int))
def Per (F : Int → Int) (s : Int) : Prop := ∀ d, F (d + s) = F d + s
theorem Per.mul {F : Int → Int} {s : Int} (h : Per F s) : ∀ (n : Nat) (d : Int), F (d + n * s) = F d + n * s
  | 0, d => by
    rw [show ((0 : Nat) : Int) * s = 0 by simp]
    simp
  | n + 1, d => by
    have e : ((n + 1 : Nat) : Int) * s = n * s + s := by
      rw [Int.natCast_add, Int.add_mul]
      simp
    rw [e, ← Int.add_assoc, h, h.mul n d]
    omega
theorem Per.imul {F : Int → Int} {s : Int} (h : Per F s) (n : Int) (d : Int) : F (d + n * s) = F d + n * s := by
  rcases Int.le_total 0 n with c | c
  · obtain ⟨m, rfl⟩ := Int.eq_ofNat_of_zero_le c
    exact h.mul m d
  · obtain ⟨m, e⟩ := Int.eq_ofNat_of_zero_le (show 0 ≤ -n by omega)
    have e : n = -(m : Int) := by omega
    subst e
    have := h.mul m (d + -(m : Int) * s)
    rw [show d + -(m : Int) * s + m * s = d by rw [Int.neg_mul]; omega] at this
    rw [this]
    rw [Int.neg_mul]
    omega
theorem Per.sub {F : Int → Int} {s t : Int} (h : Per F s) (k : Per F t) : Per F (s - t) := fun d => by
  have h1 := h (d - t)
  have h2 := k (d - t)
  rw [show d - t + t = d by omega] at h2
  rw [show d + (s - t) = d - t + s by omega, h1]
  omega
/-- a list that tells the values of F from 0 on -/
structure Of (F : Int → Int) (ds : List Int) : Prop where
  pos : 0 < ds.length
  per : Per F (ds.length : Int)
  at_ : ∀ i, i < ds.length → ds.getD i 0 = F (i : Int)
theorem Of.dv {F : Int → Int} {ds : List Int} (h : Of F ds) (d : Int) : dv ds d = F d := by
  unfold Dy.dv
  have hn : 0 < (ds.length : Int) := by have := h.pos; omega
  have h1 := Int.emod_nonneg d (show (ds.length : Int) ≠ 0 by omega)
  have h2 := Int.emod_lt_of_pos d hn
  rw [h.at_ _ (by omega), Int.toNat_of_nonneg h1]
  have h3 := h.per.imul (d / (ds.length : Int)) (d % (ds.length : Int))
  have h4 := Int.emod_add_mul_ediv d (ds.length : Int)
  rw [show d % (ds.length : Int) + d / (ds.length : Int) * (ds.length : Int) = d by rw [Int.mul_comm (d / _)]; exact h4] at h3
  rw [h3, Int.mul_comm (d / _)]
theorem of_dv {ds : List Int} (h : 0 < ds.length) : Of (dv ds) ds := by
  refine ⟨h, fun d => ?_, fun i hi => ?_⟩
  · unfold dv
    rw [Int.add_emod_right, Int.add_ediv_of_dvd_right (Int.dvd_refl _), Int.ediv_self (by omega), Int.mul_add]
    omega
  · unfold dv
    rw [Int.emod_eq_of_lt (by omega) (by omega), Int.ediv_eq_zero_of_lt (by omega) (by omega)]
    simp
/-- the least period -/
structure Lp (F : Int → Int) (p : Nat) : Prop where
  pos : 0 < p
  per : Per F (p : Int)
  least : ∀ s : Nat, 0 < s → Per F (s : Int) → p ≤ s
theorem Lp.uniq {F : Int → Int} {p q : Nat} (a : Lp F p) (b : Lp F q) : p = q := by
  have h1 := a.least q b.pos b.per
  have h2 := b.least p a.pos a.per
  omega
theorem Lp.dvd {F : Int → Int} {p n : Nat} (a : Lp F p) (h : Per F (n : Int)) : n % p = 0 := by
  have hm : Per F ((n % p : Nat) : Int) := by
    have h1 : Per F (((n / p : Nat) : Int) * (p : Int)) := fun d => a.per.mul (n / p) d
    have h2 := h.sub h1
    have e : (n : Int) - ((n / p : Nat) : Int) * (p : Int) = ((n % p : Nat) : Int) := by
      have := Nat.div_add_mod n p
      have h3 : (n : Int) = ((p * (n / p) + n % p : Nat) : Int) := by rw [this]
      rw [Int.natCast_add, Int.natCast_mul, Int.mul_comm] at h3
      omega
    rw [e] at h2
    exact h2
  rcases Nat.eq_zero_or_pos (n % p) with c | c
  · exact c
  · have := a.least _ c hm
    have := Nat.mod_lt n a.pos
    omega
/-- seen on one stretch of n days -/
theorem per_of {F : Int → Int} {n : Nat} {s : Int} (hn : 0 < n) (h : Per F (n : Int)) (k : ∀ i : Nat, i < n → F ((i : Int) + s) = F (i : Int) + s) : Per F s := fun d => by
  have hn2 : 0 < (n : Int) := by omega
  have h1 := Int.emod_nonneg d (show (n : Int) ≠ 0 by omega)
  have h2 := Int.emod_lt_of_pos d hn2
  have h4 := Int.emod_add_mul_ediv d (n : Int)
  obtain ⟨i, ei⟩ := Int.eq_ofNat_of_zero_le h1
  have hi : i < n := by omega
  have e1 : d = (i : Int) + d / n * n := by rw [← ei, Int.mul_comm (d / _)]; exact h4.symm
  have a1 := h.imul (d / n) (i : Int)
  have a2 := h.imul (d / n) ((i : Int) + s)
  rw [← e1] at a1
  rw [show (i : Int) + s + d / n * n = d + s by omega] at a2
  rw [a2, a1, k i hi]
  omega
/-- the program's test: s divides n, and the days behind s are those before, s later -/
def Blk (ds : List Int) (s : Nat) : Prop := ds.length % s = 0 ∧ ∀ i, s ≤ i → i < ds.length → ds.getD i 0 = ds.getD (i - s) 0 + s
theorem blk_per {F : Int → Int} {ds : List Int} {s : Nat} (h : Of F ds) (hs : 0 < s) (b : Blk ds s) : Per F (s : Int) := by
  obtain ⟨b1, b2⟩ := b
  obtain ⟨q, hq⟩ := Nat.dvd_of_mod_eq_zero b1
  have hp := h.pos
  -- within the list
  have st : ∀ i : Nat, i + s < ds.length → F ((i : Int) + s) = F (i : Int) + s := fun i hi => by
    have := b2 (i + s) (by omega) hi
    rw [h.at_ _ hi, show i + s - s = i by omega, h.at_ i (by omega)] at this
    rw [← this]
    congr 1
  have ch : ∀ (k i : Nat), i + k * s < ds.length → F ((i : Int) + k * s) = F (i : Int) + k * s := by
    intro k
    induction k with
    | zero =>
      intro i _
      simp
    | succ k ih =>
      intro i hi
      have e : (k + 1) * s = k * s + s := by rw [Nat.add_mul, Nat.one_mul]
      rw [e] at hi
      have h1 := ih i (by omega)
      have h2 := st (i + k * s) (by omega)
      have e2 : ((k + 1 : Nat) : Int) * (s : Int) = k * s + s := by
        rw [Int.natCast_add, Int.add_mul]
        simp
      rw [e2, ← Int.add_assoc]
      rw [show ((i + k * s : Nat) : Int) = (i : Int) + k * s by rw [Int.natCast_add, Int.natCast_mul]] at h2
      rw [h2, h1]
      omega
  refine per_of hp h.per (fun i hi => ?_)
  by_cases c : i + s < ds.length
  · exact st i c
  · -- the last block
    have q1 : 0 < q := by
      rcases Nat.eq_zero_or_pos q with z | z
      · rw [z, Nat.mul_zero] at hq
        omega
      · exact z
    obtain ⟨q', rfl⟩ : ∃ q', q = q' + 1 := ⟨q - 1, by omega⟩
    have e : s * (q' + 1) = q' * s + s := by rw [Nat.mul_add, Nat.mul_one, Nat.mul_comm]
    rw [e] at hq
    obtain ⟨j, hj⟩ : ∃ j : Nat, i = j + q' * s := ⟨i - q' * s, by omega⟩
    have a1 := ch q' j (by omega)
    have a2 := h.per (j : Int)
    have e3 : (ds.length : Int) = (q' : Int) * s + s := by rw [hq, Int.natCast_add, Int.natCast_mul]
    rw [e3] at a2
    have e4 : (i : Int) = (j : Int) + q' * s := by rw [hj, Int.natCast_add, Int.natCast_mul]
    rw [e4, a1]
    rw [Int.add_assoc, a2]
    omega
theorem lp_blk {F : Int → Int} {ds : List Int} {p : Nat} (h : Of F ds) (l : Lp F p) : Blk ds p := by
  refine ⟨l.dvd h.per, fun i hi hn => ?_⟩
  rw [h.at_ i hn, h.at_ (i - p) (by omega)]
  have := l.per ((i - p : Nat) : Int)
  rw [← this]
  congr 1
  omega
/-- the first size below n that passes a test that means «a period» -/
theorem first_lp {F : Int → Int} {n s : Nat} (T : Nat → Prop) (hn : 0 < n) (h : Per F (n : Int)) (hT : ∀ k, 0 < k → T k → Per F (k : Int)) (hL : ∀ p, Lp F p → p < n → T p) (hs : 0 < s) (hsn : s ≤ n) (h1 : ∀ k, 0 < k → k < s → ¬ T k) (h2 : s < n → T s) : Lp F s := by
  -- the least period exists
  have ex : ∃ p, Lp F p := by
    have key : ∀ m : Nat, ∀ k : Nat, k ≤ m → 0 < k → Per F (k : Int) → ∃ p, Lp F p := by
      intro m
      induction m with
      | zero => intro k a b; omega
      | succ m ih =>
        intro k a b c
        by_cases z : ∃ j : Nat, 0 < j ∧ j < k ∧ Per F (j : Int)
        · obtain ⟨j, j1, j2, j3⟩ := z
          exact ih j (by omega) j1 j3
        · refine ⟨k, b, c, fun j j1 j2 => ?_⟩
          apply Decidable.byContradiction
          intro w
          exact z ⟨j, j1, by omega, j2⟩
    exact key n n (Nat.le_refl _) hn h
  obtain ⟨p, hp⟩ := ex
  have pn := hp.least n hn h
  have e : p = s := by
    by_cases c : p < s
    · exact absurd (hL p hp (by omega)) (h1 p hp.pos c)
    · by_cases d : s < n
      · have := hp.least s hs (hT s hs (h2 d))
        omega
      · omega
  rw [← e]
  exact hp
theorem Of.take {F : Int → Int} {ds : List Int} {p : Nat} (h : Of F ds) (l : Lp F p) : p ≤ ds.length ∧ (ds.take p).length = p ∧ Of F (ds.take p) := by
  have hp := l.least ds.length h.pos h.per
  have e : (ds.take p).length = p := by
    rw [List.length_take]
    omega
  refine ⟨hp, e, ?_, ?_, ?_⟩
  · rw [e]
    exact l.pos
  · rw [e]
    exact l.per
  · intro i hi
    rw [e] at hi
    rw [← h.at_ i (by omega), List.getD_eq_getElem?_getD, List.getD_eq_getElem?_getD, List.getElem?_take_of_lt hi]
/-! ### what makes a day rule -/
/-- the first index at which the days fall; 0 if the end is too late or there are none -/
def asc (ds : List Int) : Nat → Prop := fun i => ¬ ds.getD i 0 < ds.getD (i - 1) 0
def faultF (ds : List Int) : Nat → Nat → Option Nat
  | 0, _ => none
  | m + 1, i => if ds.getD i 0 < ds.getD (i - 1) 0 then some i else faultF ds m (i + 1)
/-- what check_days says -/
def fault (ds : List Int) : Option Nat := match faultF ds (ds.length - 1) 1 with
  | some i => some i
  | none => if ds.length = 0 ∨ ds.getD 0 0 + ds.length < ds.getD (ds.length - 1) 0 then some 0 else none
end Dy
set_option Elab.async false
set_option linter.all false
namespace Dy
/-! ### day functions: iterates, adjoints -/
def Mon (F : Int → Int) : Prop := ∀ d, F d ≤ F (d + 1)
theorem Mon.add {F : Int → Int} (h : Mon F) (d : Int) : ∀ n : Nat, F d ≤ F (d + n)
  | 0 => by simp
  | n + 1 => by
    have h1 := h.add d n
    have h2 := h (d + n)
    rw [show d + ((n + 1 : Nat) : Int) = d + n + 1 by omega]
    omega
theorem Mon.le {F : Int → Int} (h : Mon F) {a b : Int} (c : a ≤ b) : F a ≤ F b := by
  have := h.add a (b - a).toNat
  rw [show a + ((b - a).toNat : Int) = b by omega] at this
  exact this
def it (F : Int → Int) : Nat → Int → Int
  | 0, d => d
  | n + 1, d => F (it F n d)
theorem it_add (F : Int → Int) (a b : Nat) (d : Int) : it F (a + b) d = it F b (it F a d) := by
  induction b with
  | zero => rfl
  | succ b ih => rw [← Nat.add_assoc]; show F (it F (a + b) d) = F (it F b (it F a d)); rw [ih]
theorem it_succ (F : Int → Int) (n : Nat) (d : Int) : it F (n + 1) d = it F n (F d) := by
  rw [Nat.add_comm, it_add]
  rfl
theorem it_mul (F : Int → Int) (a b : Nat) (d : Int) : it F (a * b) d = it (it F a) b d := by
  induction b with
  | zero => rfl
  | succ b ih => rw [Nat.mul_succ, it_add, ih]; rfl
theorem Mon.it {F : Int → Int} (h : Mon F) : ∀ n, Mon (it F n)
  | 0 => fun d => by show d ≤ d + 1; omega
  | n + 1 => fun d => h.le (h.it n d)
theorem Per.it {F : Int → Int} {s : Int} (h : Per F s) : ∀ n, Per (it F n) s
  | 0 => fun d => rfl
  | n + 1 => fun d => by
    show F (Dy.it F n (d + s)) = F (Dy.it F n d) + s
    rw [h.it n d, h]
theorem Mon.comp {F G : Int → Int} (f : Mon F) (g : Mon G) : Mon fun d => G (F d) := fun d => g.le (f d)
theorem Per.comp {F G : Int → Int} {s : Int} (f : Per F s) (g : Per G s) : Per (fun d => G (F d)) s := fun d => by
  show G (F (d + s)) = G (F d) + s
  rw [f, g]
theorem Mon.max {F G : Int → Int} (f : Mon F) (g : Mon G) : Mon fun d => max (F d) (G d) := fun d => by
  have := f d
  have := g d
  show Max.max _ _ ≤ Max.max _ _
  omega
theorem Mon.min {F G : Int → Int} (f : Mon F) (g : Mon G) : Mon fun d => min (F d) (G d) := fun d => by
  have := f d
  have := g d
  show Min.min _ _ ≤ Min.min _ _
  omega
theorem Per.max {F G : Int → Int} {s : Int} (f : Per F s) (g : Per G s) : Per (fun d => max (F d) (G d)) s := fun d => by
  show Max.max (F (d + s)) (G (d + s)) = Max.max _ _ + s
  rw [f, g]
  omega
theorem Per.min {F G : Int → Int} {s : Int} (f : Per F s) (g : Per G s) : Per (fun d => min (F d) (G d)) s := fun d => by
  show Min.min (F (d + s)) (G (d + s)) = Min.min _ _ + s
  rw [f, g]
  omega
theorem Per.dvd {F : Int → Int} {s n : Nat} (h : Per F (s : Int)) (d : n % s = 0) : Per F (n : Int) := fun x => by
  have e := h.mul (n / s) x
  have h2 := Nat.div_add_mod n s
  have e2 : ((n / s : Nat) : Int) * (s : Int) = n := by
    rw [← Int.natCast_mul]
    congr 1
    rw [Nat.mul_comm]
    omega
  rw [e2] at e
  exact e
/-- the values of F from 0 on make a list that is a rule -/
theorem of_congr {F G : Int → Int} {ds : List Int} (o : Of F ds) (h : ∀ d, F d = G d) : Of G ds := by
  have : F = G := funext h
  rw [← this]
  exact o
theorem of_range {F : Int → Int} {n : Nat} (hn : 0 < n) (h : Per F (n : Int)) : Of F ((List.range n).map fun (i : Nat) => F (i : Int)) := by
  have l : ((List.range n).map fun (i : Nat) => F (i : Int)).length = n := by rw [List.length_map, List.length_range]
  refine ⟨by omega, by rw [l]; exact h, fun i hi => ?_⟩
  rw [l] at hi
  rw [List.getD_eq_getElem?_getD, List.getElem?_map, List.getElem?_range hi]
  rfl
theorem Of.eq {F : Int → Int} {ds es : List Int} (a : Of F ds) (b : Of F es) (l : ds.length = es.length) : ds = es := by
  apply List.ext_getElem l
  intro i h1 h2
  have e1 := a.at_ i h1
  have e2 := b.at_ i h2
  rw [List.getD_eq_getElem?_getD, List.getElem?_eq_getElem h1] at e1
  rw [List.getD_eq_getElem?_getD, List.getElem?_eq_getElem h2] at e2
  exact e1.trans e2.symm
/-! adjoints -/
def Lat (F L : Int → Int) : Prop := ∀ d l, F d ≤ l ↔ d ≤ L l
def Soo (F S : Int → Int) : Prop := ∀ d l, l ≤ F d ↔ S l ≤ d
theorem Lat.uniq {F L M : Int → Int} (a : Lat F L) (b : Lat F M) (l : Int) : L l = M l := by
  have h1 := (b (L l) l).mp ((a (L l) l).mpr (Int.le_refl _))
  have h2 := (a (M l) l).mp ((b (M l) l).mpr (Int.le_refl _))
  omega
theorem Soo.uniq {F L M : Int → Int} (a : Soo F L) (b : Soo F M) (l : Int) : L l = M l := by
  have h1 := (b (L l) l).mp ((a (L l) l).mpr (Int.le_refl _))
  have h2 := (a (M l) l).mp ((b (M l) l).mpr (Int.le_refl _))
  omega
theorem Lat.soo {F L : Int → Int} (a : Lat F L) : Soo F fun l => L (l - 1) + 1 := fun d l => by
  have := a d (l - 1)
  show l ≤ F d ↔ L (l - 1) + 1 ≤ d
  omega
theorem Soo.lat {F S : Int → Int} (a : Soo F S) : Lat F fun l => S (l + 1) - 1 := fun d l => by
  have := a d (l + 1)
  show F d ≤ l ↔ d ≤ S (l + 1) - 1
  omega
theorem Lat.flip {F L : Int → Int} (a : Lat F L) : Soo L F := fun d l => (a l d).symm
theorem Soo.flip {F S : Int → Int} (a : Soo F S) : Lat S F := fun d l => (a l d).symm
theorem Lat.mon {F L : Int → Int} (a : Lat F L) : Mon L := fun l => (a _ _).mp (by
  have := (a (L l) l).mpr (Int.le_refl _)
  omega)
theorem Soo.mon {F L : Int → Int} (a : Soo F L) : Mon L := fun l => (a _ _).mp (by
  have := (a (L (l + 1)) (l + 1)).mpr (Int.le_refl _)
  omega)
theorem Lat.per {F L : Int → Int} {s : Int} (a : Lat F L) (h : Per F s) : Per L s := fun l => by
  have h1 : L l + s ≤ L (l + s) := (a _ _).mp (by
    rw [h]
    have := (a (L l) l).mpr (Int.le_refl _)
    omega)
  have h2 : L (l + s) - s ≤ L l := (a _ _).mp (by
    have := (a (L (l + s)) (l + s)).mpr (Int.le_refl _)
    have e := h (L (l + s) - s)
    rw [show L (l + s) - s + s = L (l + s) by omega] at e
    omega)
  omega
theorem Soo.per {F L : Int → Int} {s : Int} (a : Soo F L) (h : Per F s) : Per L s := fun l => by
  have := a.lat.per h (l - 1)
  have this : L (l - 1 + s + 1) - 1 = L (l - 1 + 1) - 1 + s := this
  rw [show l - 1 + s + 1 = l + s by omega, show l - 1 + 1 = l by omega] at this
  omega
theorem Lat.comp {F G L M : Int → Int} (a : Lat F L) (b : Lat G M) : Lat (fun d => G (F d)) fun l => L (M l) := fun d l => (b _ _).trans (a _ _)
theorem Soo.comp {F G L M : Int → Int} (a : Soo F L) (b : Soo G M) : Soo (fun d => G (F d)) fun l => L (M l) := fun d l => (b _ _).trans (a _ _)
theorem Lat.it {F L : Int → Int} (a : Lat F L) : ∀ n, Lat (it F n) (it L n)
  | 0 => fun _ _ => Iff.rfl
  | n + 1 => fun d l => by
    rw [it_succ L]
    exact (a _ _).trans (a.it n _ _)
theorem Soo.it {F L : Int → Int} (a : Soo F L) : ∀ n, Soo (it F n) (it L n)
  | 0 => fun _ _ => Iff.rfl
  | n + 1 => fun d l => by
    rw [it_succ L]
    exact (a _ _).trans (a.it n _ _)
theorem lat_max {F G L M : Int → Int} (a : Lat F L) (b : Lat G M) : Lat (fun d => max (F d) (G d)) fun l => min (L l) (M l) := fun d l => by
  have := a d l
  have := b d l
  show Max.max (F d) (G d) ≤ l ↔ d ≤ Min.min (L l) (M l)
  omega
theorem lat_min {F G L M : Int → Int} (a : Lat F L) (b : Lat G M) : Lat (fun d => min (F d) (G d)) fun l => max (L l) (M l) := fun d l => by
  have := a d l
  have := b d l
  show Min.min (F d) (G d) ≤ l ↔ d ≤ Max.max (L l) (M l)
  omega
theorem soo_max {F G L M : Int → Int} (a : Soo F L) (b : Soo G M) : Soo (fun d => max (F d) (G d)) fun l => min (L l) (M l) := fun d l => by
  have := a d l
  have := b d l
  show l ≤ Max.max (F d) (G d) ↔ Min.min (L l) (M l) ≤ d
  omega
theorem soo_min {F G L M : Int → Int} (a : Soo F L) (b : Soo G M) : Soo (fun d => min (F d) (G d)) fun l => max (L l) (M l) := fun d l => by
  have := a d l
  have := b d l
  show l ≤ Min.min (F d) (G d) ↔ Max.max (L l) (M l) ≤ d
  omega
/-! rings -/
/-- two of n + 1 numbers below n are alike -/
theorem pigeon : ∀ (n : Nat) (f : Nat → Nat), (∀ i, i ≤ n → f i < n) → ∃ i j, i < j ∧ j ≤ n ∧ f i = f j
  | 0, f, h => absurd (h 0 (Nat.le_refl _)) (Nat.not_lt_zero _)
  | n + 1, f, h => by
    by_cases c : ∃ i, i ≤ n ∧ f i = f (n + 1)
    · obtain ⟨i, h1, h2⟩ := c
      exact ⟨i, n + 1, by omega, Nat.le_refl _, h2⟩
    · -- f (n + 1) changed with n
      have g1 : ∀ i, i ≤ n → (if f i = n then f (n + 1) else f i) < n := fun i hi => by
        have h1 := h i (by omega)
        have h2 := h (n + 1) (Nat.le_refl _)
        have h3 : f i ≠ f (n + 1) := fun z => c ⟨i, hi, z⟩
        split <;> omega
      obtain ⟨i, j, a, b, e⟩ := pigeon n (fun i => if f i = n then f (n + 1) else f i) g1
      refine ⟨i, j, a, by omega, ?_⟩
      have h3 : f i ≠ f (n + 1) := fun z => c ⟨i, by omega, z⟩
      have h4 : f j ≠ f (n + 1) := fun z => c ⟨j, by omega, z⟩
      split at e <;> split at e <;> omega
/-- day d comes back after u uses, g later -/
def Rg (F : Int → Int) (n : Nat) (d : Int) (u : Nat) (g : Int) : Prop := it F u d = d + g ∧ g % (n : Int) = 0
theorem ring_ex {F : Int → Int} {n : Nat} (hn : 0 < n) (h : Per F (n : Int)) : ∃ (d u : Nat), d < n ∧ 0 < u ∧ u ≤ n ∧ (it F u d - d) % (n : Int) = 0 := by
  have hn2 : (0 : Int) < n := by omega
  have nn : ∀ x : Int, 0 ≤ x % (n : Int) := fun x => Int.emod_nonneg x (by omega)
  have lt : ∀ x : Int, x % (n : Int) < n := fun x => Int.emod_lt_of_pos x hn2
  obtain ⟨i, j, a, b, e⟩ := pigeon n (fun i => (it F i 0 % (n : Int)).toNat) (fun i _ => by
    have := nn (it F i 0)
    have := lt (it F i 0)
    show (it F i 0 % (n : Int)).toNat < n
    omega)
  have e : it F i 0 % (n : Int) = it F j 0 % (n : Int) := by
    have h1 := nn (it F i 0)
    have h2 := nn (it F j 0)
    have e : (it F i 0 % (n : Int)).toNat = (it F j 0 % (n : Int)).toNat := e
    omega
  refine ⟨(it F i 0 % (n : Int)).toNat, j - i, ?_, by omega, by omega, ?_⟩
  · have := nn (it F i 0)
    have := lt (it F i 0)
    omega
  · rw [Int.toNat_of_nonneg (nn _)]
    have hq := Int.emod_add_mul_ediv (it F i 0) (n : Int)
    have hx := (h.it (j - i)).imul (it F i 0 / (n : Int)) (it F i 0 % (n : Int))
    rw [show it F i 0 % (n : Int) + it F i 0 / (n : Int) * (n : Int) = it F i 0 by rw [Int.mul_comm (it F i 0 / _)]; exact hq, ← it_add, show i + (j - i) = j by omega] at hx
    have h3 : it F (j - i) (it F i 0 % (n : Int)) - it F i 0 % (n : Int) = it F j 0 - it F i 0 := by
      rw [Int.mul_comm] at hx
      omega
    rw [h3, Int.sub_emod, e, Int.sub_self]
    rfl
/-- all gains lie within n - 1 -/
theorem gains {G : Int → Int} {n : Nat} (hn : 0 < n) (m : Mon G) (h : Per G (n : Int)) (d e : Int) : (G d - d) - (G e - e) < n := by
  have hn2 : (0 : Int) < n := by omega
  -- e moved to [d, d + n)
  have key : ∀ c : Int, d ≤ c → c < d + n → (G d - d) - (G c - c) < n := fun c h1 h2 => by
    have := m.le h1
    omega
  have h1 := Int.emod_nonneg (e - d) (show (n : Int) ≠ 0 by omega)
  have h2 := Int.emod_lt_of_pos (e - d) hn2
  have h3 := Int.emod_add_mul_ediv (e - d) (n : Int)
  have h4 := h.imul ((e - d) / (n : Int)) (d + (e - d) % (n : Int))
  have h5 := key (d + (e - d) % (n : Int)) (by omega) (by omega)
  rw [Int.mul_comm ((e - d) / _), show d + (e - d) % (n : Int) + (n : Int) * ((e - d) / (n : Int)) = e by omega] at h4
  omega
theorem gains_sum {G : Int → Int} {n : Nat} (hn : 0 < n) (m : Mon G) (h : Per G (n : Int)) (d e : Int) : ∀ k : Nat, k * (G d - d) - (it G k e - e) ≤ k * ((n : Int) - 1) ∧ -(k * ((n : Int) - 1)) ≤ k * (G d - d) - (it G k e - e)
  | 0 => by
    show ((0 : Nat) : Int) * _ - (e - e) ≤ ((0 : Nat) : Int) * _ ∧ _ ≤ ((0 : Nat) : Int) * _ - (e - e)
    simp
  | k + 1 => by
    have h1 := gains_sum hn m h d e k
    have h2 := gains hn m h d (it G k e)
    have h3 := gains hn m h (it G k e) d
    have e1 : ((k + 1 : Nat) : Int) * (G d - d) = k * (G d - d) + (G d - d) := by
      rw [Int.natCast_add, Int.add_mul]
      simp
    have e2 : ((k + 1 : Nat) : Int) * ((n : Int) - 1) = k * ((n : Int) - 1) + ((n : Int) - 1) := by
      rw [Int.natCast_add, Int.add_mul]
      simp
    rw [e1, e2]
    show k * (G d - d) + (G d - d) - (G (it G k e) - e) ≤ _ ∧ _ ≤ k * (G d - d) + (G d - d) - (G (it G k e) - e)
    generalize (k : Int) * ((n : Int) - 1) = y at *
    generalize (k : Int) * (G d - d) = x at *
    omega
theorem Rg.many {F : Int → Int} {n u : Nat} {d g : Int} (h : Per F (n : Int)) (r : Rg F n d u g) : ∀ k : Nat, it F (k * u) d = d + k * g
  | 0 => by
    rw [Nat.zero_mul]
    show d = _
    simp
  | k + 1 => by
    have hg : g = g / (n : Int) * (n : Int) := by
      have := Int.emod_add_mul_ediv g (n : Int)
      rw [r.2, Int.mul_comm] at this
      omega
    have e1 : ((k + 1 : Nat) : Int) * g = g + k * g := by
      rw [Int.natCast_add, Int.add_mul]
      simp [Int.add_comm]
    rw [Nat.add_mul, Nat.one_mul, Nat.add_comm, it_add, r.1]
    have h2 := (h.it (k * u)).imul (g / (n : Int)) d
    rw [← hg] at h2
    rw [h2, r.many h k, e1]
    omega
/-- how far uses and gain may be from the ring's pace -/
theorem pace {F : Int → Int} {n u m : Nat} {d g x : Int} (hn : 0 < n) (mo : Mon F) (h : Per F (n : Int)) (hu : 0 < u) (r : Rg F n d u g) : -((u : Int) * n) < u * (it F m x - x) - m * g ∧ u * (it F m x - x) - m * g < (u : Int) * n := by
  have h1 := gains_sum hn (mo.it m) (h.it m) x d u
  rw [← it_mul, r.many h m] at h1
  have e : (u : Int) * ((n : Int) - 1) = u * n - u := by
    rw [Int.mul_sub]
    simp
  rw [e] at h1
  generalize (u : Int) * (it F m x - x) = a at *
  generalize (u : Int) * (n : Int) = b at *
  generalize (m : Int) * g = c at *
  omega
/-- small multiples all along: none -/
theorem bound_zero {a c : Int} (h : ∀ k : Nat, (k : Int) * a < c) : a ≤ 0 := by
  apply Decidable.byContradiction
  intro z
  have h1 := h (c.toNat + 1)
  have h2 : ((c.toNat + 1 : Nat) : Int) * 1 ≤ ((c.toNat + 1 : Nat) : Int) * a := Int.mul_le_mul_of_nonneg_left (by omega) (by omega)
  omega
/-- one pace alone -/
theorem pace_one {F : Int → Int} {n u v : Nat} {d e g k : Int} (hn : 0 < n) (mo : Mon F) (h : Per F (n : Int)) (hu : 0 < u) (r : Rg F n d u g) (s : Rg F n e v k) : (u : Int) * k = v * g := by
  have key : ∀ j : Nat, -((u : Int) * n) < (j : Int) * (u * k - v * g) ∧ (j : Int) * (u * k - v * g) < (u : Int) * n := fun j => by
    have h1 := pace (m := j * v) (x := e) hn mo h hu r
    rw [s.many h j, show e + j * k - e = j * k by omega] at h1
    have e1 : (j : Int) * (u * k - v * g) = u * (j * k) - ((j * v : Nat) : Int) * g := by
      rw [Int.mul_sub, Int.natCast_mul, Int.mul_left_comm, Int.mul_assoc]
    rw [e1]
    exact h1
  have a1 := bound_zero (fun j => (key j).2)
  have a2 := bound_zero (a := -(u * k - v * g)) (c := u * n) (fun j => by
    have := (key j).1
    rw [Int.mul_neg]
    omega)
  omega
/-- the adjoint's pace -/
theorem pace_lat {F L : Int → Int} {n u v : Nat} {d e g k : Int} (hn : 0 < n) (mo : Mon F) (h : Per F (n : Int)) (a : Lat F L) (hu : 0 < u) (hv : 0 < v) (r : Rg F n d u g) (s : Rg L n e v k) : (u : Int) * k = -(v * g) := by
  have hL := a.per h
  have mL := a.mon
  -- both after j * u * v uses
  have key : ∀ j : Nat, (j : Int) * (-(u * k + v * g)) < (v : Int) * n + (v + 1) ∧ (j : Int) * (u * k + v * g) < (v : Int) * n + (v + 1) := fun j => by
    have h1 : it F (j * (u * v)) d = d + j * (v * g) := by
      have := r.many h (j * v)
      rw [Int.natCast_mul, Int.mul_assoc, show j * v * u = j * (u * v) by rw [Nat.mul_assoc, Nat.mul_comm v u]] at this
      exact this
    have h3 := ((a.it (j * (u * v))) d (d + j * (v * g))).mp (by rw [h1]; exact Int.le_refl _)
    have h4 : ¬ d ≤ it L (j * (u * v)) (d + j * (v * g) - 1) := fun z => by
      have := ((a.it (j * (u * v))) d (d + j * (v * g) - 1)).mpr z
      rw [h1] at this
      omega
    have p1 := pace (m := j * (u * v)) (x := d + j * (v * g)) hn mL hL hv s
    have p2 := pace (m := j * (u * v)) (x := d + j * (v * g) - 1) hn mL hL hv s
    have e1 : ((j * (u * v) : Nat) : Int) * k = v * (j * (u * k)) := by
      rw [Int.natCast_mul, Int.natCast_mul]
      rw [Int.mul_assoc, Int.mul_comm (u : Int) (v : Int), Int.mul_assoc, Int.mul_left_comm]
    rw [e1, ← Int.mul_sub] at p1 p2
    have e2 : (v : Int) * n + (v + 1) = v * (n + 1) + 1 := by rw [Int.mul_add]; omega
    have hv2 : (0 : Int) < v := by omega
    have q1 : it L (j * (u * v)) (d + j * (v * g)) - (d + j * (v * g)) - j * (u * k) < n := Int.lt_of_mul_lt_mul_left p1.2 (by omega)
    have q2 : -(n : Int) < it L (j * (u * v)) (d + j * (v * g) - 1) - (d + j * (v * g) - 1) - j * (u * k) := Int.lt_of_mul_lt_mul_left (a := (v : Int)) (by rw [Int.mul_neg]; exact p2.1) (by omega)
    have e3 : (j : Int) * (u * k + v * g) = j * (u * k) + j * (v * g) := Int.mul_add ..
    have e4 : (j : Int) * (-(u * k + v * g)) = -(j * (u * k) + j * (v * g)) := by rw [Int.mul_neg, e3]
    have e5 : (n : Int) ≤ v * n := by
      have := Int.mul_le_mul_of_nonneg_right (show (1 : Int) ≤ v by omega) (show (0 : Int) ≤ n by omega)
      omega
    rw [e3, e4]
    omega
  have a1 := bound_zero (fun j => (key j).1)
  have a2 := bound_zero (fun j => (key j).2)
  omega
end Dy
set_option Elab.async false
set_option linter.all false
set_option maxRecDepth 100000
set_option maxHeartbeats 4000000
namespace Z
open PySem PySem.Spec PyProof.Rows L2
/-! ### comprehensions that give ints, over a list of ints and over a range -/
theorem lc_ofs {K : PySem.W.Frag} {J : It} {D : Addr} {n : Nat} {H0 : Hp} {i : Nat} {te : TE} {vs : List Nat} {σ : L2.St} {Qd : Hp → Prop} (g : Nat → Int) (xv : Nat → V) (hn : n ≤ 1000000) (nD : H0 D = none)
    (hgo : ∀ k H1, k < n → Same H0 H1 → J.go k H1) (hst : ∀ H1, Same H0 H1 → J.stop n H1) (hy : ∀ k H1 x H2, k < n → Same H0 H1 → J.yld k H1 x H2 → H2 = H1 ∧ x = xv k)
    (hw : ∀ k, wipe ((wipe σ vs).set i (some (xv k))) vs = wipe σ vs)
    (ht : ∀ k H1 (Q : VK), k < n → Same H0 H1 → (∀ H2, Same H1 H2 → Q (.int (g k)) H2) → te ((wipe σ vs).set i (some (xv k))) H1 Q)
    (hd : ∀ H1, Same H0 H1 → H1 D = some (.lst (((List.range n).map g).map V.int)) → Qd H1) : lcW J (gName i) tYes te vs σ D Qd H0 := by
  refine lc_gen (n := n) (fun k H1 => Same H0 H1 ∧ H1 D = some (.lst (((List.range k).map g).map V.int))) ⟨same_new nD, upd_same⟩ (fun k H1 hk p => hgo k H1 hk p.1) (fun H1 p => hst H1 p.1) ?_ (fun H1 p => hd H1 p.1 p.2)
  rintro k H1 x H2 hk ⟨s, e⟩ y
  obtain ⟨rfl, rfl⟩ := hy k H1 x H2 hk s y
  refine ⟨hw k, ?_⟩
  refine ht k _ _ hk s (fun H3 s3 => ⟨_, s3 _ _ e, ?_, Z.Same.mut (s.trans s3) nD, ?_⟩)
  · rw [List.length_map, List.length_map, List.length_range]
    exact Nat.lt_of_lt_of_le hk (Nat.le_trans hn (by decide))
  · rw [upd_same, List.range_succ, List.map_append, List.map_append]
    rfl
theorem lc_rng {K : PySem.W.Frag} {lo : Int} {D : Addr} {n : Nat} {H0 : Hp} {i : Nat} {te : TE} {vs : List Nat} {σ : L2.St} {Qd : Hp → Prop} (g : Nat → Int) (hn : n ≤ 1000000) (nD : H0 D = none) (hw : ∀ k : Nat, wipe ((wipe σ vs).set i (some (.int (lo + k)))) vs = wipe σ vs)
    (ht : ∀ (k : Nat) H1 (Q : VK), k < n → Same H0 H1 → (∀ H2, Same H1 H2 → Q (.int (g k)) H2) → te ((wipe σ vs).set i (some (.int (lo + k)))) H1 Q)
    (hd : ∀ H1, Same H0 H1 → H1 D = some (.lst (((List.range n).map g).map V.int)) → Qd H1) : lcW (Itr lo n) (gName i) tYes te vs σ D Qd H0 :=
  lc_ofs (K := K) g (fun k => .int (lo + k)) hn nD (fun k H1 hk _ => hk) (fun H1 _ => Nat.le_refl _) (fun k H1 x H2 _ _ y => y) hw ht hd
theorem lc_lst {K : PySem.W.Frag} {a D : Addr} {xs : List Int} {H0 : Hp} {i : Nat} {te : TE} {vs : List Nat} {σ : L2.St} {Qd : Hp → Prop} (hS : SqL K H0 a (xs.map V.int)) (g : Int → Int) (hn : xs.length ≤ 1000000) (nD : H0 D = none) (hw : ∀ x : Int, wipe ((wipe σ vs).set i (some (.int x))) vs = wipe σ vs)
    (ht : ∀ x H1 (Q : VK), x ∈ xs → Same H0 H1 → (∀ H2, Same H1 H2 → Q (.int (g x)) H2) → te ((wipe σ vs).set i (some (.int x))) H1 Q)
    (hd : ∀ H1, Same H0 H1 → H1 D = some (.lst ((xs.map g).map V.int)) → Qd H1) : lcW (Itl K a) (gName i) tYes te vs σ D Qd H0 := by
  have ex : ∀ k, k < xs.length → (xs.map V.int)[k]? = some (.int (xs.getD k 0)) := fun k hk => by
    rw [List.getElem?_map, List.getD_eq_getElem?_getD, List.getElem?_eq_getElem hk]
    rfl
  refine lc_ofs (K := K) (n := xs.length) (fun k => g (xs.getD k 0)) (fun k => .int (xs.getD k 0)) hn nD (fun k H1 hk s => ⟨_, _, s.seq hS, ex k hk⟩) (fun H1 s => ⟨_, s.seq hS, by rw [List.length_map]; exact Nat.le_refl _⟩) (fun k H1 x H2 hk s y => ⟨y.1, Option.some.inj ((y.2 _ (s.seq hS)).symm.trans (ex k hk))⟩) (fun k => hw _) (fun k H1 Q hk s q => ht _ H1 Q ?_ s q) (fun H1 s e => hd H1 s ?_)
  · rw [List.getD_eq_getElem?_getD, List.getElem?_eq_getElem hk]
    exact List.getElem_mem hk
  · rw [e]
    congr 2
    congr 1
    apply List.ext_getElem
    · rw [List.length_map, List.length_map, List.length_range]
    · intro k h1 h2
      rw [List.length_map] at h2
      rw [List.getElem_map, List.getElem_map, List.getElem_range, List.getD_eq_getElem?_getD, List.getElem?_eq_getElem h2]
      rfl
/-- for x in xs, ints -/
theorem for_lst {K : PySem.W.Frag} {a : Addr} {xs : List Int} {H0 H : Hp} {i : Nat} {tb : TS} {D : Ends} {σ : L2.St} (hS : SqL K H0 a (xs.map V.int)) (Pv : Nat → L2.St → Hp → Prop) (h0 : Pv 0 σ H) (hq : ∀ k σ H1, Pv k σ H1 → Same H0 H1)
    (hs : ∀ (k : Nat) (x : Int) (σ : L2.St) (H1 : Hp), xs[k]? = some x → Pv k σ H1 → tb { D with nx := Pv (k + 1), ct := Pv (k + 1), bk := D.nx } (σ.set i (some (.int x))) H1)
    (hd : ∀ σ H1, Pv xs.length σ H1 → D.nx σ H1) : forW (Itl K a) (gName i) tb D σ H := by
  have ex : ∀ k, k < xs.length → (xs.map V.int)[k]? = some (.int (xs.getD k 0)) := fun k hk => by
    rw [List.getElem?_map, List.getD_eq_getElem?_getD, List.getElem?_eq_getElem hk]
    rfl
  refine for_gen (n := xs.length) Pv h0 (fun k σ H1 hk p => ⟨_, _, (hq k σ H1 p).seq hS, ex k hk⟩) (fun σ H1 p => ⟨_, (hq _ σ H1 p).seq hS, by rw [List.length_map]; exact Nat.le_refl _⟩) ?_ hd
  intro k σ H1 x H2 hk p y
  obtain ⟨rfl, e⟩ := y
  have e2 := Option.some.inj ((e _ ((hq k σ _ p).seq hS)).symm.trans (ex k hk))
  subst e2
  refine hs k _ σ _ ?_ p
  rw [List.getD_eq_getElem?_getD, List.getElem?_eq_getElem hk]
  rfl
/-! ### reads -/
theorem at_nat {xs : List Int} {i : Int} (h0 : 0 ≤ i) (h1 : i < xs.length) : atI (xs.map V.int) i = some (.int (xs.getD i.toNat 0)) := by
  have hk : i.toNat < xs.length := by omega
  rw [show i = ((i.toNat : Nat) : Int) by omega, List.getD_eq_getElem?_getD, Int.toNat_natCast, List.getElem?_eq_getElem hk]
  exact at_map (List.getElem?_eq_getElem hk)
theorem rd_at {K : PySem.W.Frag} {H : Hp} {a : Addr} {xs : List Int} {i : Int} {R : V → Prop} (h : SqL K H a (xs.map V.int)) (h0 : 0 ≤ i) (h1 : i < xs.length) (q : R (.int (xs.getD i.toNat 0))) : ∃ a' ys j v, V.ref a = .ref a' ∧ V.int i = .int j ∧ SqL K H a' ys ∧ atI ys j = some v ∧ R v := ⟨a, _, i, _, rfl, rfl, h, at_nat h0 h1, q⟩
theorem rd_atT {K : PySem.W.Frag} {H : Hp} {a : Addr} {xs : List Int} {i : Int} {R : V → Prop} (h : SqT K H a (xs.map V.int)) (h0 : 0 ≤ i) (h1 : i < xs.length) (q : R (.int (xs.getD i.toNat 0))) : ∃ a' ys j v, V.ref a = .ref a' ∧ V.int i = .int j ∧ SqT K H a' ys ∧ atI ys j = some v ∧ R v := ⟨a, _, i, _, rfl, rfl, h, at_nat h0 h1, q⟩
end Z
set_option pp.maxSteps 700
set_option Elab.async false
set_option linter.all false
set_option maxRecDepth 100000
set_option maxHeartbeats 4000000
namespace Z
open Dy
open PySem PySem.Spec PyProof.Rows L2
open C8 (pss_cut tCut)
local macro_rules | `(tactic| walk_at "num") => `(tactic| first | rfl | omega | decide | exact Nat.le_of_lt (small1000 (by simp)) | exact ⟨by omega, by omega⟩ | exact ⟨by omega, by omega, by omega⟩ | exact ⟨by decide, by decide, by decide⟩ | exact Or.inl ⟨by omega, by omega⟩ | exact Or.inr ⟨by omega, by omega⟩)
local macro_rules | `(tactic| walk_at "go") => `(tactic| repeat (first | refine ⟨_, rfl, ?_⟩ | refine ⟨_, _, rfl, rfl, ?_⟩ | refine ⟨_, _, rfl, ?_⟩ | refine ⟨_, _, rfl, rfl, (by walk_at "num"), ?_⟩ | refine Or.inl ⟨_, rfl, ?_⟩ | refine ⟨_, _, _, _, rfl, rfl, (by assumption), (by rfl), ?_⟩ | refine ⟨_, _, _, _, _, rfl, (by assumption), (by assumption), (by assumption), (by rfl), ?_⟩ | refine ⟨rfl, ?_⟩ | refine And.intro (by walk_at "num") ?_))
abbrev s_check_days : Stmt := topS 8
abbrev N_check_days : List Str := ["days", "at"]
abbrev P_check_days : List Str := ["days"]
theorem sc_check_days : FnScope N_check_days P_check_days (defScope s_check_days) := ⟨rfl, rfl, rfl, by decide +kernel, rfl, by decide +kernel, by decide +kernel⟩
abbrev s_least_period : Stmt := topS 9
abbrev N_least_period : List Str := ["days", "many", "size", "at"]
abbrev P_least_period : List Str := ["days"]
theorem sc_least_period : FnScope N_least_period P_least_period (defScope s_least_period) := ⟨rfl, rfl, rfl, by decide +kernel, rfl, by decide +kernel, by decide +kernel⟩
abbrev s_day_at : Stmt := topS 10
abbrev N_day_at : List Str := ["days", "day", "begin"]
abbrev P_day_at : List Str := ["days", "day"]
theorem sc_day_at : FnScope N_day_at P_day_at (defScope s_day_at) := ⟨rfl, rfl, rfl, by decide +kernel, rfl, by decide +kernel, by decide +kernel⟩
abbrev s_DayRule___init__ : Stmt := inClass (topS 13) 0
abbrev N_DayRule___init__ : List Str := ["self", "days"]
abbrev P_DayRule___init__ : List Str := ["self", "days"]
theorem sc_DayRule___init__ : FnScope N_DayRule___init__ P_DayRule___init__ (defScope s_DayRule___init__) := ⟨rfl, rfl, rfl, by decide +kernel, rfl, by decide +kernel, by decide +kernel⟩
abbrev s_DayRule_period : Stmt := inClass (topS 13) 1
abbrev N_DayRule_period : List Str := ["self"]
abbrev P_DayRule_period : List Str := ["self"]
theorem sc_DayRule_period : FnScope N_DayRule_period P_DayRule_period (defScope s_DayRule_period) := ⟨rfl, rfl, rfl, by decide +kernel, rfl, by decide +kernel, by decide +kernel⟩
abbrev s_DayRule___call__ : Stmt := inClass (topS 13) 2
abbrev N_DayRule___call__ : List Str := ["self", "day"]
abbrev P_DayRule___call__ : List Str := ["self", "day"]
theorem sc_DayRule___call__ : FnScope N_DayRule___call__ P_DayRule___call__ (defScope s_DayRule___call__) := ⟨rfl, rfl, rfl, by decide +kernel, rfl, by decide +kernel, by decide +kernel⟩
abbrev s_DayRule___eq__ : Stmt := inClass (topS 13) 3
abbrev N_DayRule___eq__ : List Str := ["self", "other"]
abbrev P_DayRule___eq__ : List Str := ["self", "other"]
theorem sc_DayRule___eq__ : FnScope N_DayRule___eq__ P_DayRule___eq__ (defScope s_DayRule___eq__) := ⟨rfl, rfl, rfl, by decide +kernel, rfl, by decide +kernel, by decide +kernel⟩
abbrev FnM (K : PySem.W.Frag) (x q : Str) (st : Stmt) (f : Addr) (fd : FuncData) : Prop := FunD K x q (defArgs st) (defBody st) (defScope st) [] [] f fd
theorem relv_ref {a : Addr} : L2.RelV (.ref a) (.ref a) := rfl
theorem SqK.or {b : Bool} {K : PySem.W.Frag} {H : Hp} {a : Addr} {xs : List V} (h : SqK b K H a xs) : SqL K H a xs ∨ SqT K H a xs := by
  cases b
  · exact .inr h
  · exact .inl h
/-- an if that only guards, and what it tells -/
theorem cut_fact {p : Prop} {t u : TS} {D : Ends} {σ : L2.St} {H : Hp} (h : t { D with nx := fun σ' H' => σ' = σ ∧ H' = H ∧ p } σ H) (h2 : p → u D σ H) : C8.tCut t u D σ H := ⟨_, h, fun σ' H' z => by
  obtain ⟨rfl, rfl, hp⟩ := z
  exact h2 hp⟩
/-- days[i], a list or a tuple of ints -/
theorem ixd {b : Bool} {K : PySem.W.Frag} {H : Hp} {a : Addr} {ds : List Int} {i : Int} {j : Nat} {Q : VK} (h : SqK b K H a (ds.map V.int)) (hj : j < ds.length) (hi : i = (j : Int)) (q : Q (.int (ds.getD j 0)) H) : rIx K (.ref a) (.int i) H Q := by
  have e : atI (ds.map V.int) i = some (.int (ds.getD j 0)) := by
    rw [hi, List.getD_eq_getElem?_getD, List.getElem?_eq_getElem hj]
    exact at_map (List.getElem?_eq_getElem hj)
  cases b
  · exact .inr (.inl ⟨a, _, _, _, rfl, rfl, h, e, q⟩)
  · exact .inl ⟨a, _, _, _, rfl, rfl, h, e, q⟩
theorem ixl {b : Bool} {K : PySem.W.Frag} {H : Hp} {a : Addr} {ds : List Int} {Q : VK} (h : SqK b K H a (ds.map V.int)) (hj : 0 < ds.length) (q : Q (.int (ds.getD (ds.length - 1) 0)) H) : rIx K (.ref a) (.int (-1)) H Q := by
  have e : atI (ds.map V.int) (-1) = some (.int (ds.getD (ds.length - 1) 0)) := by
    rcases List.eq_nil_or_concat ds with rfl | ⟨r, x, e⟩
    · cases hj
    · have e : ds = r ++ [x] := by rw [e]; simp
      subst e
      rw [List.map_append]
      rw [show ((r ++ [x]).getD ((r ++ [x]).length - 1) 0) = x by simp [List.getD_eq_getElem?_getD]]
      exact atI_last _ _
  cases b
  · exact .inr (.inl ⟨a, _, _, _, rfl, rfl, h, e, q⟩)
  · exact .inl ⟨a, _, _, _, rfl, rfl, h, e, q⟩
section
variable {P : Program} {w : World} {K : PySem.W.Frag} {mg : Str → Option Value} {base : Heap} {f C CD : Addr} {fd : FuncData}
/-! ### check_days -/
def spCheck (CD : Addr) (K : PySem.W.Frag) : Sp := fun vs H Q E => ∃ (b : Bool) (a : Addr) (ds : List Int), vs = [.ref a] ∧ SqK b K H a (ds.map V.int) ∧ ds.length ≤ 100000 ∧ (fault ds = none → Q .non H) ∧ ∀ i, fault ds = some i → ∀ d, H d = none → E (.ref CD) (some d) (upd H d (.xd [("at", .int (i : Int))]))
theorem ok_check_days (F : FnP K "check_days" s_check_days f fd) (m_len : mg "len" = none) (m_range : mg "range" = none) (x_BadDays : Exn P w K mg base "BadDays" CD "at") : FnOk P w K mg base (L2.CX P w) 3 f fd P_check_days (spCheck CD K) := by
  refine F.ok sc_check_days (fun vs H Q E h => ?_) (fun cdv A outer s H vs Q E hr h => ?_)
  · obtain ⟨b, a, ds, rfl, _⟩ := h
    rfl
  · obtain ⟨b, a, ds, rfl, hS, hl, q, qe⟩ := h
    have tk := takes_fn (P := P) (w := w) (K := K) (mg := mg) (base := base) (N := N_check_days) (qual := "check_days") (scope := defScope s_check_days) (f := f) (cd := cdv) (A := A) (outer := outer) (s := s) (H := H) (E := E)
    refine ⟨_, (pss_cut (ps_for (passes_of rfl) rfl (pi_range2 (by rfl) m_range (pa_cons pe_int (pa_cons (pe_callB call_len_seq (by rfl) m_len PySem.boot_len (pa_cons (pv 0) pa_nil)) pa_nil))) (pg_name (i := 1) sc_check_days.nd rfl (by first | exact .inl rfl | exact .inr rfl))
        (pss_one (ps_if (pt_cmpR op_lt (pe_ix ix_seq (pv 0) (pv 1) (fun _ _ => rfl)) (pe_ix ix_seq (pv 0) (pe_op op_sub (pv 1) pe_int) (fun _ _ => rfl)) (nomark _)) (pss_one (ps_exn rfl tk x_BadDays hr (by decide) (by rfl) (pa_cons (pv 1) pa_nil))) pss_nil)))
      (pss_one (ps_if (PW.pt (pw_or (pt_cmpR op_eq (pe_callB call_len_seq (by rfl) m_len PySem.boot_len (pa_cons (pv 0) pa_nil)) pe_int (nomark _)) (pw_or1 (pt_cmpR op_gt (pe_ix ix_seq (pv 0) (pe_un un_neg pe_int) (fun _ _ => rfl)) (pe_op op_add (pe_ix ix_seq (pv 0) pe_int (fun _ _ => rfl)) (pe_callB call_len_seq (by rfl) m_len PySem.boot_len (pa_cons (pv 0) pa_nil))) (nomark _))))) (pss_one (ps_exn rfl tk x_BadDays hr (by decide) (by rfl) (pa_cons pe_int pa_nil))) pss_nil))), ?_⟩
    refine ⟨fun σ' H' => H' = H ∧ faultF ds (ds.length - 1) 1 = none ∧ ∃ v1 : Option V, σ' = [some (.ref a), v1], ?_, ?_⟩
    · walk_at "go"
      refine ⟨a, _, rfl, hS.or, ?_⟩
      rw [List.length_map]
      walk_at "go"
      refine for_gen (n := ds.length - 1) (fun i σ H1 => H1 = H ∧ faultF ds (ds.length - 1) 1 = faultF ds (ds.length - 1 - i) (1 + i) ∧ ∃ v1 : Option V, σ = [some (.ref a), v1]) ⟨rfl, rfl, none, rfl⟩ ?_ ?_ ?_ ?_
      · intro i σ H1 hi _
        show i < ((ds.length : Int) - 1).toNat
        omega
      · intro σ H1 _
        show ((ds.length : Int) - 1).toNat ≤ ds.length - 1
        omega
      · rintro i σ H1 x H' hi ⟨rfl, e, v1, rfl⟩ ⟨rfl, rfl⟩
        walk_at "go"
        refine ixd hS (j := 1 + i) (by omega) (by omega) ?_
        walk_at "go"
        refine ixd hS (j := i) (by omega) (by omega) ?_
        rw [show ds.length - 1 - i = (ds.length - 1 - (i + 1)) + 1 by omega] at e
        have e : faultF ds (ds.length - 1) 1 = if ds.getD (1 + i) 0 < ds.getD (1 + i - 1) 0 then some (1 + i) else faultF ds (ds.length - 1 - (i + 1)) (1 + i + 1) := e
        rw [show 1 + i - 1 = i by omega] at e
        walk_at "go"
        refine ite2 (fun c => ?_) (fun c => ?_)
        · have c := of_decide_eq_true c
          rw [if_pos c] at e
          walk_at "go"
          have hf : fault ds = some (1 + i) := by
            unfold fault
            rw [e]
          have z := qe _ hf
          rw [show ((1 + i : Nat) : Int) = 1 + (i : Int) by omega] at z
          exact mkx_of z
        · have c : ¬ ds.getD (1 + i) 0 < ds.getD i 0 := fun z => c (decide_eq_true z)
          rw [if_neg c] at e
          exact ⟨rfl, e, _, rfl⟩
      · rintro σ H1 ⟨rfl, e, v1, rfl⟩
        rw [Nat.sub_self] at e
        exact ⟨rfl, e, _, rfl⟩
    rintro σ' H1 ⟨e1, ef, v1, rfl⟩
    rw [e1]
    clear e1 H1
    have hf : fault ds = if ds.length = 0 ∨ ds.getD 0 0 + ds.length < ds.getD (ds.length - 1) 0 then some 0 else none := by
      unfold fault
      rw [ef]
    walk_at "go"
    refine ⟨a, _, rfl, hS.or, ?_⟩
    rw [List.length_map]
    walk_at "go"
    refine ite2 (fun c => ?_) (fun c => ?_)
    · have c : ds.length = 0 := by
        have := V.int.inj (of_decide_eq_true c)
        omega
      rw [if_pos (.inl c)] at hf
      walk_at "go"
      exact (mkx_of (qe _ hf)).2
    · have c : ¬ ds.length = 0 := fun z => c (decide_eq_true (by rw [z]; rfl))
      walk_at "go"
      refine ixl hS (by omega) ?_
      walk_at "go"
      refine ixd hS (j := 0) (by omega) rfl ?_
      walk_at "go"
      refine ⟨a, _, rfl, hS.or, ?_⟩
      rw [List.length_map]
      walk_at "go"
      refine ite2 (fun c2 => ?_) (fun c2 => ?_)
      · have c2 := of_decide_eq_true c2
        rw [if_pos (.inr c2)] at hf
        walk_at "go"
        exact (mkx_of (qe _ hf)).2
      · have c2 : ¬ ds.getD (ds.length - 1) 0 > ds.getD 0 0 + ds.length := fun z => c2 (decide_eq_true z)
        rw [if_neg (by omega)] at hf
        exact q hf
/-! ### day_at -/
def spDayAt (K : PySem.W.Frag) : Sp := fun vs H Q _ => ∃ (b : Bool) (a : Addr) (ds : List Int) (d : Int), vs = [.ref a, .int d] ∧ SqK b K H a (ds.map V.int) ∧ 0 < ds.length ∧ ds.length ≤ 100000 ∧ Q (.int (dv ds d)) H
theorem ok_day_at (F : FnP K "day_at" s_day_at f fd) (m_len : mg "len" = none) : FnOk P w K mg base CX0 1 f fd P_day_at (spDayAt K) := by
  refine F.ok sc_day_at (fun vs H Q E h => ?_) (fun cdv A outer s H vs Q E hr h => ?_)
  · obtain ⟨b, a, ds, d, rfl, _⟩ := h
    rfl
  · obtain ⟨b, a, ds, d, rfl, hS, hp, hl, q⟩ := h
    refine ⟨_, PSs.nox (pss_cons (ps_set (i := 2) sc_day_at.nd rfl (by first | exact .inl rfl | exact .inr rfl) (pe_op op_mul (pe_callB call_len_seq (by rfl) m_len PySem.boot_len (pa_cons (pv 0) pa_nil)) (pe_op op_fdiv (pv 1) (pe_callB call_len_seq (by rfl) m_len PySem.boot_len (pa_cons (pv 0) pa_nil)))))
      (pss_one (ps_ret (pe_op op_add (pe_ix ix_seq (pv 0) (pe_op op_sub (pv 1) (pv 2)) (fun _ _ => rfl)) (pv 2))))), ?_⟩
    walk_at "go"
    refine ⟨a, _, rfl, hS.or, ?_⟩
    rw [List.length_map]
    walk_at "go"
    refine ⟨a, _, rfl, hS.or, ?_⟩
    rw [List.length_map]
    walk_at "go"
    have hn : 0 < (ds.length : Int) := by omega
    have h1 := Int.emod_nonneg d (show (ds.length : Int) ≠ 0 by omega)
    have h2 := Int.emod_lt_of_pos d hn
    refine ixd hS (j := (d % (ds.length : Int)).toNat) (by omega) ?_ ?_
    · rw [Int.toNat_of_nonneg h1, Int.emod_def]
    walk_at "go"
    exact q
/-! ### least_period -/
def spLeast (K : PySem.W.Frag) : Sp := fun vs H Q _ => ∃ (b : Bool) (a : Addr) (ds : List Int), vs = [.ref a] ∧ SqK b K H a (ds.map V.int) ∧ 0 < ds.length ∧ ds.length ≤ 100000 ∧ ∀ (p : Nat) H', Same H H' → Lp (dv ds) p → Q (.int (p : Int)) H'
theorem ok_least_period (F : FnP K "least_period" s_least_period f fd) (m_len : mg "len" = none) (m_range : mg "range" = none) (m_all : mg "all" = none) : FnOk P w K mg base CX0 1 f fd P_least_period (spLeast K) := by
  refine F.ok sc_least_period (fun vs H Q E h => ?_) (fun cdv A outer s H vs Q E hr h => ?_)
  · obtain ⟨b, a, ds, rfl, _⟩ := h
    rfl
  · obtain ⟨b, a, ds, rfl, hS, hp, hl, q⟩ := h
    refine ⟨_, PSs.nox (pss_cons (ps_set (i := 1) sc_least_period.nd rfl (by first | exact .inl rfl | exact .inr rfl) (pe_callB call_len_seq (by rfl) m_len PySem.boot_len (pa_cons (pv 0) pa_nil)))
      (pss_cons (ps_for PassesOwn.never rfl (pi_range2 (by rfl) m_range (pa_cons pe_int (pa_cons (pv 1) pa_nil))) (pg_name (i := 2) sc_least_period.nd rfl (by first | exact .inl rfl | exact .inr rfl))
        (pss_one (ps_if (PW.pt (pw_and (pt_cmpR op_eq (pe_op op_mod (pv 1) (pv 2)) pe_int (nomark _)) (pw_and1 (pt_val (pe_callB (cr_all rfl) (by rfl) m_all (by decide +kernel) (pa_cons (pe_lc (own := [("at", 3)]) (g := (gName 3)) (tt := tYes) (by rfl) sc_least_period.nd (pi_range2 (by rfl) m_range (pa_cons (pv 2) (pa_cons (pv 1) pa_nil))) (blkOk_by (own := [("at", 3)]) (N := N_least_period) (sc := defScope s_least_period) (by decide +kernel)) (fun _ _ _ _ _ => (pg_name (i := 3) sc_least_period.nd rfl (by first | exact .inl rfl | exact .inr rfl))) (fun _ _ _ _ _ => pts_nil) (fun _ _ _ _ _ => (pe_cmpR op_eq (pe_ix (ix_seq_K (K := K) rfl) (pv 0) (pv 3) (fun _ _ => rfl)) (pe_op op_add (pe_ix (ix_seq_K (K := K) rfl) (pv 0) (pe_op op_sub (pv 3) (pv 2)) (fun _ _ => rfl)) (pv 2)) (nomark _)))) pa_nil)))))) (pss_one (ps_ret (pv 2))) pss_nil)))
      (pss_one (ps_ret (pv 1))))), ?_⟩
    walk_at "go"
    refine ⟨a, _, rfl, hS.or, ?_⟩
    rw [List.length_map]
    walk_at "go"
    have of := of_dv hp
    refine for_gen (n := ds.length - 1) (fun i σ H1 => Same H H1 ∧ (∀ k, 0 < k → k < 1 + i → ¬ Blk ds k) ∧ ∃ v2 v3 : Option V, σ = [some (.ref a), some (.int (ds.length : Int)), v2, v3]) ⟨Same.refl _, (fun k h1 h2 => by omega), none, none, rfl⟩ ?_ ?_ ?_ ?_
    · intro i σ H1 hi _
      show i < ((ds.length : Int) - 1).toNat
      omega
    · intro σ H1 _
      show ((ds.length : Int) - 1).toNat ≤ ds.length - 1
      omega
    · rintro i σ H1 x H' hi ⟨s1, hk, v2, v3, rfl⟩ ⟨rfl, rfl⟩
      have hS1 := Z.Same.sqK s1 hS
      have em : ((ds.length : Int) % (1 + (i : Int))) = ((ds.length % (1 + i) : Nat) : Int) := by
        rw [Int.natCast_emod, Int.natCast_add]
        rfl
      have go : ¬ Blk ds (1 + i) → ∀ k, 0 < k → k < 1 + (i + 1) → ¬ Blk ds k := fun z k h1 h2 => by
        by_cases c : k = 1 + i
        · rw [c]
          exact z
        · exact hk k h1 (by omega)
      walk_at "go"
      refine ite2 (fun c => ?_) (fun c => ?_)
      · have c : ds.length % (1 + i) = 0 := by
          have h := V.int.inj (of_decide_eq_true c)
          rw [em] at h
          omega
        walk_at "go"
        intro D nD
        have fB : ∀ k, ((List.range k).map fun t => decide (V.int (ds.getD (1 + i + t) 0) = V.int (ds.getD t 0 + (1 + (i : Int))))).length = k := fun k => by rw [List.length_map, List.length_range]
        refine lc_gen (n := ds.length - (1 + i)) (fun k H2 => Same H' H2 ∧ H2 D = some (.lst (((List.range k).map fun t => decide (V.int (ds.getD (1 + i + t) 0) = V.int (ds.getD t 0 + (1 + (i : Int))))).map V.bl))) ⟨same_new nD, upd_same⟩ ?_ ?_ ?_ ?_
        · intro k H2 hk2 _
          show k < ((ds.length : Int) - (1 + (i : Int))).toNat
          omega
        · intro H2 _
          show ((ds.length : Int) - (1 + (i : Int))).toNat ≤ ds.length - (1 + i)
          omega
        · rintro k H2 x H3 hk2 ⟨s2, eD⟩ ⟨rfl, rfl⟩
          have hS2 := Z.Same.sqK s2 hS1
          walk_at "go"
          refine ixd hS2 (j := 1 + i + k) (by omega) (by omega) ?_
          walk_at "go"
          refine ixd hS2 (j := k) (by omega) (by omega) ?_
          walk_at "go"
          refine ⟨_, eD, ?_, Z.Same.mut s2 nD, ?_⟩
          · rw [List.length_map, fB]
            exact Nat.lt_of_le_of_lt (show k ≤ 100000 by omega) (by decide)
          · rw [upd_same, List.range_succ, List.map_append, List.map_append]
            rfl
        rintro H2 ⟨s2, eD⟩
        walk_at "go"
        refine ⟨D, _, rfl, SqL.of eD, ?_⟩
        have eb : (((List.range (ds.length - (1 + i))).map fun t => decide (V.int (ds.getD (1 + i + t) 0) = V.int (ds.getD t 0 + (1 + (i : Int))))).all id) = true ↔ Blk ds (1 + i) := by
          rw [List.all_eq_true]
          constructor
          · intro h
            refine ⟨c, fun j h1 h2 => ?_⟩
            have := h _ (List.mem_map.mpr ⟨j - (1 + i), List.mem_range.mpr (by omega), rfl⟩)
            have := V.int.inj (of_decide_eq_true this)
            rw [show 1 + i + (j - (1 + i)) = j by omega] at this
            rw [this]
            congr 1
          · rintro ⟨_, h⟩ x hx
            obtain ⟨t, ht, rfl⟩ := List.mem_map.mp hx
            have ht := List.mem_range.mp ht
            have := h (1 + i + t) (by omega) (by omega)
            rw [show 1 + i + t - (1 + i) = t by omega] at this
            refine decide_eq_true ?_
            rw [this]
            congr 1
        walk_at "go"
        refine ite2 (fun c2 => ?_) (fun c2 => ?_)
        · have c2 := eb.mp c2
          walk_at "go"
          have z := q (1 + i) H2 (s1.trans s2) (first_lp (Blk ds) hp of.per (fun k h1 h2 => blk_per of h1 h2) (fun p l _ => lp_blk of l) (by omega) (by omega) hk (fun _ => c2))
          rw [show ((1 + i : Nat) : Int) = 1 + (i : Int) by omega] at z
          exact z
        · exact ⟨s1.trans s2, go (fun z => c2 (eb.mpr z)), _, _, rfl⟩
      · have c : ¬ ds.length % (1 + i) = 0 := fun z => c (decide_eq_true (show V.int ((ds.length : Int) % (1 + (i : Int))) = V.int 0 by rw [em, z]; rfl))
        exact ⟨s1, go (fun z => c z.1), _, _, rfl⟩
    · rintro σ H1 ⟨s1, hk, v2, v3, rfl⟩
      walk_at "go"
      refine q _ _ s1 (first_lp (Blk ds) hp of.per (fun k h1 h2 => blk_per of h1 h2) (fun p l _ => lp_blk of l) hp (Nat.le_refl _) (fun k h1 h2 => hk k h1 (by omega)) (fun z => by omega))
end
end Z
set_option pp.maxSteps 700
set_option Elab.async false
set_option linter.all false
set_option maxRecDepth 100000
set_option maxHeartbeats 4000000
namespace Z
open Dy
open PySem PySem.Spec PyProof.Rows L2
open C8 (pss_cut tCut)
local macro_rules | `(tactic| walk_at "num") => `(tactic| first | rfl | omega | decide | exact Nat.le_of_lt (small1000 (by simp)) | exact ⟨by omega, by omega⟩ | exact ⟨by omega, by omega, by omega⟩ | exact ⟨by decide, by decide, by decide⟩ | exact Or.inl ⟨by omega, by omega⟩ | exact Or.inr ⟨by omega, by omega⟩)
local macro_rules | `(tactic| walk_at "go") => `(tactic| repeat (first | refine ⟨_, rfl, ?_⟩ | refine ⟨_, _, rfl, rfl, ?_⟩ | refine ⟨_, _, rfl, ?_⟩ | refine ⟨_, _, rfl, rfl, (by walk_at "num"), ?_⟩ | refine Or.inl ⟨_, rfl, ?_⟩ | refine ⟨_, _, _, _, rfl, rfl, (by assumption), (by rfl), ?_⟩ | refine ⟨_, _, _, _, _, rfl, (by assumption), (by assumption), (by assumption), (by rfl), ?_⟩ | refine ⟨rfl, ?_⟩ | refine And.intro (by walk_at "num") ?_))
theorem sIx_hi {n p : Nat} (h : p ≤ n) : HT.sIx n n (some (p : Int)) = p := by
  rw [HT.sIx_nat]
  omega
theorem cut_take {ds : List Int} {p : Nat} (h : p ≤ ds.length) : cutV (ds.map V.int) none (some (p : Int)) = (ds.take p).map V.int := by
  unfold cutV
  rw [List.length_map, sIx_hi h]
  show ((ds.map V.int).drop 0).take (p - 0) = _
  rw [List.drop_zero, Nat.sub_zero, List.map_take]
def bO (b : Bool) (xs : List V) : HO := match b with
  | true => .lst xs
  | false => .tup xs
theorem bO_sq {b : Bool} {K : PySem.W.Frag} {H : Hp} {a : Addr} {xs : List V} (h : H a = some (bO b xs)) : SqK b K H a xs := by
  cases b
  · exact .inl (.inl h)
  · exact .inl (.inl h)
def RuleAt (C : Addr) (K : PySem.W.Frag) (H : Hp) (n : Addr) (ds : List Int) : Prop := ∃ dx t, H n = some (.ins C dx [("days", .ref t)]) ∧ H t = some (.tup (ds.map V.int))
theorem RuleAt.mono {C : Addr} {K : PySem.W.Frag} {H H' : Hp} {n : Addr} {ds : List Int} (s : Same H H') (h : RuleAt C K H n ds) : RuleAt C K H' n ds := by
  obtain ⟨dx, t, e, h2⟩ := h
  exact ⟨dx, t, s _ _ e, s _ _ h2⟩
theorem sqT_ins {K : PySem.W.Frag} {H H' : Hp} {n C dx a : Addr} {fs : List (Str × V)} {xs : List V} (s : SB n H H') (hn : H n = some (.ins C dx fs)) (h : SqT K H a xs) : SqT K H' a xs := by
  have ne : ∀ {o : HO}, H a = some o → (∀ C dx fs, o ≠ .ins C dx fs) → a ≠ n := fun e z w => by
    rw [w, hn] at e
    exact z _ _ _ (Option.some.inj e).symm
  rcases h with (h | ⟨o, h⟩) | h
  · exact .inl (.inl (s _ _ (ne h fun _ _ _ => nofun) h))
  · exact .inl (.inr ⟨o, s _ _ (ne h fun _ _ _ => nofun) h⟩)
  · exact .inr h
section
variable {P : Program} {w : World} {K : PySem.W.Frag} {mg : Str → Option Value} {base : Heap} {f C CD : Addr} {fd : FuncData}
def spInit (C CD : Addr) (K : PySem.W.Frag) : Sp := fun vs H Q E => ∃ (b : Bool) (n dx a : Addr) (ds : List Int), vs = [.ref n, .ref a] ∧ H n = some (.ins C dx []) ∧ H a = some (bO b (ds.map V.int)) ∧ ds.length ≤ 100000 ∧
  (fault ds = none → ∀ (p : Nat) H', SB n H H' → Lp (dv ds) p → RuleAt C K H' n (ds.take p) → Q .non H') ∧ ∀ i, fault ds = some i → ∀ d, H d = none → E (.ref CD) (some d) (upd H d (.xd [("at", .int (i : Int))]))
theorem fault_pos {ds : List Int} (h : fault ds = none) : 0 < ds.length := by
  cases ds with
  | nil => cases h
  | cons x r => exact Nat.succ_pos _
theorem ok_init (F : FnM K "__init__" "DayRule.__init__" s_DayRule___init__ f fd) (cls : Cls K C) (n_days : NoAttr K C "days") (m_tuple : mg "tuple" = none) (c_check_days : CalX P w K mg base 3 "check_days" (spCheck CD K)) (c_least_period : Cal P w K mg base 1 "least_period" (spLeast K)) : FnOk P w K mg base (L2.CX P w) 4 f fd P_DayRule___init__ (spInit C CD K) := by
  refine F.ok sc_DayRule___init__ (fun vs H Q E h => ?_) (fun cdv A outer s H vs Q E hr h => ?_)
  · obtain ⟨b, n, dx, a, ds, rfl, _⟩ := h
    rfl
  · obtain ⟨b, n, dx, a, ds, rfl, hn, hA, hl, q, qe⟩ := h
    have hS : SqK b K H a (ds.map V.int) := bO_sq hA
    have tk := takes_fn (P := P) (w := w) (K := K) (mg := mg) (base := base) (N := N_DayRule___init__) (qual := "DayRule.__init__") (scope := defScope s_DayRule___init__) (f := f) (cd := cdv) (A := A) (outer := outer) (s := s) (H := H) (E := E)
    refine ⟨_, (pss_cons (ps_expr (pe_clE c_check_days (fun σ => passAt tk σ) hr (by decide) (by rfl) (pa_cons (pv 1) pa_nil)))
      (pss_one (ps_fld (pv 0) (pe_callTy call_tuple_of (by rfl) m_tuple (by decide +kernel) (pa_cons (pe_slice (sl_list.or sl_tupA) (pv 1) po_none (po_some (pe_cl c_least_period hr (by decide) (by rfl) (pa_cons (pv 1) pa_nil)))) pa_nil)) rfl))), ?_⟩
    walk_at "go"
    refine ⟨b, a, ds, rfl, hS, hl, fun hf => ?_, qe⟩
    have hp := fault_pos hf
    have q := q hf
    walk_at "go"
    refine ⟨b, a, ds, rfl, hS, hp, hl, fun p H1 s1 lp => ?_⟩
    have hS1 := Z.Same.sqK s1 hS
    have hn1 := s1 _ _ hn
    obtain ⟨hpl, ltk, oft⟩ := (of_dv hp).take lp
    -- what is left, the tuple at t
    have fin : ∀ (t : Addr) (H2 : Hp), Same H1 H2 → H2 t = some (.tup ((ds.take p).map V.int)) → Q .non (upd H2 n (.ins C dx [("days", .ref t)])) := by
      intro t H2 s2 hT
      have hn2 := s2 _ _ hn1
      have sb : SB n H2 (upd H2 n (.ins C dx [("days", .ref t)])) := SB.upd (Z.Same.sb (Same.refl _))
      have ne : t ≠ n := fun z => by
        rw [z, hn2] at hT
        cases hT
      exact q p _ ((Z.Same.sb (s1.trans s2)).trans sb) lp ⟨dx, t, upd_same, by rw [upd_ne ne]; exact hT⟩
    walk_at "go"
    cases b with
    | true =>
      refine .inl ⟨a, _, rfl, hS1, fun l nl => ?_⟩
      rw [cut_take hpl]
      have s2 := same_new (o := .lst ((ds.take p).map V.int)) nl
      walk_at "go"
      refine ⟨l, _, rfl, .inl ⟨SqL.of upd_same, fun t nt => ?_⟩⟩
      have s3 := same_new (o := .tup ((ds.take p).map V.int)) nt
      walk_at "go"
      refine ⟨n, C, dx, _, rfl, s3 _ _ (s2 _ _ hn1), cls, n_days, by decide, ?_⟩
      exact fin t _ (s2.trans s3) upd_same
    | false =>
      refine .inr ⟨a, _, rfl, hS1, fun hw => ?_, fun hw l nl => ?_⟩
      · have e : p = ds.length := by
          have := hw.2
          rw [List.length_map, sIx_hi hpl] at this
          exact this
        walk_at "go"
        refine ⟨a, _, rfl, .inr ⟨hS1, ?_⟩⟩
        walk_at "go"
        refine ⟨n, C, dx, _, rfl, hn1, cls, n_days, by decide, ?_⟩
        exact fin a _ (Same.refl _) (by rw [e, List.take_length]; exact s1 _ _ hA)
      · rw [cut_take hpl]
        have s2 := same_new (o := .tup ((ds.take p).map V.int)) nl
        walk_at "go"
        refine ⟨l, _, rfl, .inr ⟨.inl (.inl upd_same), ?_⟩⟩
        walk_at "go"
        refine ⟨n, C, dx, _, rfl, s2 _ _ hn1, cls, n_days, by decide, ?_⟩
        exact fin l _ s2 upd_same
/-! ### period, a call, == -/
def spPeriod (C : Addr) (K : PySem.W.Frag) : Sp := fun vs H Q _ => ∃ (n : Addr) (ds : List Int), vs = [.ref n] ∧ RuleAt C K H n ds ∧ Q (.int (ds.length : Int)) H
theorem ok_period (F : FnM K "period" "DayRule.period" s_DayRule_period f fd) (cls : Cls K C) (n_days : NoAttr K C "days") (m_len : mg "len" = none) : FnOk P w K mg base CX0 1 f fd P_DayRule_period (spPeriod C K) := by
  refine F.ok sc_DayRule_period (fun vs H Q E h => ?_) (fun cdv A outer s H vs Q E hr h => ?_)
  · obtain ⟨n, ds, rfl, _⟩ := h
    rfl
  · obtain ⟨n, ds, rfl, ⟨dx, t, hn, hT⟩, q⟩ := h
    refine ⟨_, PSs.nox (pss_one (ps_ret (pe_callB call_len_seq (by rfl) m_len PySem.boot_len (pa_cons (pe_fld (pv 0) rfl) pa_nil)))), ?_⟩
    walk_at "go"
    refine ⟨t, _, rfl, .inr (SqT.of hT), ?_⟩
    rw [List.length_map]
    exact q
def spCallR (C : Addr) (K : PySem.W.Frag) : Sp := fun vs H Q _ => ∃ (n : Addr) (ds : List Int) (d : Int), vs = [.ref n, .int d] ∧ RuleAt C K H n ds ∧ 0 < ds.length ∧ ds.length ≤ 100000 ∧ Q (.int (dv ds d)) H
theorem ok_call (F : FnM K "__call__" "DayRule.__call__" s_DayRule___call__ f fd) (cls : Cls K C) (n_days : NoAttr K C "days") (c_day_at : Cal P w K mg base 1 "day_at" (spDayAt K)) : FnOk P w K mg base CX0 2 f fd P_DayRule___call__ (spCallR C K) := by
  refine F.ok sc_DayRule___call__ (fun vs H Q E h => ?_) (fun cdv A outer s H vs Q E hr h => ?_)
  · obtain ⟨n, ds, d, rfl, _⟩ := h
    rfl
  · obtain ⟨n, ds, d, rfl, ⟨dx, t, hn, hT⟩, hp, hl, q⟩ := h
    refine ⟨_, PSs.nox (pss_one (ps_ret (pe_cl c_day_at hr (by decide) (by rfl) (pa_cons (pe_fld (pv 0) rfl) (pa_cons (pv 1) pa_nil))))), ?_⟩
    walk_at "go"
    exact ⟨false, t, ds, d, rfl, SqT.of hT, hp, hl, q⟩
theorem eqv_ints (b : Bool) (ns ms : List Int) : PyData.eqv (intsD b ns) (intsD b ms) = decide (ns = ms) := by
  cases b
  · show PyData.eqv (.tuple _) (.tuple _) = _
    rw [PyData.eqv, PySem.W.ked_eqvAll]
  · show PyData.eqv (.list _) (.list _) = _
    rw [PyData.eqv, PySem.W.ked_eqvAll]
def spEqR (C : Addr) (K : PySem.W.Frag) : Sp := fun vs H Q _ => ∃ (n m : Addr) (ds es : List Int), vs = [.ref n, .ref m] ∧ RuleAt C K H n ds ∧ RuleAt C K H m es ∧ Q (.bl (decide (ds = es))) H
theorem ok_eq (F : FnM K "__eq__" "DayRule.__eq__" s_DayRule___eq__ f fd) (isC : C8.InsC K C) (m_isinstance : mg "isinstance" = none) (g_DayRule : mg "DayRule" = some (.ref C)) (cls : Cls K C) (n_days : NoAttr K C "days") : FnOk P w K mg base CX0 1 f fd P_DayRule___eq__ (spEqR C K) := by
  refine F.ok sc_DayRule___eq__ (fun vs H Q E h => ?_) (fun cdv A outer s H vs Q E hr h => ?_)
  · obtain ⟨n, m, ds, es, rfl, _⟩ := h
    rfl
  · obtain ⟨n, m, ds, es, rfl, ⟨dx, t, hn, hT⟩, ⟨dy, u, hm, hU⟩, q⟩ := h
    refine ⟨_, PSs.nox (pss_one (ps_ret (pe_and (pe_callB (C8.call_isC isC) (by rfl) m_isinstance (by decide +kernel) (pa_cons (pv 1) (pa_cons (pe_glob (by rfl) g_DayRule relv_ref) pa_nil))) (pe_one (pe_cmpR (op_eqD hr.units) (pe_fld (pv 0) rfl) (pe_fld (pv 1) rfl) (nomark _)))))), ?_⟩
    walk_at "go"
    refine ⟨m, dy, _, rfl, hm, ?_⟩
    walk_at "go"
    refine ⟨_, _, dp_ints (b := false) (SqT.of hT), dp_ints (b := false) (SqT.of hU), shaped_ints _ _, shaped_ints _ _, ?_⟩
    rw [eqv_ints]
    exact q
end
end Z
set_option pp.maxSteps 700
set_option Elab.async false
set_option linter.all false
set_option maxRecDepth 100000
set_option maxHeartbeats 4000000
namespace Z
open Dy
open PySem PySem.Spec PyProof.Rows L2
open C8 (pss_cut tCut)
local macro_rules | `(tactic| walk_at "num") => `(tactic| first | rfl | omega | decide | exact Nat.le_of_lt (small1000 (by simp)) | exact ⟨by omega, by omega⟩ | exact ⟨by omega, by omega, by omega⟩ | exact ⟨by decide, by decide, by decide⟩ | exact Or.inl ⟨by omega, by omega⟩ | exact Or.inr ⟨by omega, by omega⟩)
local macro_rules | `(tactic| walk_at "go") => `(tactic| repeat (first | refine ⟨_, rfl, ?_⟩ | refine ⟨_, _, rfl, rfl, ?_⟩ | refine ⟨_, _, rfl, ?_⟩ | refine ⟨_, _, rfl, rfl, (by walk_at "num"), ?_⟩ | refine Or.inl ⟨_, rfl, ?_⟩ | refine ⟨_, _, _, _, rfl, rfl, (by assumption), (by rfl), ?_⟩ | refine ⟨_, _, _, _, _, rfl, (by assumption), (by assumption), (by assumption), (by rfl), ?_⟩ | refine ⟨rfl, ?_⟩ | refine And.intro (by walk_at "num") ?_))
abbrev s_whole : Stmt := topS 18
abbrev N_whole : List Str := ["_law_found"]
abbrev P_whole : List Str := ["_law_found"]
theorem sc_whole : FnScope N_whole P_whole (defScope s_whole) := ⟨rfl, rfl, rfl, by decide +kernel, rfl, by decide +kernel, by decide +kernel⟩
abbrev s_same : Stmt := topS 19
abbrev N_same : List Str := ["_law_found", "_law_due"]
abbrev P_same : List Str := ["_law_found", "_law_due"]
theorem sc_same : FnScope N_same P_same (defScope s_same) := ⟨rfl, rfl, rfl, by decide +kernel, rfl, by decide +kernel, by decide +kernel⟩
abbrev s_row_is : Stmt := topS 20
abbrev N_row_is : List Str := ["_law_found", "_law_due", "_law_k"]
abbrev P_row_is : List Str := ["_law_found", "_law_due"]
theorem sc_row_is : FnScope N_row_is P_row_is (defScope s_row_is) := ⟨rfl, rfl, rfl, by decide +kernel, rfl, by decide +kernel, by decide +kernel⟩
abbrev s_value : Stmt := topS 24
abbrev N_value : List Str := ["_law_days_here", "_law_day", "_law_turns"]
abbrev P_value : List Str := ["_law_days_here", "_law_day"]
theorem sc_value : FnScope N_value P_value (defScope s_value) := ⟨rfl, rfl, rfl, by decide +kernel, rfl, by decide +kernel, by decide +kernel⟩
abbrev s_repeats : Stmt := topS 25
abbrev N_repeats : List Str := ["_law_days_here", "_law_size_here", "_law_day"]
abbrev P_repeats : List Str := ["_law_days_here", "_law_size_here"]
theorem sc_repeats : FnScope N_repeats P_repeats (defScope s_repeats) := ⟨rfl, rfl, rfl, by decide +kernel, rfl, by decide +kernel, by decide +kernel⟩
abbrev s_least : Stmt := topS 26
abbrev N_least : List Str := ["_law_days_here", "_law_size_here"]
abbrev P_least : List Str := ["_law_days_here"]
theorem sc_least : FnScope N_least P_least (defScope s_least) := ⟨rfl, rfl, rfl, by decide +kernel, rfl, by decide +kernel, by decide +kernel⟩
abbrev s_over : Stmt := topS 27
abbrev N_over : List Str := ["_law_days_here", "_law_many", "_law_k"]
abbrev P_over : List Str := ["_law_days_here", "_law_many"]
theorem sc_over : FnScope N_over P_over (defScope s_over) := ⟨rfl, rfl, rfl, by decide +kernel, rfl, by decide +kernel, by decide +kernel⟩
section
variable {P : Program} {w : World} {K : PySem.W.Frag} {mg : Str → Option Value} {base : Heap} {f C CD : Addr} {fd : FuncData}
def spWhole : Sp := fun vs H Q _ => ∃ x : Int, vs = [.int x] ∧ Q (.bl true) H
theorem ok_whole (F : FnP K "_law_whole" s_whole f fd) (m_isinstance : mg "isinstance" = none) (m_int : mg "int" = none) (m_bool : mg "bool" = none) : FnOk P w K mg base CX0 1 f fd P_whole spWhole := by
  refine F.ok sc_whole (fun vs H Q E h => ?_) (fun cdv A outer s H vs Q E hr h => ?_)
  · obtain ⟨x, rfl, _⟩ := h
    rfl
  · obtain ⟨x, rfl, q⟩ := h
    refine ⟨_, PSs.nox (pss_one (ps_ret (pe_and (pe_callB call_isi (by rfl) m_isinstance (by decide +kernel) (pa_cons (pv 0) (pa_cons (pe_bltn (v := .ty "int") (by rfl) m_int (by decide +kernel) rfl) pa_nil))) (pe_one (pe_not (pe_callB call_isi (by rfl) m_isinstance (by decide +kernel) (pa_cons (pv 0) (pa_cons (pe_bltn (v := .ty "bool") (by rfl) m_bool (by decide +kernel) rfl) pa_nil)))))))), ?_⟩
    walk_at "go"
    refine isi (c := "int") (b := true) (.int x) (by decide +kernel) ?_
    walk_at "go"
    refine isi (c := "bool") (b := false) (.int x) (by decide +kernel) ?_
    walk_at "go"
    exact q
def spSame : Sp := fun vs H Q _ => ∃ x : Int, vs = [.int x, .int x] ∧ Q (.bl true) H
theorem ok_same (F : FnP K "_law_same" s_same f fd) (c_whole : Cal P w K mg base 1 "_law_whole" spWhole) : FnOk P w K mg base CX0 2 f fd P_same spSame := by
  refine F.ok sc_same (fun vs H Q E h => ?_) (fun cdv A outer s H vs Q E hr h => ?_)
  · obtain ⟨x, rfl, _⟩ := h
    rfl
  · obtain ⟨x, rfl, q⟩ := h
    refine ⟨_, PSs.nox (pss_one (ps_ret (pe_and (pe_cl c_whole hr (by decide) (by rfl) (pa_cons (pv 0) pa_nil)) (pe_one (pe_cmpR op_eq (pv 0) (pv 1) (nomark _)))))), ?_⟩
    walk_at "go"
    rw [decide_eq_true rfl]
    exact q
def spRow (K : PySem.W.Frag) : Sp := fun vs H Q _ => ∃ (t l : Addr) (ds : List Int), vs = [.ref t, .ref l] ∧ H t = some (.tup (ds.map V.int)) ∧ SqL K H l (ds.map V.int) ∧ ds.length ≤ 100000 ∧ Q (.bl true) H
theorem ok_row_is (F : FnP K "_law_row_is" s_row_is f fd) (m_isinstance : mg "isinstance" = none) (m_tuple : mg "tuple" = none) (m_len : mg "len" = none) (m_range : mg "range" = none) (c_same : Cal P w K mg base 2 "_law_same" spSame) : FnOk P w K mg base CX0 3 f fd P_row_is (spRow K) := by
  refine F.ok sc_row_is (fun vs H Q E h => ?_) (fun cdv A outer s H vs Q E hr h => ?_)
  · obtain ⟨t, l, ds, rfl, _⟩ := h
    rfl
  · obtain ⟨t, l, ds, rfl, hT, hL, hl, q⟩ := h
    refine ⟨_, PSs.nox (pss_cons (ps_if (PW.pt (pw_or (pt_not (pt_val (pe_callB call_isi (by rfl) m_isinstance (by decide +kernel) (pa_cons (pv 0) (pa_cons (pe_bltn (v := .ty "tuple") (by rfl) m_tuple (by decide +kernel) rfl) pa_nil))))) (pw_or1 (pt_cmpR op_ne (pe_callB call_len_seq (by rfl) m_len PySem.boot_len (pa_cons (pv 0) pa_nil)) (pe_callB call_len_seq (by rfl) m_len PySem.boot_len (pa_cons (pv 1) pa_nil)) (nomark _))))) (pss_one (ps_ret pe_bl)) pss_nil)
      (pss_cons (ps_for PassesOwn.never rfl (pi_range1 (by rfl) m_range (pa_cons (pe_callB call_len_seq (by rfl) m_len PySem.boot_len (pa_cons (pv 1) pa_nil)) pa_nil)) (pg_name (i := 2) sc_row_is.nd rfl (by first | exact .inl rfl | exact .inr rfl))
        (pss_one (ps_if (pt_not (pt_val (pe_cl c_same hr (by decide) (by rfl) (pa_cons (pe_ix ix_tup (pv 0) (pv 2) (fun _ _ => rfl)) (pa_cons (pe_ix ix_list (pv 1) (pv 2) (fun _ _ => rfl)) pa_nil))))) (pss_one (ps_ret pe_bl)) pss_nil)))
      (pss_one (ps_ret pe_bl)))), ?_⟩
    walk_at "go"
    refine isi (c := "tuple") (b := true) (.tup hT) (by decide +kernel) ?_
    walk_at "go"
    refine ⟨t, _, rfl, .inr (SqT.of hT), ?_⟩
    walk_at "go"
    refine ⟨l, _, rfl, .inl hL, ?_⟩
    walk_at "go"
    refine ite2 (fun e => ?_) (fun e => ?_)
    · simp at e
    walk_at "go"
    refine ⟨l, _, rfl, .inl hL, ?_⟩
    rw [List.length_map]
    walk_at "go"
    refine for_gen (n := ds.length) (fun i σ H1 => H1 = H ∧ ∃ v2 : Option V, σ = [some (.ref t), some (.ref l), v2]) ⟨rfl, none, rfl⟩ ?_ ?_ ?_ ?_
    · intro i σ H1 hi _
      show i < ((ds.length : Int)).toNat
      omega
    · intro σ H1 _
      show ((ds.length : Int)).toNat ≤ ds.length
      omega
    · rintro i σ H1 x H' hi ⟨rfl, v2, rfl⟩ ⟨rfl, rfl⟩
      have e : atI (ds.map V.int) (0 + (i : Int)) = some (.int ds[i]) := at_of (j := i) (by omega) (by rw [List.getElem?_map, List.getElem?_eq_getElem hi]; rfl)
      walk_at "go"
      refine ⟨t, _, _, _, rfl, rfl, SqT.of hT, e, ?_⟩
      walk_at "go"
      refine ⟨l, _, _, _, rfl, rfl, hL, e, ?_⟩
      walk_at "go"
      exact ⟨_, rfl⟩
    · rintro σ H1 ⟨rfl, v2, rfl⟩
      walk_at "go"
      exact q
def spValue (K : PySem.W.Frag) : Sp := fun vs H Q _ => ∃ (a : Addr) (ds : List Int) (d : Int), vs = [.ref a, .int d] ∧ SqL K H a (ds.map V.int) ∧ 0 < ds.length ∧ ds.length ≤ 100000 ∧ Q (.int (dv ds d)) H
theorem ok_value (F : FnP K "_law_value" s_value f fd) (m_len : mg "len" = none) (m_int : mg "int" = none) : FnOk P w K mg base CX0 1 f fd P_value (spValue K) := by
  refine F.ok sc_value (fun vs H Q E h => ?_) (fun cdv A outer s H vs Q E hr h => ?_)
  · obtain ⟨a, ds, d, rfl, _⟩ := h
    rfl
  · obtain ⟨a, ds, d, rfl, hS, hp, hl, q⟩ := h
    refine ⟨_, PSs.nox (pss_cons (ps_set (i := 2) sc_value.nd rfl (by first | exact .inl rfl | exact .inr rfl) (pe_op op_fdiv (pe_callTy call_int1 (by rfl) m_int (by decide +kernel) (pa_cons (pv 1) pa_nil)) (pe_callB call_len_seq (by rfl) m_len PySem.boot_len (pa_cons (pv 0) pa_nil))))
      (pss_one (ps_ret (pe_op op_add (pe_ix ix_list (pv 0) (pe_op op_mod (pe_callTy call_int1 (by rfl) m_int (by decide +kernel) (pa_cons (pv 1) pa_nil)) (pe_callB call_len_seq (by rfl) m_len PySem.boot_len (pa_cons (pv 0) pa_nil))) (fun _ _ => rfl)) (pe_op op_mul (pe_callB call_len_seq (by rfl) m_len PySem.boot_len (pa_cons (pv 0) pa_nil)) (pv 2)))))), ?_⟩
    have hn : 0 < (ds.length : Int) := by omega
    have h1 := Int.emod_nonneg d (show (ds.length : Int) ≠ 0 by omega)
    have h2 := Int.emod_lt_of_pos d hn
    have e : atI (ds.map V.int) (d % (ds.length : Int)) = some (.int (ds.getD (d % (ds.length : Int)).toNat 0)) := by
      have hj : (d % (ds.length : Int)).toNat < ds.length := by omega
      rw [← Int.toNat_of_nonneg h1, List.getD_eq_getElem?_getD, Int.toNat_natCast, List.getElem?_eq_getElem hj]
      exact at_map (List.getElem?_eq_getElem hj)
    walk_at "go"
    refine ⟨a, _, rfl, .inl hS, ?_⟩
    rw [List.length_map]
    walk_at "go"
    refine ⟨a, _, rfl, .inl hS, ?_⟩
    rw [List.length_map]
    walk_at "go"
    refine ⟨a, _, _, _, rfl, rfl, hS, e, ?_⟩
    walk_at "go"
    refine ⟨a, _, rfl, .inl hS, ?_⟩
    rw [List.length_map]
    walk_at "go"
    exact q
def spRepeats (K : PySem.W.Frag) : Sp := fun vs H Q _ => ∃ (a : Addr) (ds : List Int) (s : Nat), vs = [.ref a, .int (s : Int)] ∧ SqL K H a (ds.map V.int) ∧ 0 < ds.length ∧ ds.length ≤ 100000 ∧ (Per (dv ds) (s : Int) → Q (.bl true) H) ∧ (¬ Per (dv ds) (s : Int) → Q (.bl false) H)
theorem ok_repeats (F : FnP K "_law_repeats" s_repeats f fd) (m_len : mg "len" = none) (m_range : mg "range" = none) (c_value : Cal P w K mg base 1 "_law_value" (spValue K)) : FnOk P w K mg base CX0 2 f fd P_repeats (spRepeats K) := by
  refine F.ok sc_repeats (fun vs H Q E h => ?_) (fun cdv A outer s H vs Q E hr h => ?_)
  · obtain ⟨a, ds, s, rfl, _⟩ := h
    rfl
  · obtain ⟨a, ds, sz, rfl, hS, hp, hl, q1, q2⟩ := h
    refine ⟨_, PSs.nox (pss_cons (ps_for PassesOwn.never rfl (pi_range1 (by rfl) m_range (pa_cons (pe_callB call_len_seq (by rfl) m_len PySem.boot_len (pa_cons (pv 0) pa_nil)) pa_nil)) (pg_name (i := 2) sc_repeats.nd rfl (by first | exact .inl rfl | exact .inr rfl))
        (pss_one (ps_if (pt_cmpR op_ne (pe_cl c_value hr (by decide) (by rfl) (pa_cons (pv 0) (pa_cons (pe_op op_add (pv 2) (pv 1)) pa_nil))) (pe_op op_add (pe_cl c_value hr (by decide) (by rfl) (pa_cons (pv 0) (pa_cons (pv 2) pa_nil))) (pv 1)) (nomark _)) (pss_one (ps_ret pe_bl)) pss_nil)))
      (pss_one (ps_ret pe_bl))), ?_⟩
    walk_at "go"
    refine ⟨a, _, rfl, .inl hS, ?_⟩
    rw [List.length_map]
    walk_at "go"
    refine for_gen (n := ds.length) (fun i σ H1 => H1 = H ∧ (∀ k : Nat, k < i → dv ds ((k : Int) + sz) = dv ds (k : Int) + sz) ∧ ∃ v2 : Option V, σ = [some (.ref a), some (.int (sz : Int)), v2]) ⟨rfl, (fun k hk => by omega), none, rfl⟩ ?_ ?_ ?_ ?_
    · intro i σ H1 hi _
      show i < ((ds.length : Int)).toNat
      omega
    · intro σ H1 _
      show ((ds.length : Int)).toNat ≤ ds.length
      omega
    · rintro i σ H1 x H' hi ⟨rfl, hk, v2, rfl⟩ ⟨rfl, rfl⟩
      walk_at "go"
      refine ⟨a, ds, _, rfl, hS, hp, hl, ?_⟩
      walk_at "go"
      refine ⟨a, ds, _, rfl, hS, hp, hl, ?_⟩
      walk_at "go"
      refine ite2 (fun e => ?_) (fun e => ?_)
      · walk_at "go"
        refine q2 (fun z => ?_)
        have := z (0 + (i : Int))
        rw [this] at e
        simp at e
      · refine ⟨rfl, fun k hk2 => ?_, _, rfl⟩
        by_cases c : k = i
        · subst c
          have e : dv ds (0 + (k : Int) + sz) = dv ds (0 + (k : Int)) + sz := by simpa using e
          rw [Int.zero_add] at e
          exact e
        · exact hk k (by omega)
    · rintro σ H1 ⟨rfl, hk, v2, rfl⟩
      walk_at "go"
      exact q1 (per_of hp (of_dv hp).per (fun i hi => hk i hi))
def spLeastL (K : PySem.W.Frag) : Sp := fun vs H Q _ => ∃ (a : Addr) (ds : List Int), vs = [.ref a] ∧ SqL K H a (ds.map V.int) ∧ 0 < ds.length ∧ ds.length ≤ 100000 ∧ ∀ p : Nat, Lp (dv ds) p → Q (.int (p : Int)) H
theorem ok_least (F : FnP K "_law_least" s_least f fd) (m_len : mg "len" = none) (m_range : mg "range" = none) (c_repeats : Cal P w K mg base 2 "_law_repeats" (spRepeats K)) : FnOk P w K mg base CX0 3 f fd P_least (spLeastL K) := by
  refine F.ok sc_least (fun vs H Q E h => ?_) (fun cdv A outer s H vs Q E hr h => ?_)
  · obtain ⟨a, ds, rfl, _⟩ := h
    rfl
  · obtain ⟨a, ds, rfl, hS, hp, hl, q⟩ := h
    refine ⟨_, PSs.nox (pss_cons (ps_for PassesOwn.never rfl (pi_range2 (by rfl) m_range (pa_cons pe_int (pa_cons (pe_callB call_len_seq (by rfl) m_len PySem.boot_len (pa_cons (pv 0) pa_nil)) pa_nil))) (pg_name (i := 1) sc_least.nd rfl (by first | exact .inl rfl | exact .inr rfl))
        (pss_one (ps_if (pt_val (pe_cl c_repeats hr (by decide) (by rfl) (pa_cons (pv 0) (pa_cons (pv 1) pa_nil)))) (pss_one (ps_ret (pv 1))) pss_nil)))
      (pss_one (ps_ret (pe_callB call_len_seq (by rfl) m_len PySem.boot_len (pa_cons (pv 0) pa_nil))))), ?_⟩
    have of := of_dv hp
    walk_at "go"
    refine ⟨a, _, rfl, .inl hS, ?_⟩
    rw [List.length_map]
    walk_at "go"
    refine for_gen (n := ds.length - 1) (fun i σ H1 => H1 = H ∧ (∀ k, 0 < k → k < 1 + i → ¬ Per (dv ds) (k : Int)) ∧ ∃ v1 : Option V, σ = [some (.ref a), v1]) ⟨rfl, (fun k h1 h2 => by omega), none, rfl⟩ ?_ ?_ ?_ ?_
    · intro i σ H1 hi _
      show i < ((ds.length : Int) - 1).toNat
      omega
    · intro σ H1 _
      show ((ds.length : Int) - 1).toNat ≤ ds.length - 1
      omega
    · rintro i σ H1 x H' hi ⟨rfl, hk, v1, rfl⟩ ⟨rfl, rfl⟩
      walk_at "go"
      refine ⟨a, ds, 1 + i, (by rw [show ((1 + i : Nat) : Int) = 1 + (i : Int) by omega]; rfl), hS, hp, hl, fun z => ?_, fun z => ?_⟩
      · walk_at "go"
        have w := q (1 + i) (first_lp (fun k => Per (dv ds) (k : Int)) hp of.per (fun k _ h2 => h2) (fun p l _ => l.per) (by omega) (by omega) hk (fun _ => z))
        rw [show ((1 + i : Nat) : Int) = 1 + (i : Int) by omega] at w
        exact w
      · walk_at "go"
        refine ⟨fun k h1 h2 => ?_, _, rfl⟩
        by_cases c : k = 1 + i
        · rw [c]
          exact z
        · exact hk k h1 (by omega)
    · rintro σ H1 ⟨rfl, hk, v1, rfl⟩
      walk_at "go"
      refine ⟨a, _, rfl, .inl hS, ?_⟩
      rw [List.length_map]
      refine q _ (first_lp (fun k => Per (dv ds) (k : Int)) hp of.per (fun k _ h2 => h2) (fun p l _ => l.per) hp (Nat.le_refl _) (fun k h1 h2 => hk k h1 (by omega)) (fun z => by omega))
end
end Z
set_option pp.maxSteps 700
set_option Elab.async false
set_option linter.all false
set_option maxRecDepth 100000
set_option maxHeartbeats 4000000
namespace Z
open Dy
open PySem PySem.Spec PyProof.Rows L2
open C8 (pss_cut tCut)
local macro_rules | `(tactic| walk_at "num") => `(tactic| first | rfl | omega | decide | exact Nat.le_of_lt (small1000 (by simp)) | exact ⟨by omega, by omega⟩ | exact ⟨by omega, by omega, by omega⟩ | exact ⟨by decide, by decide, by decide⟩ | exact Or.inl ⟨by omega, by omega⟩ | exact Or.inr ⟨by omega, by omega⟩)
local macro_rules | `(tactic| walk_at "go") => `(tactic| repeat (first | refine ⟨_, rfl, ?_⟩ | refine ⟨_, _, rfl, rfl, ?_⟩ | refine ⟨_, _, rfl, ?_⟩ | refine ⟨_, _, rfl, rfl, (by walk_at "num"), ?_⟩ | refine Or.inl ⟨_, rfl, ?_⟩ | refine ⟨_, _, _, _, rfl, rfl, (by assumption), (by rfl), ?_⟩ | refine ⟨_, _, _, _, _, rfl, (by assumption), (by assumption), (by assumption), (by rfl), ?_⟩ | refine ⟨rfl, ?_⟩ | refine And.intro (by walk_at "num") ?_))
abbrev s_first : Stmt := topS 21
abbrev N_first : List Str := ["_law_draw", "_law_room", "_law_day", "_law_k"]
abbrev P_first : List Str := ["_law_draw", "_law_room"]
theorem sc_first : FnScope N_first P_first (defScope s_first) := ⟨rfl, rfl, rfl, by decide +kernel, rfl, by decide +kernel, by decide +kernel⟩
abbrev s_size : Stmt := topS 22
abbrev N_size : List Str := ["_law_draws_here", "_law_place", "_law_most"]
abbrev P_size : List Str := ["_law_draws_here", "_law_place", "_law_most"]
theorem sc_size : FnScope N_size P_size (defScope s_size) := ⟨rfl, rfl, rfl, by decide +kernel, rfl, by decide +kernel, by decide +kernel⟩
abbrev s_days : Stmt := topS 23
abbrev N_days : List Str := ["_law_draws_here", "_law_place", "_law_size_here", "_law_day", "_law_left", "_law_days_here", "_law_k", "_law_draw", "_law_step"]
abbrev P_days : List Str := ["_law_draws_here", "_law_place", "_law_size_here"]
theorem sc_days : FnScope N_days P_days (defScope s_days) := ⟨rfl, rfl, rfl, by decide +kernel, rfl, by decide +kernel, by decide +kernel⟩
/-! ### the draws -/
structure Tk (K : PySem.W.Frag) (a p : Addr) (ds : List Int) (n : Nat) (H0 H1 : Hp) : Prop where
  hA : H1 a = some (.lst (ds.map V.int))
  hd : Dr n ds
  ne : a ≠ p
  sb : SB p H0 H1
  pl : ∃ m : Nat, H1 p = some (.lst [.int (m : Int)])
theorem Tk.more {K : PySem.W.Frag} {a p : Addr} {ds : List Int} {n : Nat} {H0 H1 H2 : Hp} (t : Tk K a p ds n H0 H1) (s : Same H1 H2) : Tk K a p ds n H0 H2 := by
  obtain ⟨m, e⟩ := t.pl
  exact ⟨s _ _ t.hA, t.hd, t.ne, t.sb.trans (Z.Same.sb s), m, s _ _ e⟩
theorem Tk.mut {K : PySem.W.Frag} {a p q : Addr} {ds : List Int} {n : Nat} {H0 H1 : Hp} {o : HO} (t : Tk K a p ds n H0 H1) (h : H0 q = none) (h2 : SB q H1 (upd H1 q o)) (nq : q ≠ p) (na : upd H1 q o a = some (.lst (ds.map V.int))) : Tk K a p ds n H0 (upd H1 q o) := by
  obtain ⟨m, e⟩ := t.pl
  refine ⟨na, t.hd, t.ne, fun b u n1 n2 => ?_, m, h2 _ _ nq.symm e⟩
  exact h2 _ _ (ne_of_none n2 h) (t.sb b u n1 n2)
theorem Tk.next {K : PySem.W.Frag} {a p : Addr} {ds : List Int} {n m : Nat} {H0 H1 : Hp} (t : Tk K a p ds n H0 H1) (e : H1 p = some (.lst [.int (m : Int)])) : Tk K a p ds n H0 (upd H1 p (.lst [.int ((m + 1 : Nat) : Int)])) ∧ SB p H1 (upd H1 p (.lst [.int ((m + 1 : Nat) : Int)])) := by
  have sb : SB p H1 (upd H1 p (.lst [.int ((m + 1 : Nat) : Int)])) := SB.upd (Z.Same.sb (Same.refl H1))
  exact ⟨⟨sb _ _ t.ne t.hA, t.hd, t.ne, t.sb.trans sb, m + 1, upd_same⟩, sb⟩

/-- a list of days that makes a rule -/
structure Gd (ds : List Int) : Prop where
  pos : 0 < ds.length
  asc : ∀ i, i + 1 < ds.length → ds.getD i 0 ≤ ds.getD (i + 1) 0
  fin : ds.getD (ds.length - 1) 0 ≤ ds.getD 0 0 + ds.length
theorem faultF_none {ds : List Int} : ∀ (m i : Nat), faultF ds m i = none ↔ ∀ k, i ≤ k → k < i + m → ¬ ds.getD k 0 < ds.getD (k - 1) 0
  | 0, i => ⟨fun _ k h1 h2 => by omega, fun _ => rfl⟩
  | m + 1, i => by
    have e : faultF ds (m + 1) i = if ds.getD i 0 < ds.getD (i - 1) 0 then some i else faultF ds m (i + 1) := rfl
    rw [e]
    by_cases c : ds.getD i 0 < ds.getD (i - 1) 0
    · rw [if_pos c]
      exact ⟨(fun z => by cases z), fun z => absurd c (z i (Nat.le_refl _) (by omega))⟩
    · rw [if_neg c, faultF_none m (i + 1)]
      constructor
      · intro z k h1 h2
        by_cases d : k = i
        · rw [d]
          exact c
        · exact z k (by omega) (by omega)
      · intro z k h1 h2
        exact z k (by omega) (by omega)
theorem Gd.fault {ds : List Int} (g : Gd ds) : fault ds = none := by
  have h : faultF ds (ds.length - 1) 1 = none := (faultF_none _ _).mpr fun k h1 h2 => by
    have := g.asc (k - 1) (by omega)
    rw [show k - 1 + 1 = k by omega] at this
    omega
  unfold Dy.fault
  rw [h]
  dsimp only
  rw [if_neg]
  have h1 := g.pos
  have h2 := g.fin
  omega
theorem fault_gd {ds : List Int} (h : fault ds = none) : Gd ds := by
  unfold fault at h
  cases e : faultF ds (ds.length - 1) 1 with
  | some i =>
    rw [e] at h
    cases h
  | none =>
    rw [e] at h
    dsimp only at h
    have e := (faultF_none _ _).mp e
    by_cases c : ds.length = 0 ∨ ds.getD 0 0 + ds.length < ds.getD (ds.length - 1) 0
    · rw [if_pos c] at h
      cases h
    · refine ⟨by omega, fun i hi => ?_, by omega⟩
      have := e (i + 1) (by omega) (by omega)
      rw [show i + 1 - 1 = i by omega] at this
      omega
section
variable {P : Program} {w : World} {K : PySem.W.Frag} {mg : Str → Option Value} {base : Heap} {f C CD : Addr} {fd : FuncData}
def spFirst : Sp := fun vs H Q _ => ∃ (d r : Int), vs = [.int d, .int r] ∧ 0 ≤ d ∧ d < 1000000 ∧ ∀ x : Int, Q (.int x) H
theorem ok_first (F : FnP K "_law_first" s_first f fd) (m_int : mg "int" = none) (m_range : mg "range" = none) : FnOk P w K mg base CX0 1 f fd P_first spFirst := by
  refine F.ok sc_first (fun vs H Q E h => ?_) (fun cdv A outer s H vs Q E hr h => ?_)
  · obtain ⟨d, r, rfl, _⟩ := h
    rfl
  · obtain ⟨d, r, rfl, h0, h1, q⟩ := h
    refine ⟨_, PSs.nox (pss_cons (ps_set (i := 2) sc_first.nd rfl (by first | exact .inl rfl | exact .inr rfl) (pe_op op_sub (pe_op op_mod (pe_callTy call_int1 (by rfl) m_int (by decide +kernel) (pa_cons (pe_op op_fdiv (pe_callTy call_int1 (by rfl) m_int (by decide +kernel) (pa_cons (pv 0) pa_nil)) pe_int) pa_nil)) pe_int) pe_int))
      (pss_cut (ps_if (pt_cmpR op_eq (pe_op op_mod (pe_callTy call_int1 (by rfl) m_int (by decide +kernel) (pa_cons (pv 0) pa_nil)) pe_int) pe_int (nomark _)) (pss_one (ps_for PassesOwn.never rfl (pi_range1 (by rfl) m_range (pa_cons (pe_op op_mod (pe_callTy call_int1 (by rfl) m_int (by decide +kernel) (pa_cons (pe_op op_fdiv (pe_callTy call_int1 (by rfl) m_int (by decide +kernel) (pa_cons (pv 0) pa_nil)) pe_int) pa_nil)) pe_int) pa_nil)) (pg_name (i := 3) sc_first.nd rfl (by first | exact .inl rfl | exact .inr rfl))
        (pss_one (ps_set (i := 2) sc_first.nd rfl (by first | exact .inl rfl | exact .inr rfl) (pe_op op_add (pe_op op_mul (pv 2) pe_int) (pe_op op_mod (pe_callTy call_int1 (by rfl) m_int (by decide +kernel) (pa_cons (pe_op op_fdiv (pe_callTy call_int1 (by rfl) m_int (by decide +kernel) (pa_cons (pv 0) pa_nil)) (pe_op op_add (pv 3) pe_int)) pa_nil)) pe_int)))))) pss_nil)
      (pss_cut (ps_if (pt_cmpR op_eq (pe_op op_mod (pe_callTy call_int1 (by rfl) m_int (by decide +kernel) (pa_cons (pv 0) pa_nil)) pe_int) pe_int (nomark _)) (pss_cons (ps_set (i := 2) sc_first.nd rfl (by first | exact .inl rfl | exact .inr rfl) (pe_op op_sub (pe_op op_sub (pe_op op_pow pe_int pe_int) pe_int) (pv 1)))
      (pss_one (ps_if (pt_cmpR op_eq (pe_op op_mod (pe_callTy call_int1 (by rfl) m_int (by decide +kernel) (pa_cons (pe_op op_fdiv (pe_callTy call_int1 (by rfl) m_int (by decide +kernel) (pa_cons (pv 0) pa_nil)) pe_int) pa_nil)) pe_int) pe_int (nomark _)) (pss_one (ps_set (i := 2) sc_first.nd rfl (by first | exact .inl rfl | exact .inr rfl) (pe_op op_sub (pe_op op_add (pv 1) pe_int) (pe_op op_pow pe_int pe_int)))) pss_nil))) pss_nil)
      (pss_one (ps_ret (pv 2)))))), ?_⟩
    walk_at "go"
    refine ⟨fun σ' H' => H' = H ∧ ∃ (x : Int) (v3 : Option V), σ' = [some (.int d), some (.int r), some (.int x), v3], ?_, ?_⟩
    · walk_at "go"
      refine ite2 (fun e => ?_) (fun e => ?_)
      rotate_left
      · exact ⟨rfl, _, _, rfl⟩
      walk_at "go"
      refine for_gen (n := (d / 328 % 37).toNat) (fun i σ H1 => H1 = H ∧ ∃ (x : Int) (v3 : Option V), σ = [some (.int d), some (.int r), some (.int x), v3]) ⟨rfl, _, none, rfl⟩ (fun i σ H1 hi _ => hi) (fun σ H1 _ => Nat.le_refl _) ?_ (fun σ H1 h => h)
      rintro i σ H1 x H' hi ⟨rfl, x2, v3, rfl⟩ ⟨rfl, rfl⟩
      walk_at "go"
      exact ⟨_, _, rfl⟩
    rintro σ' H1 ⟨e1, x, v3, rfl⟩
    rw [e1]
    clear e1 H1
    refine ⟨fun σ' H' => H' = H ∧ ∃ (x : Int) (v3 : Option V), σ' = [some (.int d), some (.int r), some (.int x), v3], ?_, ?_⟩
    · walk_at "go"
      refine ite2 (fun e => ?_) (fun e => ?_)
      rotate_left
      · exact ⟨rfl, _, _, rfl⟩
      walk_at "go"
      refine ite2 (fun e => ?_) (fun e => ?_)
      rotate_left
      · exact ⟨rfl, _, _, rfl⟩
      walk_at "go"
      exact ⟨_, _, rfl⟩
    rintro σ' H1 ⟨e1, x, v3, rfl⟩
    rw [e1]
    walk_at "go"
    exact q x
def spSize (K : PySem.W.Frag) : Sp := fun vs H Q _ => ∃ (a p : Addr) (n m : Nat) (ds : List Int), vs = [.ref a, .ref p, .int (m : Int)] ∧ Tk K a p ds n H H ∧ 0 < m ∧ ∀ (r : Nat) H', Tk K a p ds n H H' → 0 < r → r ≤ m → Q (.int (r : Int)) H'
theorem ok_size (F : FnP K "_law_size" s_size f fd) (m_int : mg "int" = none) (c_take : Cal P w K mg base 1 "_law_take" (spTake K)) : FnOk P w K mg base CX0 2 f fd P_size (spSize K) := by
  refine F.ok sc_size (fun vs H Q E h => ?_) (fun cdv A outer s H vs Q E hr h => ?_)
  · obtain ⟨a, p, n, m, ds, rfl, _⟩ := h
    rfl
  · obtain ⟨a, p, n, m, ds, rfl, hT, hm, q⟩ := h
    refine ⟨_, PSs.nox (pss_one (ps_ret (pe_op op_add pe_int (pe_op op_mod (pe_callTy call_int1 (by rfl) m_int (by decide +kernel) (pa_cons (pe_cl c_take hr (by decide) (by rfl) (pa_cons (pv 0) (pa_cons (pv 1) pa_nil))) pa_nil)) (pv 2))))), ?_⟩
    walk_at "go"
    obtain ⟨mm, em⟩ := hT.pl
    refine ⟨a, p, n, mm, ds, rfl, SqL.of hT.hA, hT.hd, em, hT.ne, fun r r0 r1 => ?_⟩
    obtain ⟨hT', _⟩ := hT.next em
    walk_at "go"
    have h1 := Int.emod_nonneg r (show (m : Int) ≠ 0 by omega)
    have h2 := Int.emod_lt_of_pos r (show 0 < (m : Int) by omega)
    obtain ⟨c, hc⟩ := Int.eq_ofNat_of_zero_le (show 0 ≤ 1 + r % (m : Int) by omega)
    have z := q c _ hT' (by omega) (by omega)
    rw [← hc] at z
    exact z
end
end Z
set_option pp.maxSteps 700
set_option Elab.async false
set_option linter.all false
set_option maxRecDepth 100000
set_option maxHeartbeats 4000000
namespace Z
open Dy
open PySem PySem.Spec PyProof.Rows L2
open C8 (pss_cut tCut)
local macro_rules | `(tactic| walk_at "num") => `(tactic| first | rfl | omega | decide | exact Nat.le_of_lt (small1000 (by simp)) | exact ⟨by omega, by omega⟩ | exact ⟨by omega, by omega, by omega⟩ | exact ⟨by decide, by decide, by decide⟩ | exact Or.inl ⟨by omega, by omega⟩ | exact Or.inr ⟨by omega, by omega⟩)
local macro_rules | `(tactic| walk_at "go") => `(tactic| repeat (first | refine ⟨_, rfl, ?_⟩ | refine ⟨_, _, rfl, rfl, ?_⟩ | refine ⟨_, _, rfl, ?_⟩ | refine ⟨_, _, rfl, rfl, (by walk_at "num"), ?_⟩ | refine Or.inl ⟨_, rfl, ?_⟩ | refine ⟨_, _, _, _, rfl, rfl, (by assumption), (by rfl), ?_⟩ | refine ⟨_, _, _, _, _, rfl, (by assumption), (by assumption), (by assumption), (by rfl), ?_⟩ | refine ⟨rfl, ?_⟩ | refine And.intro (by walk_at "num") ?_))
section
variable {P : Program} {w : World} {K : PySem.W.Frag} {mg : Str → Option Value} {base : Heap} {f C CD : Addr} {fd : FuncData}
theorem getD_app_left {xs ys : List Int} {i : Nat} (h : i < xs.length) : (xs ++ ys).getD i 0 = xs.getD i 0 := by
  rw [List.getD_eq_getElem?_getD, List.getD_eq_getElem?_getD, List.getElem?_append_left h]
theorem getD_app_last {xs : List Int} {y : Int} : (xs ++ [y]).getD xs.length 0 = y := by
  rw [List.getD_eq_getElem?_getD, List.getElem?_append_right (Nat.le_refl _), Nat.sub_self]
  rfl
/-! ### _law_days -/
def spDays (K : PySem.W.Frag) : Sp := fun vs H Q _ => ∃ (a p : Addr) (n sz : Nat) (ds : List Int), vs = [.ref a, .ref p, .int (sz : Int)] ∧ Tk K a p ds n H H ∧ 0 < sz ∧ sz ≤ 1000 ∧ ∀ (L : Addr) H' (es : List Int), H L = none → L ≠ p → Tk K a p ds n H H' → H' L = some (.lst (es.map V.int)) → es.length = sz → Gd es → Q (.ref L) H'
theorem ok_days (F : FnP K "_law_days" s_days f fd) (m_int : mg "int" = none) (m_range : mg "range" = none) (m_min : mg "min" = none) (c_take : Cal P w K mg base 1 "_law_take" (spTake K)) (c_first : Cal P w K mg base 1 "_law_first" spFirst) : FnOk P w K mg base CX0 2 f fd P_days (spDays K) := by
  refine F.ok sc_days (fun vs H Q E h => ?_) (fun cdv A outer s H vs Q E hr h => ?_)
  · obtain ⟨a, p, n, sz, ds, rfl, _⟩ := h
    rfl
  · obtain ⟨a, p, n, sz, ds, rfl, hT, hz0, hz1, q⟩ := h
    refine ⟨_, PSs.nox (pss_cons (ps_set (i := 3) sc_days.nd rfl (by first | exact .inl rfl | exact .inr rfl) (pe_cl c_first hr (by decide) (by rfl) (pa_cons (pe_cl c_take hr (by decide) (by rfl) (pa_cons (pv 0) (pa_cons (pv 1) pa_nil))) (pa_cons (pe_op op_add (pe_op op_mul pe_int (pv 2)) pe_int) pa_nil))))
      (pss_cons (ps_set (i := 4) sc_days.nd rfl (by first | exact .inl rfl | exact .inr rfl) (pv 2))
      (pss_cons (ps_set (i := 5) sc_days.nd rfl (by first | exact .inl rfl | exact .inr rfl) (pe_lst (pa_cons (pv 3) pa_nil)))
      (pss_cons (ps_for PassesOwn.never rfl (pi_range1 (by rfl) m_range (pa_cons (pe_op op_sub (pv 2) pe_int) pa_nil)) (pg_name (i := 6) sc_days.nd rfl (by first | exact .inl rfl | exact .inr rfl))
        (pss_cons (ps_set (i := 7) sc_days.nd rfl (by first | exact .inl rfl | exact .inr rfl) (pe_callTy call_int1 (by rfl) m_int (by decide +kernel) (pa_cons (pe_cl c_take hr (by decide) (by rfl) (pa_cons (pv 0) (pa_cons (pv 1) pa_nil))) pa_nil)))
      (pss_cons (ps_set (i := 8) sc_days.nd rfl (by first | exact .inl rfl | exact .inr rfl) (pe_callB (call_min2 rfl) (by rfl) m_min (by decide +kernel) (pa_cons (pv 4) (pa_cons (pe_ix ix_list (pe_lst (pa_cons pe_int (pa_cons pe_int (pa_cons pe_int (pa_cons pe_int (pa_cons pe_int (pa_cons pe_int (pa_cons (pe_op op_mod (pe_callTy call_int1 (by rfl) m_int (by decide +kernel) (pa_cons (pe_op op_fdiv (pv 7) pe_int) pa_nil)) pe_int) (pa_cons (pe_op op_mod (pe_callTy call_int1 (by rfl) m_int (by decide +kernel) (pa_cons (pe_op op_fdiv (pv 7) pe_int) pa_nil)) (pe_op op_add (pv 4) pe_int)) pa_nil))))))))) (pe_op op_mod (pe_callTy call_int1 (by rfl) m_int (by decide +kernel) (pa_cons (pv 7) pa_nil)) pe_int) (fun _ _ => rfl)) pa_nil))))
      (pss_cons (ps_set (i := 3) sc_days.nd rfl (by first | exact .inl rfl | exact .inr rfl) (pe_op op_add (pv 3) (pv 8)))
      (pss_cons (ps_set (i := 4) sc_days.nd rfl (by first | exact .inl rfl | exact .inr rfl) (pe_op op_sub (pv 4) (pv 8)))
      (pss_one (ps_expr (pe_bm PySem.F.plainAttrs_list PySem.F.slot_list_append PySem.F.type_list_append mt_append (pv 5) (pa_cons (pv 3) pa_nil)))))))))
      (pss_one (ps_ret (pv 5))))))), ?_⟩
    walk_at "go"
    obtain ⟨mm, em⟩ := hT.pl
    refine ⟨a, p, n, mm, ds, rfl, SqL.of hT.hA, hT.hd, em, hT.ne, fun r r0 r1 => ?_⟩
    obtain ⟨hT1, _⟩ := hT.next em
    generalize upd H p (.lst [.int ((mm + 1 : Nat) : Int)]) = H1 at hT1 ⊢
    walk_at "go"
    intro x0
    walk_at "go"
    intro L nL
    have sL := same_new (o := .lst [.int x0]) nL
    have hT2 := hT1.more sL
    have eL := upd_same (H := H1) (a := L) (o := .lst [.int x0])
    obtain ⟨m1, em1⟩ := hT1.pl
    have Lp : L ≠ p := (ne_of_none em1 nL).symm
    have nHL : H L = none := by
      cases e : H L with
      | none => rfl
      | some o =>
        have := hT1.sb L o Lp e
        rw [nL] at this
        cases this
    generalize upd H1 L (.lst [.int x0]) = H2 at hT2 eL ⊢
    walk_at "go"
    refine for_gen (n := sz - 1) (fun i σ H3 => ∃ (es : List Int) (x l : Int) (v7 v8 v9 : Option V), Tk K a p ds n H H3 ∧ H3 L = some (.lst (es.map V.int)) ∧ es.length = i + 1 ∧ (∀ j, j < i → es.getD j 0 ≤ es.getD (j + 1) 0) ∧ es.getD i 0 = x ∧ 0 ≤ l ∧ x - es.getD 0 0 + l = sz ∧ σ = [some (.ref a), some (.ref p), some (.int (sz : Int)), some (.int x), some (.int l), some (.ref L), v7, v8, v9]) ⟨[x0], x0, sz, none, none, none, hT2, eL, rfl, (fun j hj => by omega), rfl, by omega, (by show x0 - x0 + (sz : Int) = sz; omega), rfl⟩ ?_ ?_ ?_ ?_
    · intro i σ H3 hi _
      show i < ((sz : Int) - 1).toNat
      omega
    · intro σ H3 _
      show ((sz : Int) - 1).toNat ≤ sz - 1
      omega
    · rintro i σ H3 x H' hi ⟨es, x, l, v7, v8, v9, hT3, eL3, el, ea, ex, l0, ed, rfl⟩ ⟨rfl, rfl⟩
      walk_at "go"
      obtain ⟨mm, em⟩ := hT3.pl
      refine ⟨a, p, n, mm, ds, rfl, SqL.of hT3.hA, hT3.hd, em, hT3.ne, fun r r0 r1 => ?_⟩
      obtain ⟨hT4, sb4⟩ := hT3.next em
      have eL4 := sb4 _ _ Lp eL3
      generalize upd H' p (.lst [.int ((mm + 1 : Nat) : Int)]) = H4 at hT4 eL4 ⊢
      walk_at "go"
      intro B nB
      have sB := same_new (o := .lst [.int 1, .int 1, .int 1, .int 0, .int 0, .int 2, .int (r / 8 % 4), .int (r / 8 % (l + 1))]) nB
      have eB : SqL K (upd H4 B (.lst [.int 1, .int 1, .int 1, .int 0, .int 0, .int 2, .int (r / 8 % 4), .int (r / 8 % (l + 1))])) B (([1, 1, 1, 0, 0, 2, r / 8 % 4, r / 8 % (l + 1)] : List Int).map V.int) := SqL.of upd_same
      have hT5 := hT4.more sB
      have eL5 := sB _ _ eL4
      generalize upd H4 B (.lst [.int 1, .int 1, .int 1, .int 0, .int 0, .int 2, .int (r / 8 % 4), .int (r / 8 % (l + 1))]) = H5 at hT5 eL5 eB ⊢
      obtain ⟨y, y0, ey⟩ : ∃ y : Int, 0 ≤ y ∧ atI (([1, 1, 1, 0, 0, 2, r / 8 % 4, r / 8 % (l + 1)] : List Int).map V.int) (r % 8) = some (.int y) := by
        have hp : ∀ y ∈ ([1, 1, 1, 0, 0, 2, r / 8 % 4, r / 8 % (l + 1)] : List Int), 0 ≤ y := by
          have h1 : 0 ≤ r / 8 % (l + 1) := Int.emod_nonneg _ (by omega)
          intro y hy
          simp only [List.mem_cons, List.not_mem_nil, or_false] at hy
          omega
        have hj : (r % 8).toNat < ([1, 1, 1, 0, 0, 2, r / 8 % 4, r / 8 % (l + 1)] : List Int).length := by
          show (r % 8).toNat < 8
          omega
        refine ⟨_, hp _ (List.getElem_mem hj), at_of (j := (r % 8).toNat) (by omega) ?_⟩
        rw [List.getElem?_map, List.getElem?_eq_getElem hj]
        rfl
      walk_at "go"
      refine ⟨B, _, _, _, rfl, rfl, eB, ey, ?_⟩
      walk_at "go"
      refine ⟨.inl ⟨rfl, _, .inl (.inl eL5)⟩, ?_⟩
      walk_at "go"
      refine ⟨_, _, _, rfl, rfl, eL5, ?_, ?_⟩
      · rw [List.length_map, el]
        exact Nat.lt_of_le_of_lt (show i + 1 ≤ 1000 by omega) (by decide)
      have hst : 0 ≤ (if y < l then y else l) ∧ (if y < l then y else l) ≤ l := by split <;> omega
      generalize (if y < l then y else l) = st at hst
      have sbL : SB L H5 (upd H5 L (.lst (es.map V.int ++ [.int (x + st)]))) := SB.upd (Z.Same.sb (Same.refl _))
      have aL : a ≠ L := fun z => by
        have := hT.hA
        rw [z, nHL] at this
        cases this
      have hT6 : Tk K a p ds n H (upd H5 L (.lst (es.map V.int ++ [.int (x + st)]))) := hT5.mut nHL sbL Lp (sbL _ _ aL hT5.hA)
      refine ⟨es ++ [x + st], x + st, l - st, _, _, _, hT6, by rw [upd_same, List.map_append]; rfl, by rw [List.length_append, el]; rfl, fun j hj => ?_, ?_, by omega, ?_, rfl⟩
      · by_cases c : j < i
        · rw [getD_app_left (by omega), getD_app_left (by omega)]
          exact ea j c
        · obtain rfl : j = i := by omega
          rw [getD_app_left (by omega), ← el, getD_app_last, ex]
          omega
      · rw [← el]
        exact getD_app_last
      · rw [getD_app_left (by omega)]
        omega
    · rintro σ H3 ⟨es, x, l, v7, v8, v9, hT3, eL3, el, ea, ex, l0, ed, rfl⟩
      walk_at "go"
      refine q L H3 es nHL Lp hT3 eL3 (by omega) ⟨by omega, fun j hj => ea j (by omega), ?_⟩
      rw [el, show sz - 1 + 1 - 1 = sz - 1 by omega, ex]
      omega
end
end Z
set_option pp.maxSteps 700
set_option Elab.async false
set_option linter.all false
set_option maxRecDepth 100000
set_option maxHeartbeats 4000000
namespace Z
open Dy
open PySem PySem.Spec PyProof.Rows L2
open C8 (pss_cut tCut)
local macro_rules | `(tactic| walk_at "num") => `(tactic| first | rfl | omega | decide | exact Nat.le_of_lt (small1000 (by simp)) | exact ⟨by omega, by omega⟩ | exact ⟨by omega, by omega, by omega⟩ | exact ⟨by decide, by decide, by decide⟩ | exact Or.inl ⟨by omega, by omega⟩ | exact Or.inr ⟨by omega, by omega⟩)
local macro_rules | `(tactic| walk_at "go") => `(tactic| repeat (first | refine ⟨_, rfl, ?_⟩ | refine ⟨_, _, rfl, rfl, ?_⟩ | refine ⟨_, _, rfl, ?_⟩ | refine ⟨_, _, rfl, rfl, (by walk_at "num"), ?_⟩ | refine Or.inl ⟨_, rfl, ?_⟩ | refine ⟨_, _, _, _, rfl, rfl, (by assumption), (by rfl), ?_⟩ | refine ⟨_, _, _, _, _, rfl, (by assumption), (by assumption), (by assumption), (by rfl), ?_⟩ | refine ⟨rfl, ?_⟩ | refine And.intro (by walk_at "num") ?_))
abbrev s_written : Stmt := topS 28
abbrev N_written : List Str := ["_law_draws_here", "_law_most", "_law_place", "_law_base", "_law_kind", "_law_days_here", "_law_at", "_law_roof"]
abbrev P_written : List Str := ["_law_draws_here", "_law_most"]
theorem sc_written : FnScope N_written P_written (defScope s_written) := ⟨rfl, rfl, rfl, by decide +kernel, rfl, by decide +kernel, by decide +kernel⟩
def ovr (ds : List Int) (m : Nat) : List Int := (List.range m).map fun (k : Nat) => dv ds (k : Int)
theorem ovr_len (ds : List Int) (m : Nat) : (ovr ds m).length = m := by
  unfold ovr
  rw [List.length_map, List.length_range]
theorem ovr_at {ds : List Int} {m i : Nat} (h : i < m) : (ovr ds m).getD i 0 = dv ds (i : Int) := by
  unfold ovr
  rw [List.getD_eq_getElem?_getD, List.getElem?_map, List.getElem?_range h]
  rfl
theorem ovr_of {ds : List Int} {k : Nat} (hp : 0 < ds.length) (hk : 0 < k) : Of (dv ds) (ovr ds (ds.length * k)) := by
  have h := of_dv hp
  refine ⟨?_, ?_, fun i hi => ?_⟩
  · rw [ovr_len]
    exact Nat.mul_pos hp hk
  · rw [ovr_len]
    intro d
    have := h.per.mul k d
    rw [Int.natCast_mul, Int.mul_comm]
    exact this
  · rw [ovr_len] at hi
    exact ovr_at hi
theorem Gd.step {ds : List Int} (g : Gd ds) (d : Int) : dv ds d ≤ dv ds (d + 1) := by
  have hp := g.pos
  have hn : 0 < (ds.length : Int) := by omega
  have h1 := Int.emod_nonneg d (show (ds.length : Int) ≠ 0 by omega)
  have h2 := Int.emod_lt_of_pos d hn
  have h3 := Int.emod_add_mul_ediv d (ds.length : Int)
  by_cases c : d % (ds.length : Int) + 1 < ds.length
  · have e1 : (d + 1) % (ds.length : Int) = d % (ds.length : Int) + 1 := by
      rw [Int.add_emod, Int.emod_eq_of_lt (a := 1) (by omega) (by omega), Int.emod_eq_of_lt (by omega) c]
    have e2 : (d + 1) / (ds.length : Int) = d / (ds.length : Int) := by
      have h4 := Int.emod_add_mul_ediv (d + 1) (ds.length : Int)
      rw [e1] at h4
      have h5 : (ds.length : Int) * ((d + 1) / (ds.length : Int)) = (ds.length : Int) * (d / (ds.length : Int)) := by omega
      exact Int.eq_of_mul_eq_mul_left (by omega) h5
    unfold dv
    rw [e1, e2]
    have := g.asc (d % (ds.length : Int)).toNat (by omega)
    rw [show (d % (ds.length : Int) + 1).toNat = (d % (ds.length : Int)).toNat + 1 by omega]
    omega
  · have e0 : d % (ds.length : Int) = ds.length - 1 := by omega
    have hper := (of_dv hp).per
    have e1 : d + 1 = 0 + (d / (ds.length : Int) + 1) * (ds.length : Int) := by
      rw [Int.add_mul, Int.one_mul, Int.mul_comm (d / _)]
      omega
    have e2 := hper.imul (d / (ds.length : Int) + 1) 0
    rw [← e1] at e2
    have e3 : dv ds 0 = ds.getD 0 0 := ((of_dv hp).at_ 0 hp).symm
    rw [e2, e3]
    unfold dv
    rw [e0, show ((ds.length : Int) - 1).toNat = ds.length - 1 by omega]
    have := g.fin
    rw [Int.add_mul, Int.one_mul, Int.mul_comm (ds.length : Int)]
    omega
theorem ovr_gd {ds : List Int} {k : Nat} (g : Gd ds) (hk : 0 < k) : Gd (ovr ds (ds.length * k)) := by
  have o := ovr_of g.pos hk
  refine ⟨o.pos, fun i hi => ?_, ?_⟩
  · rw [o.at_ i (by omega), o.at_ (i + 1) hi]
    exact g.step i
  · have hp := o.pos
    rw [o.at_ 0 hp, o.at_ _ (show (ovr ds (ds.length * k)).length - 1 < _ by omega)]
    have h1 := g.step (((ovr ds (ds.length * k)).length - 1 : Nat) : Int)
    have h2 := o.per 0
    rw [show (((ovr ds (ds.length * k)).length - 1 : Nat) : Int) + 1 = 0 + ((ovr ds (ds.length * k)).length : Int) by omega, h2] at h1
    exact h1
theorem getD_set {xs : List Int} {i j : Nat} {y : Int} (h : j < xs.length) : (xs.set i y).getD j 0 = if i = j then y else xs.getD j 0 := by
  rw [List.getD_eq_getElem?_getD, List.getElem?_set]
  split
  · rename_i e
    subst e
    rw [if_pos h]
    rfl
  · rw [List.getD_eq_getElem?_getD]
theorem Gd.raise {ds : List Int} {i : Nat} (g : Gd ds) (hi : i < ds.length) (h : ds.getD i 0 < (if i + 1 < ds.length then ds.getD (i + 1) 0 else ds.getD 0 0 + ds.length)) : Gd (ds.set i (ds.getD i 0 + 1)) := by
  have hp := g.pos
  have hf := g.fin
  refine ⟨by rw [List.length_set]; exact hp, fun j hj => ?_, ?_⟩
  · rw [List.length_set] at hj
    rw [getD_set (by omega), getD_set hj]
    have := g.asc j hj
    split
    · rename_i e
      subst e
      rw [if_pos hj] at h
      rw [if_neg (by omega)]
      omega
    · split
      · rename_i e
        rw [← e] at this
        omega
      · exact this
  · rw [List.length_set, getD_set (by omega), getD_set hp]
    split
    · rename_i e
      rw [if_neg (by omega)] at h
      split <;> omega
    · split
      · rename_i e
        subst e
        omega
      · exact hf
section
variable {P : Program} {w : World} {K : PySem.W.Frag} {mg : Str → Option Value} {base : Heap} {f C CD : Addr} {fd : FuncData}
def spOver (K : PySem.W.Frag) : Sp := fun vs H Q _ => ∃ (a : Addr) (ds : List Int) (m : Nat), vs = [.ref a, .int (m : Int)] ∧ SqL K H a (ds.map V.int) ∧ 0 < ds.length ∧ ds.length ≤ 1000 ∧ m ≤ 1000 ∧ ds.length * m ≤ 100000 ∧ ∀ (L : Addr) H', Same H H' → H L = none → H' L = some (.lst ((ovr ds (ds.length * m)).map V.int)) → Q (.ref L) H'
theorem ok_over (F : FnP K "_law_over" s_over f fd) (m_len : mg "len" = none) (m_int : mg "int" = none) (m_range : mg "range" = none) : FnOk P w K mg base CX0 1 f fd P_over (spOver K) := by
  refine F.ok sc_over (fun vs H Q E h => ?_) (fun cdv A outer s H vs Q E hr h => ?_)
  · obtain ⟨a, ds, m, rfl, _⟩ := h
    rfl
  · obtain ⟨a, ds, m, rfl, hS, hp, hl, hm, hz, q⟩ := h
    refine ⟨_, PSs.nox (pss_one (ps_ret (pe_lc (own := [("_law_k", 2)]) (g := (gName 2)) (tt := tYes) (by rfl) sc_over.nd (pi_range1 (by rfl) m_range (pa_cons (pe_op op_mul (pe_callB call_len_seq (by rfl) m_len PySem.boot_len (pa_cons (pv 0) pa_nil)) (pv 1)) pa_nil)) (blkOk_by (own := [("_law_k", 2)]) (N := N_over) (sc := defScope s_over) (by decide +kernel)) (fun _ _ _ _ _ => (pg_name (i := 2) sc_over.nd rfl (by first | exact .inl rfl | exact .inr rfl))) (fun _ _ _ _ _ => pts_nil) (fun _ _ _ _ _ => (pe_op op_add (pe_ix (ix_list_K (K := K) rfl) (pv 0) (pe_op op_mod (pe_callTy call_int1 (by rfl) m_int (by decide +kernel) (pa_cons (pv 2) pa_nil)) (pe_callB (call_len_seq_K (K := K) rfl) (by rfl) m_len PySem.boot_len (pa_cons (pv 0) pa_nil))) (fun _ _ => rfl)) (pe_op op_mul (pe_callB (call_len_seq_K (K := K) rfl) (by rfl) m_len PySem.boot_len (pa_cons (pv 0) pa_nil)) (pe_op op_fdiv (pv 2) (pe_callB (call_len_seq_K (K := K) rfl) (by rfl) m_len PySem.boot_len (pa_cons (pv 0) pa_nil))))))))), ?_⟩
    have em : (ds.length : Int) * (m : Int) = ((ds.length * m : Nat) : Int) := by rw [Int.natCast_mul]
    walk_at "go"
    refine ⟨a, _, rfl, .inl hS, ?_⟩
    rw [List.length_map]
    walk_at "go"
    intro L nL
    have eN : ((ds.length : Int) * (m : Int)).toNat = ds.length * m := by rw [em, Int.toNat_natCast]
    refine lc_gen (n := ds.length * m) (fun k H1 => Same H H1 ∧ H1 L = some (.lst ((ovr ds k).map V.int))) ⟨same_new nL, upd_same⟩ ?_ ?_ ?_ ?_
    · intro k H1 hk _
      show k < ((ds.length : Int) * (m : Int)).toNat
      rw [eN]
      exact hk
    · intro H1 _
      show ((ds.length : Int) * (m : Int)).toNat ≤ _
      rw [eN]
      exact Nat.le_refl _
    · rintro k H1 x H' hk ⟨s1, e1⟩ ⟨rfl, rfl⟩
      have hS1 := s1.seq hS
      have hk5 : k < 100000 := Nat.lt_of_lt_of_le hk hz
      have hn : 0 < (ds.length : Int) := by omega
      have h1 := Int.emod_nonneg (0 + (k : Int)) (show (ds.length : Int) ≠ 0 by omega)
      have h2 := Int.emod_lt_of_pos (0 + (k : Int)) hn
      have e : atI (ds.map V.int) ((0 + (k : Int)) % (ds.length : Int)) = some (.int (ds.getD ((0 + (k : Int)) % (ds.length : Int)).toNat 0)) := by
        have hj : ((0 + (k : Int)) % (ds.length : Int)).toNat < ds.length := by omega
        rw [← Int.toNat_of_nonneg h1, List.getD_eq_getElem?_getD, Int.toNat_natCast, List.getElem?_eq_getElem hj]
        exact at_map (List.getElem?_eq_getElem hj)
      walk_at "go"
      refine ⟨a, _, rfl, .inl hS1, ?_⟩
      rw [List.length_map]
      walk_at "go"
      refine ⟨a, _, _, _, rfl, rfl, hS1, e, ?_⟩
      walk_at "go"
      refine ⟨a, _, rfl, .inl hS1, ?_⟩
      rw [List.length_map]
      walk_at "go"
      refine ⟨a, _, rfl, .inl hS1, ?_⟩
      rw [List.length_map]
      walk_at "go"
      refine ⟨_, e1, ?_, Z.Same.mut s1 nL, ?_⟩
      · rw [List.length_map, ovr_len]
        exact Nat.lt_of_lt_of_le hk5 (by decide)
      · have e2 : ovr ds (k + 1) = ovr ds k ++ [dv ds (k : Int)] := by
          unfold ovr
          rw [List.range_succ, List.map_append]
          rfl
        rw [upd_same, e2, List.map_append]
        show some (HO.lst ((ovr ds k).map V.int ++ [V.int (dv ds (0 + (k : Int)))])) = _
        rw [Int.zero_add]
        rfl
    · rintro H1 ⟨s1, e1⟩
      exact q L H1 s1 nL e1
/-! ### _law_written -/
def spWritten (K : PySem.W.Frag) : Sp := fun vs H Q _ => ∃ (a : Addr) (n m : Nat) (ds : List Int), vs = [.ref a, .int (m : Int)] ∧ H a = some (.lst (ds.map V.int)) ∧ Dr n ds ∧ 0 < m ∧ m ≤ 400 ∧ ∀ (L : Addr) H' (es : List Int), Same H H' → H L = none → H' L = some (.lst (es.map V.int)) → es.length ≤ 400 → Gd es → Q (.ref L) H'
theorem ok_written (F : FnP K "_law_written" s_written f fd) (m_len : mg "len" = none) (m_int : mg "int" = none) (m_min : mg "min" = none) (c_take : Cal P w K mg base 1 "_law_take" (spTake K)) (c_size : Cal P w K mg base 2 "_law_size" (spSize K)) (c_days : Cal P w K mg base 2 "_law_days" (spDays K)) (c_over : Cal P w K mg base 1 "_law_over" (spOver K)) : FnOk P w K mg base CX0 3 f fd P_written (spWritten K) := by
  refine F.ok sc_written (fun vs H Q E h => ?_) (fun cdv A outer s H vs Q E hr h => ?_)
  · obtain ⟨a, n, m, ds, rfl, _⟩ := h
    rfl
  · obtain ⟨a, n, m, ds, rfl, hA, hd, hm0, hm1, q⟩ := h
    refine ⟨_, PSs.nox (pss_cons (ps_set (i := 2) sc_written.nd rfl (by first | exact .inl rfl | exact .inr rfl) (pe_lst (pa_cons pe_int pa_nil)))
      (pss_cons (ps_set (i := 3) sc_written.nd rfl (by first | exact .inl rfl | exact .inr rfl) (pe_cl c_days hr (by decide) (by rfl) (pa_cons (pv 0) (pa_cons (pv 2) (pa_cons (pe_cl c_size hr (by decide) (by rfl) (pa_cons (pv 0) (pa_cons (pv 2) (pa_cons (pv 1) pa_nil)))) pa_nil)))))
      (pss_cons (ps_set (i := 4) sc_written.nd rfl (by first | exact .inl rfl | exact .inr rfl) (pe_op op_mod (pe_callTy call_int1 (by rfl) m_int (by decide +kernel) (pa_cons (pe_cl c_take hr (by decide) (by rfl) (pa_cons (pv 0) (pa_cons (pv 2) pa_nil))) pa_nil)) pe_int))
      (pss_cons (ps_set (i := 5) sc_written.nd rfl (by first | exact .inl rfl | exact .inr rfl) (pe_cl c_over hr (by decide) (by rfl) (pa_cons (pv 3) (pa_cons (pe_callB (call_min2 rfl) (by rfl) m_min (by decide +kernel) (pa_cons (pe_op op_add pe_int (pe_op op_mod (pe_callTy call_int1 (by rfl) m_int (by decide +kernel) (pa_cons (pv 4) pa_nil)) pe_int)) (pa_cons (pe_op op_fdiv pe_int (pe_callB call_len_seq (by rfl) m_len PySem.boot_len (pa_cons (pv 3) pa_nil))) pa_nil))) pa_nil))))
      (pss_cons (ps_set (i := 6) sc_written.nd rfl (by first | exact .inl rfl | exact .inr rfl) (pe_op op_mod (pe_callTy call_int1 (by rfl) m_int (by decide +kernel) (pa_cons (pe_cl c_take hr (by decide) (by rfl) (pa_cons (pv 0) (pa_cons (pv 2) pa_nil))) pa_nil)) (pe_callB call_len_seq (by rfl) m_len PySem.boot_len (pa_cons (pv 5) pa_nil))))
      (pss_cons (ps_set (i := 7) sc_written.nd rfl (by first | exact .inl rfl | exact .inr rfl) (pe_op op_add (pe_ix ix_list (pv 5) pe_int (fun _ _ => rfl)) (pe_callB call_len_seq (by rfl) m_len PySem.boot_len (pa_cons (pv 5) pa_nil))))
      (pss_cut (ps_if (pt_cmpR op_lt (pe_op op_add (pv 6) pe_int) (pe_callB call_len_seq (by rfl) m_len PySem.boot_len (pa_cons (pv 5) pa_nil)) (nomark _)) (pss_one (ps_set (i := 7) sc_written.nd rfl (by first | exact .inl rfl | exact .inr rfl) (pe_ix ix_list (pv 5) (pe_op op_add (pv 6) pe_int) (fun _ _ => rfl)))) pss_nil)
      (pss_cut (ps_if (PW.pt (pw_and (pt_cmpR op_gt (pv 4) pe_int (nomark _)) (pw_and1 (pt_cmpR op_lt (pe_ix ix_list (pv 5) (pv 6) (fun _ _ => rfl)) (pv 7) (nomark _))))) (pss_one (ps_asg (pe_op op_add (pe_ix ix_list (pv 5) (pv 6) (fun _ _ => rfl)) pe_int) (pg_sub (pv 5) (pv 6) set_list))) pss_nil)
      (pss_one (ps_ret (pv 5))))))))))), ?_⟩
    walk_at "go"
    intro p np
    have sp := same_new (o := .lst [.int 0]) np
    have ap : a ≠ p := ne_of_none hA np
    have hT : Tk K a p ds n (upd H p (.lst [.int 0])) (upd H p (.lst [.int 0])) := ⟨sp _ _ hA, hd, ap, Z.Same.sb (Same.refl _), 0, upd_same⟩
    -- what stands of H through all
    have fr : ∀ H1, Tk K a p ds n (upd H p (.lst [.int 0])) H1 → Same H H1 := fun H1 t b o h => t.sb b o (ne_of_none h np) (sp b o h)
    generalize upd H p (.lst [.int 0]) = H0 at hT fr ⊢
    clear sp
    walk_at "go"
    refine ⟨a, p, n, m, ds, rfl, hT, hm0, fun sz H1 hT1 z0 z1 => ?_⟩
    walk_at "go"
    have hT1' : Tk K a p ds n H1 H1 := ⟨hT1.hA, hT1.hd, hT1.ne, Z.Same.sb (Same.refl _), hT1.pl⟩
    refine ⟨a, p, n, sz, ds, rfl, hT1', z0, by omega, fun B H2 bs nB Bp hT2 eB lB gB => ?_⟩
    have hT2 : Tk K a p ds n H0 H2 := ⟨hT2.hA, hT2.hd, hT2.ne, hT1.sb.trans hT2.sb, hT2.pl⟩
    walk_at "go"
    obtain ⟨mm, em⟩ := hT2.pl
    refine ⟨a, p, n, mm, ds, rfl, SqL.of hT2.hA, hT2.hd, em, hT2.ne, fun kd k0 k1 => ?_⟩
    obtain ⟨hT3, sb3⟩ := hT2.next em
    have eB3 := sb3 _ _ Bp eB
    generalize upd H2 p (.lst [.int ((mm + 1 : Nat) : Int)]) = H3 at hT3 eB3 ⊢
    walk_at "go"
    refine ⟨B, _, rfl, .inl (SqL.of eB3), ?_⟩
    rw [List.length_map, lB]
    walk_at "go"
    have hdv : (400 : Int) / (sz : Int) = ((400 / sz : Nat) : Int) := by rw [Int.natCast_ediv]; rfl
    have hq1 : 1 ≤ 400 / sz := (Nat.le_div_iff_mul_le z0).mpr (by omega)
    have hv : 1 ≤ (if (400 : Int) / (sz : Int) < 1 + kd % 6 % 3 then (400 : Int) / (sz : Int) else 1 + kd % 6 % 3) ∧ (if (400 : Int) / (sz : Int) < 1 + kd % 6 % 3 then (400 : Int) / (sz : Int) else 1 + kd % 6 % 3) ≤ ((400 / sz : Nat) : Int) ∧ (if (400 : Int) / (sz : Int) < 1 + kd % 6 % 3 then (400 : Int) / (sz : Int) else 1 + kd % 6 % 3) ≤ 3 := by
      rw [hdv]
      split <;> omega
    have ev : (fun i j : Int => V.int (if j < i then j else i)) (1 + kd % 6 % 3) (400 / (sz : Int)) = V.int (if (400 : Int) / (sz : Int) < 1 + kd % 6 % 3 then (400 : Int) / (sz : Int) else 1 + kd % 6 % 3) := rfl
    generalize (if (400 : Int) / (sz : Int) < 1 + kd % 6 % 3 then (400 : Int) / (sz : Int) else 1 + kd % 6 % 3) = v at hv ev
    obtain ⟨c, hc⟩ := Int.eq_ofNat_of_zero_le (show 0 ≤ v by omega)
    have hc1 : c * sz ≤ 400 := (Nat.le_div_iff_mul_le z0).mp (by omega)
    rw [Nat.mul_comm] at hc1
    refine ⟨B, bs, c, ?_, SqL.of eB3, by omega, by omega, by omega, by rw [lB]; omega, fun R H4 s4 nR eR => ?_⟩
    · show [V.ref B, V.int _] = [V.ref B, V.int (c : Int)]
      rw [hc]
    have gR := ovr_gd gB (k := c) (by omega)
    have lR : (ovr bs (bs.length * c)).length ≤ 400 := by
      rw [ovr_len, lB]
      omega
    generalize ovr bs (bs.length * c) = ws at eR gR lR
    have hT4 := hT3.more s4
    obtain ⟨m3, em3⟩ := hT3.pl
    have Rp : R ≠ p := (ne_of_none em3 nR).symm
    have nHR : H R = none := by
      cases e : H R with
      | none => rfl
      | some o =>
        have := fr _ hT3 R o e
        rw [nR] at this
        cases this
    have wp := gR.pos
    walk_at "go"
    obtain ⟨mm, em⟩ := hT4.pl
    refine ⟨a, p, n, mm, ds, rfl, SqL.of hT4.hA, hT4.hd, em, hT4.ne, fun r2 k2 k3 => ?_⟩
    obtain ⟨hT5, sb5⟩ := hT4.next em
    have eR5 := sb5 _ _ Rp eR
    generalize upd H4 p (.lst [.int ((mm + 1 : Nat) : Int)]) = H5 at hT5 eR5 ⊢
    have qR := SqL.of (K := K) eR5
    walk_at "go"
    refine ⟨R, _, rfl, .inl qR, ?_⟩
    rw [List.length_map]
    have hn : 0 < (ws.length : Int) := by omega
    have hj0 := Int.emod_nonneg r2 (show (ws.length : Int) ≠ 0 by omega)
    have hj1 := Int.emod_lt_of_pos r2 hn
    walk_at "go"
    obtain ⟨j, hj⟩ := Int.eq_ofNat_of_zero_le hj0
    rw [show (fun i j : Int => V.int (i % j)) r2 (ws.length : Int) = V.int (j : Int) by show V.int (r2 % (ws.length : Int)) = _; rw [hj]]
    have hjl : j < ws.length := by omega
    have at0 : ∀ {i : Int} {k : Nat}, k < ws.length → i = (k : Int) → atI (ws.map V.int) i = some (.int (ws.getD k 0)) := fun {i k} hk hi => by
      rw [hi, List.getD_eq_getElem?_getD, List.getElem?_eq_getElem hk]
      exact at_map (List.getElem?_eq_getElem hk)
    walk_at "go"
    refine ⟨R, _, _, _, rfl, rfl, qR, at0 (k := 0) wp rfl, ?_⟩
    walk_at "go"
    refine ⟨R, _, rfl, .inl qR, ?_⟩
    rw [List.length_map]
    walk_at "go"
    refine ⟨fun σ' H' => H' = H5 ∧ σ' = [some (.ref a), some (.int (m : Int)), some (.ref p), some (.ref B), some (.int (kd % 6)), some (.ref R), some (.int (j : Int)), some (.int (if j + 1 < ws.length then ws.getD (j + 1) 0 else ws.getD 0 0 + ws.length))], ?_, ?_⟩
    · walk_at "go"
      refine ⟨R, _, rfl, .inl qR, ?_⟩
      rw [List.length_map]
      walk_at "go"
      refine ite2 (fun e => ?_) (fun e => ?_)
      · have e : j + 1 < ws.length := by
          have := of_decide_eq_true e
          omega
        rw [if_pos e]
        walk_at "go"
        refine ⟨R, _, _, _, rfl, rfl, qR, at0 (k := j + 1) e (by omega), ?_⟩
        walk_at "go"
        rfl
      · have e : ¬ j + 1 < ws.length := fun z => e (decide_eq_true (by omega))
        rw [if_neg e]
        exact ⟨rfl, rfl⟩
    rintro σ' H6 ⟨e6, rfl⟩
    rw [e6]
    clear e6 H6
    have fr5 := fr _ hT5
    refine ⟨fun σ' H' => Same H H' ∧ (∃ es : List Int, H' R = some (.lst (es.map V.int)) ∧ es.length ≤ 400 ∧ Gd es) ∧ σ' = [some (.ref a), some (.int (m : Int)), some (.ref p), some (.ref B), some (.int (kd % 6)), some (.ref R), some (.int (j : Int)), some (.int (if j + 1 < ws.length then ws.getD (j + 1) 0 else ws.getD 0 0 + ws.length))], ?_, ?_⟩
    · walk_at "go"
      refine ite2 (fun e => ?_) (fun e => ?_)
      rotate_left
      · exact ⟨fr5, ⟨ws, eR5, lR, gR⟩, rfl⟩
      walk_at "go"
      refine ⟨R, _, _, _, rfl, rfl, qR, at0 (k := j) hjl rfl, ?_⟩
      walk_at "go"
      refine ite2 (fun e2 => ?_) (fun e2 => ?_)
      rotate_left
      · exact ⟨fr5, ⟨ws, eR5, lR, gR⟩, rfl⟩
      have e2 := of_decide_eq_true e2
      walk_at "go"
      refine ⟨R, _, _, _, rfl, rfl, qR, at0 (k := j) hjl rfl, ?_⟩
      walk_at "go"
      refine ⟨R, _, _, j, rfl, rfl, eR5, (by unfold ixN; rw [List.length_map, if_pos (by omega), if_pos (by omega)]; congr 1), ?_⟩
      refine ⟨Z.Same.mut fr5 nHR, ⟨ws.set j (ws.getD j 0 + 1), ?_, by rw [List.length_set]; exact lR, gR.raise hjl e2⟩, rfl⟩
      rw [upd_same, List.map_set]
    rintro σ' H6 ⟨s6, ⟨es, e6, l6, g6⟩, rfl⟩
    walk_at "go"
    exact q R H6 es s6 nHR e6 l6 g6
end
end Z
set_option pp.maxSteps 700
set_option Elab.async false
set_option linter.all false
set_option maxRecDepth 100000
set_option maxHeartbeats 4000000
namespace Z
open Dy
open PySem PySem.Spec PyProof.Rows L2
open C8 (pss_cut tCut)
local macro_rules | `(tactic| walk_at "num") => `(tactic| first | rfl | omega | decide | exact Nat.le_of_lt (small1000 (by simp)) | exact ⟨by omega, by omega⟩ | exact ⟨by omega, by omega, by omega⟩ | exact ⟨by decide, by decide, by decide⟩ | exact Or.inl ⟨by omega, by omega⟩ | exact Or.inr ⟨by omega, by omega⟩)
local macro_rules | `(tactic| walk_at "go") => `(tactic| repeat (first | refine ⟨_, rfl, ?_⟩ | refine ⟨_, _, rfl, rfl, ?_⟩ | refine ⟨_, _, rfl, ?_⟩ | refine ⟨_, _, rfl, rfl, (by walk_at "num"), ?_⟩ | refine Or.inl ⟨_, rfl, ?_⟩ | refine ⟨_, _, _, _, rfl, rfl, (by assumption), (by rfl), ?_⟩ | refine ⟨_, _, _, _, _, rfl, (by assumption), (by assumption), (by assumption), (by rfl), ?_⟩ | refine ⟨rfl, ?_⟩ | refine And.intro (by walk_at "num") ?_))
abbrev s_odd : Stmt := topS 29
abbrev N_odd : List Str := ["_law_draws_here", "_law_most", "_law_place", "_law_days_here", "_law_k", "_law_at", "_law_draw", "_law_near", "_law_end"]
abbrev P_odd : List Str := ["_law_draws_here", "_law_most"]
theorem sc_odd : FnScope N_odd P_odd (defScope s_odd) := ⟨rfl, rfl, rfl, by decide +kernel, rfl, by decide +kernel, by decide +kernel⟩
abbrev s_fault : Stmt := topS 30
abbrev N_fault : List Str := ["_law_days_here", "_law_k"]
abbrev P_fault : List Str := ["_law_days_here"]
theorem sc_fault : FnScope N_fault P_fault (defScope s_fault) := ⟨rfl, rfl, rfl, by decide +kernel, rfl, by decide +kernel, by decide +kernel⟩
abbrev s_told : Stmt := topS 31
abbrev N_told : List Str := ["_law_days_here", "_law_rule", "e"]
abbrev P_told : List Str := ["_law_days_here"]
theorem sc_told : FnScope N_told P_told (defScope s_told) := ⟨rfl, rfl, rfl, by decide +kernel, rfl, by decide +kernel, by decide +kernel⟩
abbrev s_is_refused : Stmt := topS 32
abbrev N_is_refused : List Str := ["_law_days_here", "e"]
abbrev P_is_refused : List Str := ["_law_days_here"]
theorem sc_is_refused : FnScope N_is_refused P_is_refused (defScope s_is_refused) := ⟨rfl, rfl, rfl, by decide +kernel, rfl, by decide +kernel, by decide +kernel⟩
theorem pick_int {ys : List Int} {i : Int} (h0 : 0 ≤ i) (h1 : i < ys.length) : ∃ y : Int, atI (ys.map V.int) i = some (.int y) := by
  have hj : i.toNat < ys.length := by omega
  refine ⟨ys[i.toNat], at_of (j := i.toNat) (by omega) ?_⟩
  rw [List.getElem?_map, List.getElem?_eq_getElem hj]
  rfl
section
variable {P : Program} {w : World} {K : PySem.W.Frag} {mg : Str → Option Value} {base : Heap} {f C CD CH CC : Addr} {fd : FuncData}
def spOdd (K : PySem.W.Frag) : Sp := fun vs H Q _ => ∃ (a : Addr) (n m : Nat) (ds : List Int), vs = [.ref a, .int (m : Int)] ∧ H a = some (.lst (ds.map V.int)) ∧ Dr n ds ∧ 0 < m ∧ m ≤ 400 ∧ ∀ (L : Addr) H' (es : List Int), Same H H' → H L = none → H' L = some (.lst (es.map V.int)) → es.length ≤ 400 → Q (.ref L) H'
theorem ok_odd (F : FnP K "_law_odd" s_odd f fd) (m_len : mg "len" = none) (m_int : mg "int" = none) (m_range : mg "range" = none) (c_take : Cal P w K mg base 1 "_law_take" (spTake K)) (c_size : Cal P w K mg base 2 "_law_size" (spSize K)) (c_days : Cal P w K mg base 2 "_law_days" (spDays K)) : FnOk P w K mg base CX0 3 f fd P_odd (spOdd K) := by
  refine F.ok sc_odd (fun vs H Q E h => ?_) (fun cdv A outer s H vs Q E hr h => ?_)
  · obtain ⟨a, n, m, ds, rfl, _⟩ := h
    rfl
  · obtain ⟨a, n, m, ds, rfl, hA, hd, hm0, hm1, q⟩ := h
    refine ⟨_, PSs.nox (pss_cons (ps_set (i := 2) sc_odd.nd rfl (by first | exact .inl rfl | exact .inr rfl) (pe_lst (pa_cons pe_int pa_nil)))
      (pss_cons (ps_if (pt_cmpR op_eq (pe_op op_mod (pe_callTy call_int1 (by rfl) m_int (by decide +kernel) (pa_cons (pe_cl c_take hr (by decide) (by rfl) (pa_cons (pv 0) (pa_cons (pv 2) pa_nil))) pa_nil)) pe_int) pe_int (nomark _)) (pss_one (ps_ret (pe_lst pa_nil))) pss_nil)
      (pss_cons (ps_set (i := 3) sc_odd.nd rfl (by first | exact .inl rfl | exact .inr rfl) (pe_cl c_days hr (by decide) (by rfl) (pa_cons (pv 0) (pa_cons (pv 2) (pa_cons (pe_cl c_size hr (by decide) (by rfl) (pa_cons (pv 0) (pa_cons (pv 2) (pa_cons (pv 1) pa_nil)))) pa_nil)))))
      (pss_cut (ps_for PassesOwn.never rfl (pi_range1 (by rfl) m_range (pa_cons (pe_op op_mod (pe_callTy call_int1 (by rfl) m_int (by decide +kernel) (pa_cons (pe_cl c_take hr (by decide) (by rfl) (pa_cons (pv 0) (pa_cons (pv 2) pa_nil))) pa_nil)) pe_int) pa_nil)) (pg_name (i := 4) sc_odd.nd rfl (by first | exact .inl rfl | exact .inr rfl))
        (pss_cons (ps_set (i := 5) sc_odd.nd rfl (by first | exact .inl rfl | exact .inr rfl) (pe_op op_mod (pe_callTy call_int1 (by rfl) m_int (by decide +kernel) (pa_cons (pe_cl c_take hr (by decide) (by rfl) (pa_cons (pv 0) (pa_cons (pv 2) pa_nil))) pa_nil)) (pe_callB call_len_seq (by rfl) m_len PySem.boot_len (pa_cons (pv 3) pa_nil))))
      (pss_cons (ps_set (i := 6) sc_odd.nd rfl (by first | exact .inl rfl | exact .inr rfl) (pe_callTy call_int1 (by rfl) m_int (by decide +kernel) (pa_cons (pe_cl c_take hr (by decide) (by rfl) (pa_cons (pv 0) (pa_cons (pv 2) pa_nil))) pa_nil)))
      (pss_cons (ps_set (i := 7) sc_odd.nd rfl (by first | exact .inl rfl | exact .inr rfl) (pe_op op_add pe_int (pe_op op_mod (pe_callTy call_int1 (by rfl) m_int (by decide +kernel) (pa_cons (pe_op op_fdiv (pv 6) pe_int) pa_nil)) pe_int)))
      (pss_cons (ps_set (i := 8) sc_odd.nd rfl (by first | exact .inl rfl | exact .inr rfl) (pe_op op_add (pe_ix ix_list (pv 3) pe_int (fun _ _ => rfl)) (pe_callB call_len_seq (by rfl) m_len PySem.boot_len (pa_cons (pv 3) pa_nil))))
      (pss_one (ps_asg (pe_ix ix_list (pe_lst (pa_cons (pe_op op_sub (pe_ix ix_list (pv 3) (pv 5) (fun _ _ => rfl)) (pv 7)) (pa_cons (pe_op op_add (pe_ix ix_list (pv 3) (pv 5) (fun _ _ => rfl)) (pv 7)) (pa_cons (pv 8) (pa_cons (pe_op op_add (pv 8) pe_int) (pa_cons (pe_op op_sub pe_int (pe_ix ix_list (pv 3) (pv 5) (fun _ _ => rfl))) pa_nil)))))) (pe_op op_mod (pe_callTy call_int1 (by rfl) m_int (by decide +kernel) (pa_cons (pv 6) pa_nil)) pe_int) (fun _ _ => rfl)) (pg_sub (pv 3) (pv 5) set_list))))))))
      (pss_one (ps_ret (pv 3))))))), ?_⟩
    walk_at "go"
    intro p np
    have sp := same_new (o := .lst [.int 0]) np
    have ap : a ≠ p := ne_of_none hA np
    have hT : Tk K a p ds n (upd H p (.lst [.int 0])) (upd H p (.lst [.int 0])) := ⟨sp _ _ hA, hd, ap, Z.Same.sb (Same.refl _), 0, upd_same⟩
    have fr : ∀ H1, Tk K a p ds n (upd H p (.lst [.int 0])) H1 → Same H H1 := fun H1 t b o h => t.sb b o (ne_of_none h np) (sp b o h)
    generalize upd H p (.lst [.int 0]) = H0 at hT fr ⊢
    clear sp
    walk_at "go"
    obtain ⟨mm, em⟩ := hT.pl
    refine ⟨a, p, n, mm, ds, rfl, SqL.of hT.hA, hT.hd, em, hT.ne, fun kd k0 k1 => ?_⟩
    obtain ⟨hT1, sb1⟩ := hT.next em
    generalize upd H0 p (.lst [.int ((mm + 1 : Nat) : Int)]) = H1 at hT1 ⊢
    walk_at "go"
    refine ite2 (fun e => ?_) (fun e => ?_)
    · walk_at "go"
      intro L nL
      have s2 := same_new (o := .lst []) nL
      have nHL : H L = none := by
        cases e : H L with
        | none => rfl
        | some o =>
          have := fr _ hT1 L o e
          rw [nL] at this
          cases this
      exact q L _ [] ((fr _ hT1).trans s2) nHL upd_same (by simp)
    walk_at "go"
    have hT1' : Tk K a p ds n H1 H1 := ⟨hT1.hA, hT1.hd, hT1.ne, Z.Same.sb (Same.refl _), hT1.pl⟩
    refine ⟨a, p, n, m, ds, rfl, hT1', hm0, fun sz H2 hT2 z0 z1 => ?_⟩
    have hT2 : Tk K a p ds n H0 H2 := ⟨hT2.hA, hT2.hd, hT2.ne, hT1.sb.trans hT2.sb, hT2.pl⟩
    walk_at "go"
    have hT2' : Tk K a p ds n H2 H2 := ⟨hT2.hA, hT2.hd, hT2.ne, Z.Same.sb (Same.refl _), hT2.pl⟩
    refine ⟨a, p, n, sz, ds, rfl, hT2', z0, by omega, fun R H3 es nR Rp hT3 eR lR gR => ?_⟩
    have hT3 : Tk K a p ds n H0 H3 := ⟨hT3.hA, hT3.hd, hT3.ne, hT2.sb.trans hT3.sb, hT3.pl⟩
    have nHR : H R = none := by
      cases e : H R with
      | none => rfl
      | some o =>
        have := fr _ hT2 R o e
        rw [nR] at this
        cases this
    have aR : a ≠ R := fun z => by
      have := hA
      rw [z, nHR] at this
      cases this
    have n0R : H0 R = none := by
      cases e : H0 R with
      | none => rfl
      | some o =>
        have := hT2.sb R o Rp e
        rw [nR] at this
        cases this
    clear gR
    walk_at "go"
    refine ⟨fun σ' H' => (∃ es : List Int, Tk K a p ds n H0 H' ∧ H' R = some (.lst (es.map V.int)) ∧ es.length = sz) ∧ ∃ v4 v5 v6 v7 v8 : Option V, σ' = [some (.ref a), some (.int (m : Int)), some (.ref p), some (.ref R), v4, v5, v6, v7, v8], ?_, ?_⟩
    rotate_left
    · rintro σ' H4 ⟨⟨es, hT4, e4, l4⟩, v4, v5, v6, v7, v8, rfl⟩
      walk_at "go"
      exact q R H4 es (fr _ hT4) nHR e4 (by omega)
    walk_at "go"
    obtain ⟨mm, em⟩ := hT3.pl
    refine ⟨a, p, n, mm, ds, rfl, SqL.of hT3.hA, hT3.hd, em, hT3.ne, fun r2 k2 k3 => ?_⟩
    obtain ⟨hT4, sb4⟩ := hT3.next em
    have eR4 := sb4 _ _ Rp eR
    generalize upd H3 p (.lst [.int ((mm + 1 : Nat) : Int)]) = H4 at hT4 eR4 ⊢
    walk_at "go"
    refine for_gen (n := (r2 % 4).toNat) (fun i σ' H' => (∃ es : List Int, Tk K a p ds n H0 H' ∧ H' R = some (.lst (es.map V.int)) ∧ es.length = sz) ∧ ∃ v4 v5 v6 v7 v8 : Option V, σ' = [some (.ref a), some (.int (m : Int)), some (.ref p), some (.ref R), v4, v5, v6, v7, v8]) ⟨⟨es, hT4, eR4, lR⟩, none, none, none, none, none, rfl⟩ (fun i σ H1 hi _ => hi) (fun σ H1 _ => Nat.le_refl _) ?_ (fun σ H1 h => h)
    rintro i σ H5 x H6 hi ⟨⟨es, hT5, eR5, lR5⟩, v4, v5, v6, v7, v8, rfl⟩ ⟨rfl, rfl⟩
    walk_at "go"
    obtain ⟨mm, em⟩ := hT5.pl
    refine ⟨a, p, n, mm, ds, rfl, SqL.of hT5.hA, hT5.hd, em, hT5.ne, fun r3 k4 k5 => ?_⟩
    obtain ⟨hT7, sb7⟩ := hT5.next em
    have eR7 := sb7 _ _ Rp eR5
    generalize upd H6 p (.lst [.int ((mm + 1 : Nat) : Int)]) = H7 at hT7 eR7 ⊢
    walk_at "go"
    refine ⟨R, _, rfl, .inl (SqL.of eR7), ?_⟩
    rw [List.length_map, lR5]
    have hj0 := Int.emod_nonneg r3 (show (sz : Int) ≠ 0 by omega)
    have hj1 := Int.emod_lt_of_pos r3 (show 0 < (sz : Int) by omega)
    walk_at "go"
    obtain ⟨j, hj⟩ := Int.eq_ofNat_of_zero_le hj0
    rw [show (fun i j : Int => V.int (i % j)) r3 (sz : Int) = V.int (j : Int) by show V.int (r3 % (sz : Int)) = _; rw [hj]]
    have hjl : j < es.length := by omega
    obtain ⟨mm, em⟩ := hT7.pl
    refine ⟨a, p, n, mm, ds, rfl, SqL.of hT7.hA, hT7.hd, em, hT7.ne, fun r4 k6 k7 => ?_⟩
    obtain ⟨hT8, sb8⟩ := hT7.next em
    have eR8 := sb8 _ _ Rp eR7
    generalize upd H7 p (.lst [.int ((mm + 1 : Nat) : Int)]) = H8 at hT8 eR8 ⊢
    have qR := SqL.of (K := K) eR8
    have at0 : ∀ {i : Int} {k : Nat}, k < es.length → i = (k : Int) → atI (es.map V.int) i = some (.int (es.getD k 0)) := fun {i k} hk hi => by
      rw [hi, List.getD_eq_getElem?_getD, List.getElem?_eq_getElem hk]
      exact at_map (List.getElem?_eq_getElem hk)
    walk_at "go"
    refine ⟨R, _, _, _, rfl, rfl, qR, at0 (k := 0) (by omega) rfl, ?_⟩
    walk_at "go"
    refine ⟨R, _, rfl, .inl qR, ?_⟩
    rw [List.length_map]
    walk_at "go"
    refine ⟨R, _, _, _, rfl, rfl, qR, at0 (k := j) hjl rfl, ?_⟩
    walk_at "go"
    refine ⟨R, _, _, _, rfl, rfl, qR, at0 (k := j) hjl rfl, ?_⟩
    walk_at "go"
    refine ⟨R, _, _, _, rfl, rfl, qR, at0 (k := j) hjl rfl, ?_⟩
    walk_at "go"
    intro B nB
    obtain ⟨y, ey⟩ := pick_int (ys := [es.getD j 0 - (1 + r4 / 5 % 4), es.getD j 0 + (1 + r4 / 5 % 4), es.getD 0 0 + es.length, es.getD 0 0 + es.length + 1, 0 - es.getD j 0]) (i := r4 % 5) (by omega) (by show r4 % 5 < 5; omega)
    walk_at "go"
    refine ⟨B, ([es.getD j 0 - (1 + r4 / 5 % 4), es.getD j 0 + (1 + r4 / 5 % 4), es.getD 0 0 + es.length, es.getD 0 0 + es.length + 1, 0 - es.getD j 0] : List Int).map V.int, _, _, rfl, rfl, SqL.of upd_same, ey, ?_⟩
    have s9 := same_new (o := .lst (([es.getD j 0 - (1 + r4 / 5 % 4), es.getD j 0 + (1 + r4 / 5 % 4), es.getD 0 0 + es.length, es.getD 0 0 + es.length + 1, 0 - es.getD j 0] : List Int).map V.int)) nB
    have hT9 := hT8.more s9
    have eR9 := s9 _ _ eR8
    walk_at "go"
    refine ⟨R, es.map V.int, _, j, rfl, rfl, eR9, (by unfold ixN; rw [List.length_map, if_pos (by omega), if_pos (by omega)]; congr 1), ?_⟩
    have sbR : ∀ G : Hp, SB R G (upd G R (.lst ((es.map V.int).set j (.int y)))) := fun G => SB.upd (Z.Same.sb (Same.refl _))
    exact ⟨⟨es.set j y, hT9.mut n0R (sbR _) Rp (sbR _ _ _ aR hT9.hA), by rw [upd_same, List.map_set], by rw [List.length_set]; exact lR5⟩, _, _, _, _, _, rfl⟩
/-! ### _law_fault -/
def fI (es : List Int) : Int := match fault es with
  | some i => i
  | none => -1
def spFault (K : PySem.W.Frag) : Sp := fun vs H Q _ => ∃ (a : Addr) (ds : List Int), vs = [.ref a] ∧ SqL K H a (ds.map V.int) ∧ ds.length ≤ 100000 ∧ Q (.int (fI ds)) H
theorem ok_fault (F : FnP K "_law_fault" s_fault f fd) (m_len : mg "len" = none) (m_range : mg "range" = none) : FnOk P w K mg base CX0 1 f fd P_fault (spFault K) := by
  refine F.ok sc_fault (fun vs H Q E h => ?_) (fun cdv A outer s H vs Q E hr h => ?_)
  · obtain ⟨a, ds, rfl, _⟩ := h
    rfl
  · obtain ⟨a, ds, rfl, hS, hl, q⟩ := h
    refine ⟨_, PSs.nox (pss_cons (ps_for PassesOwn.never rfl (pi_range2 (by rfl) m_range (pa_cons pe_int (pa_cons (pe_callB call_len_seq (by rfl) m_len PySem.boot_len (pa_cons (pv 0) pa_nil)) pa_nil))) (pg_name (i := 1) sc_fault.nd rfl (by first | exact .inl rfl | exact .inr rfl))
        (pss_one (ps_if (pt_cmpR op_lt (pe_ix ix_list (pv 0) (pv 1) (fun _ _ => rfl)) (pe_ix ix_list (pv 0) (pe_op op_sub (pv 1) pe_int) (fun _ _ => rfl)) (nomark _)) (pss_one (ps_ret (pv 1))) pss_nil)))
      (pss_cons (ps_if (PW.pt (pw_or (pt_cmpR op_eq (pe_callB call_len_seq (by rfl) m_len PySem.boot_len (pa_cons (pv 0) pa_nil)) pe_int (nomark _)) (pw_or1 (pt_cmpR op_gt (pe_ix ix_list (pv 0) (pe_op op_sub (pe_callB call_len_seq (by rfl) m_len PySem.boot_len (pa_cons (pv 0) pa_nil)) pe_int) (fun _ _ => rfl)) (pe_op op_add (pe_ix ix_list (pv 0) pe_int (fun _ _ => rfl)) (pe_callB call_len_seq (by rfl) m_len PySem.boot_len (pa_cons (pv 0) pa_nil))) (nomark _))))) (pss_one (ps_ret pe_int)) pss_nil)
      (pss_one (ps_ret (pe_op op_sub pe_int pe_int))))), ?_⟩
    have at0 : ∀ {i : Int} {k : Nat}, k < ds.length → i = (k : Int) → atI (ds.map V.int) i = some (.int (ds.getD k 0)) := fun {i k} hk hi => by
      rw [hi, List.getD_eq_getElem?_getD, List.getElem?_eq_getElem hk]
      exact at_map (List.getElem?_eq_getElem hk)
    walk_at "go"
    refine ⟨a, _, rfl, .inl hS, ?_⟩
    rw [List.length_map]
    walk_at "go"
    refine for_gen (n := ds.length - 1) (fun i σ H1 => H1 = H ∧ faultF ds (ds.length - 1) 1 = faultF ds (ds.length - 1 - i) (1 + i) ∧ ∃ v1 : Option V, σ = [some (.ref a), v1]) ⟨rfl, rfl, none, rfl⟩ ?_ ?_ ?_ ?_
    · intro i σ H1 hi _
      show i < ((ds.length : Int) - 1).toNat
      omega
    · intro σ H1 _
      show ((ds.length : Int) - 1).toNat ≤ ds.length - 1
      omega
    · rintro i σ H1 x H' hi ⟨rfl, e, v1, rfl⟩ ⟨rfl, rfl⟩
      rw [show ds.length - 1 - i = (ds.length - 1 - (i + 1)) + 1 by omega] at e
      have e : faultF ds (ds.length - 1) 1 = if ds.getD (1 + i) 0 < ds.getD (1 + i - 1) 0 then some (1 + i) else faultF ds (ds.length - 1 - (i + 1)) (1 + i + 1) := e
      rw [show 1 + i - 1 = i by omega] at e
      walk_at "go"
      refine ⟨a, _, _, _, rfl, rfl, hS, at0 (k := 1 + i) (by omega) (by omega), ?_⟩
      walk_at "go"
      refine ⟨a, _, _, _, rfl, rfl, hS, at0 (k := i) (by omega) (by omega), ?_⟩
      walk_at "go"
      refine ite2 (fun c => ?_) (fun c => ?_)
      · have c := of_decide_eq_true c
        rw [if_pos c] at e
        walk_at "go"
        have hf : fI ds = 1 + (i : Int) := by
          unfold fI fault
          rw [e]
          show ((1 + i : Nat) : Int) = _
          omega
        rw [hf] at q
        exact q
      · have c : ¬ ds.getD (1 + i) 0 < ds.getD i 0 := fun z => c (decide_eq_true z)
        rw [if_neg c] at e
        exact ⟨rfl, e, _, rfl⟩
    · rintro σ H1 ⟨rfl, e, v1, rfl⟩
      rw [Nat.sub_self] at e
      have ef : faultF ds (ds.length - 1) 1 = none := e
      have hf : fI ds = if ds.length = 0 ∨ ds.getD 0 0 + ds.length < ds.getD (ds.length - 1) 0 then 0 else -1 := by
        unfold fI fault
        rw [ef]
        dsimp only
        split <;> rename_i h <;> split at h <;> first | (cases h; rename_i h2; first | rw [if_pos h2]; rfl | rw [if_neg h2]) | cases h
      walk_at "go"
      refine ⟨a, _, rfl, .inl hS, ?_⟩
      rw [List.length_map]
      walk_at "go"
      refine ite2 (fun c => ?_) (fun c => ?_)
      · have c : ds.length = 0 := by
          have := V.int.inj (of_decide_eq_true c)
          omega
        rw [if_pos (.inl c)] at hf
        rw [hf] at q
        walk_at "go"
        exact q
      · have c : ¬ ds.length = 0 := fun z => c (decide_eq_true (by rw [z]; rfl))
        walk_at "go"
        refine ⟨a, _, rfl, .inl hS, ?_⟩
        rw [List.length_map]
        walk_at "go"
        refine ⟨a, _, _, _, rfl, rfl, hS, at0 (k := ds.length - 1) (by omega) (by omega), ?_⟩
        walk_at "go"
        refine ⟨a, _, _, _, rfl, rfl, hS, at0 (k := 0) (by omega) rfl, ?_⟩
        walk_at "go"
        refine ⟨a, _, rfl, .inl hS, ?_⟩
        rw [List.length_map]
        walk_at "go"
        refine ite2 (fun c2 => ?_) (fun c2 => ?_)
        · have c2 := of_decide_eq_true c2
          rw [if_pos (.inr c2)] at hf
          rw [hf] at q
          walk_at "go"
          exact q
        · have c2 : ¬ ds.getD (ds.length - 1) 0 > ds.getD 0 0 + ds.length := fun z => c2 (decide_eq_true z)
          rw [if_neg (by omega)] at hf
          rw [hf] at q
          walk_at "go"
          exact q
end
end Z
set_option pp.maxSteps 700
set_option Elab.async false
set_option linter.all false
set_option maxRecDepth 100000
set_option maxHeartbeats 4000000
namespace Z
open Dy
open PySem PySem.Spec PyProof.Rows L2
open C8 (pss_cut tCut)
local macro_rules | `(tactic| walk_at "num") => `(tactic| first | rfl | omega | decide | exact Nat.le_of_lt (small1000 (by simp)) | exact ⟨by omega, by omega⟩ | exact ⟨by omega, by omega, by omega⟩ | exact ⟨by decide, by decide, by decide⟩ | exact Or.inl ⟨by omega, by omega⟩ | exact Or.inr ⟨by omega, by omega⟩)
local macro_rules | `(tactic| walk_at "go") => `(tactic| repeat (first | refine ⟨_, rfl, ?_⟩ | refine ⟨_, _, rfl, rfl, ?_⟩ | refine ⟨_, _, rfl, ?_⟩ | refine ⟨_, _, rfl, rfl, (by walk_at "num"), ?_⟩ | refine Or.inl ⟨_, rfl, ?_⟩ | refine ⟨_, _, _, _, rfl, rfl, (by assumption), (by rfl), ?_⟩ | refine ⟨_, _, _, _, _, rfl, (by assumption), (by assumption), (by assumption), (by rfl), ?_⟩ | refine ⟨rfl, ?_⟩ | refine And.intro (by walk_at "num") ?_))
section
variable {P : Program} {w : World} {K : PySem.W.Frag} {mg : Str → Option Value} {base : Heap} {f C CD CH CC : Addr} {fd : FuncData}
/-! ### DayRule(..) where it is a rule; refused -/
def spTold (K : PySem.W.Frag) : Sp := fun vs H Q _ => ∃ (l : Addr) (es : List Int), vs = [.ref l] ∧ H l = some (.lst (es.map V.int)) ∧ es.length ≤ 400 ∧ (∀ i, fault es = some i → ∀ t H', Same H H' → H' t = some (.tup [.str "refused", .int (i : Int), .bl true]) → Q (.ref t) H') ∧
  (fault es = none → ∀ (p : Nat) t u H', Same H H' → Lp (dv es) p → H' t = some (.tup [.str "made", .ref u, .bl true]) → H' u = some (.tup ((es.take p).map V.int)) → Q (.ref t) H')
theorem ok_told (F : FnP K "_law_told" s_told f fd) (m_isinstance : mg "isinstance" = none) (cls : Cls K C) (n_days : NoAttr K C "days") (g_HouseError : mg "HouseError" = some (.ref CH)) (g_BadCount : mg "BadCount" = some (.ref CC)) (g_BadDays : mg "BadDays" = some (.ref CD)) (te : PySem.W.exmOne K (.ref CD) (.ref CD) = some true) (ec : ExcC K CD) (k1 : PySem.W.kitOne K (.ref CD) (.ref CH) = some true) (k2 : PySem.W.kitOne K (.ref CD) (.ref CC) = some false) (xf_BadDays : XfC K CD) (no_BadDays_at : PySem.W.findIn K (.ref CD) "at" = some none) (k_DayRule : MakX P w K mg base 4 "DayRule" C (spInit C CD K)) : FnOk P w K mg base CX0 6 f fd P_told (spTold K) := by
  refine F.ok sc_told (fun vs H Q E h => ?_) (fun cdv A outer s H vs Q E hr h => ?_)
  · obtain ⟨l, es, rfl, _⟩ := h
    rfl
  · obtain ⟨l, es, rfl, hL, hl, qe, q⟩ := h
    refine ⟨_, PSs.nox (pss_cons (ps_try_as (i := 2) rfl rfl sc_told.nd rfl rfl ⟨rfl, rfl, .inl g_BadDays⟩ takes0 (fun W pn xe tk po => (pss_one (ps_set (i := 1) sc_told.nd rfl (by first | exact .inl rfl | exact .inr rfl) (pe_mkE k_DayRule (fun σ => passAt tk σ) hr (by decide) (by rfl) (pa_cons (pv 0) pa_nil)))))
      (fun ex oe cls d pn hz hf => (pss_one (ps_ret (pe_tup (pa_cons pe_str (pa_cons (pe_xf xf_BadDays no_BadDays_at hz hf (pv 2)) (pa_cons (pe_and (pe_callB (call_isX hz hf) (by rfl) m_isinstance (by decide +kernel) (pa_cons (pv 2) (pa_cons (pe_glob (by rfl) g_HouseError relv_ref) pa_nil))) (pe_one (pe_not (pe_callB (call_isX hz hf) (by rfl) m_isinstance (by decide +kernel) (pa_cons (pv 2) (pa_cons (pe_glob (by rfl) g_BadCount relv_ref) pa_nil)))))) pa_nil))))))))
      (pss_one (ps_ret (pe_tup (pa_cons pe_str (pa_cons (pe_fld (pv 1) rfl) (pa_cons pe_bl pa_nil))))))), ?_⟩
    walk_at "go"
    intro n dx n1 n2 n3
    have s1 : Same H (upd (upd H dx (.own n)) n (.ins C dx [])) := Z.Same.mut (same_new n2) n1
    refine ⟨true, n, dx, l, es, rfl, upd_same, s1 _ _ hL, Nat.le_trans hl (by decide), fun hf p H1 sb lp r => ?_, fun i hf d nd => ?_⟩
    · have s2 : Same H H1 := fun b o h => sb b o (ne_of_none h n1) (s1 b o h)
      obtain ⟨dy, t, e1, e2⟩ := r
      refine ⟨rfl, ?_⟩
      walk_at "go"
      intro u nu
      have s3 := same_new (o := .tup [.str "made", .ref t, .bl true]) nu
      exact q hf p u t _ (s2.trans s3) lp upd_same (s3 _ _ e2)
    · have s2 := s1.trans (same_new (o := .xd [("at", .int (i : Int))]) nd)
      refine ⟨true, te, fun _ a na => ?_, (fun z => by cases z)⟩
      walk_at "go"
      refine ⟨d, _, _, rfl, upd_same, rfl, ?_⟩
      walk_at "go"
      refine ⟨CD, d, _, .ref CH, .ref CH, true, rfl, rfl, ec, upd_same, rfl, (fun u z => by cases z; rfl), k1, ?_⟩
      walk_at "go"
      refine ⟨CD, d, _, .ref CC, .ref CC, false, rfl, rfl, ec, upd_same, rfl, (fun u z => by cases z; rfl), k2, ?_⟩
      walk_at "go"
      intro u nu
      exact qe i hf u _ (s2.trans (same_new nu)) upd_same
def spRefusedD (K : PySem.W.Frag) : Sp := fun vs H Q _ => ∃ (b : Bool) (l : Addr) (es : List Int) (i : Nat), vs = [.ref l] ∧ H l = some (bO b (es.map V.int)) ∧ es.length ≤ 400 ∧ fault es = some i ∧ ∀ H', Same H H' → Q (.bl true) H'
theorem ok_is_refused (F : FnP K "_law_is_refused" s_is_refused f fd) (m_isinstance : mg "isinstance" = none) (m_ValueError : mg "ValueError" = none) (g_HouseError : mg "HouseError" = some (.ref CH)) (g_BadDays : mg "BadDays" = some (.ref CD)) (te : PySem.W.exmOne K (.ref CD) (.ref CH) = some true) (ec : ExcC K CD) (k1 : PySem.W.kitOne K (.ref CD) (.type "ValueError") = some true) (k2 : PySem.W.kitOne K (.ref CD) (.ref CD) = some true) (k_DayRule : MakX P w K mg base 4 "DayRule" C (spInit C CD K)) : FnOk P w K mg base CX0 6 f fd P_is_refused (spRefusedD K) := by
  refine F.ok sc_is_refused (fun vs H Q E h => ?_) (fun cdv A outer s H vs Q E hr h => ?_)
  · obtain ⟨b, l, es, i, rfl, _⟩ := h
    rfl
  · obtain ⟨b, l, es, i, rfl, hL, hl, hf, q⟩ := h
    refine ⟨_, PSs.nox (pss_cons (ps_try_as (i := 1) rfl rfl sc_is_refused.nd rfl rfl ⟨rfl, rfl, .inl g_HouseError⟩ takes0 (fun W pn xe tk po => (pss_one (ps_expr (pe_mkE k_DayRule (fun σ => passAt tk σ) hr (by decide) (by rfl) (pa_cons (pv 0) pa_nil)))))
      (fun ex oe cls d pn hz hf => (pss_one (ps_ret (pe_and (pe_callB (call_isX hz hf) (by rfl) m_isinstance (by decide +kernel) (pa_cons (pv 1) (pa_cons (pe_bltn (v := .ty "ValueError") (by rfl) m_ValueError (by decide +kernel) rfl) pa_nil))) (pe_one (pe_callB (call_isX hz hf) (by rfl) m_isinstance (by decide +kernel) (pa_cons (pv 1) (pa_cons (pe_glob (by rfl) g_BadDays relv_ref) pa_nil)))))))))
      (pss_one (ps_ret pe_bl))), ?_⟩
    walk_at "go"
    intro n dx n1 n2 n3
    have s1 : Same H (upd (upd H dx (.own n)) n (.ins C dx [])) := Z.Same.mut (same_new n2) n1
    refine ⟨b, n, dx, l, es, rfl, upd_same, s1 _ _ hL, Nat.le_trans hl (by decide), (fun hf' => by rw [hf] at hf'; cases hf'), fun i hf d nd => ?_⟩
    have s2 := s1.trans (same_new (o := .xd [("at", .int (i : Int))]) nd)
    refine ⟨true, te, fun _ a na => ?_, (fun z => by cases z)⟩
    walk_at "go"
    refine ⟨CD, d, _, .ty "ValueError", .type "ValueError", true, rfl, rfl, ec, upd_same, rfl, (fun u z => by cases z; rfl), k1, ?_⟩
    walk_at "go"
    refine ⟨CD, d, _, .ref CD, .ref CD, true, rfl, rfl, ec, upd_same, rfl, (fun u z => by cases z; rfl), k2, ?_⟩
    walk_at "go"
    exact q _ s2
end
end Z
set_option pp.maxSteps 700
set_option Elab.async false
set_option linter.all false
set_option maxRecDepth 100000
set_option maxHeartbeats 4000000
namespace Z
open Dy
open PySem PySem.Spec PyProof.Rows L2
open C8 (pss_cut tCut)
local macro_rules | `(tactic| walk_at "num") => `(tactic| first | rfl | omega | decide | exact Nat.le_of_lt (small1000 (by simp)) | exact ⟨by omega, by omega⟩ | exact ⟨by omega, by omega, by omega⟩ | exact ⟨by decide, by decide, by decide⟩ | exact Or.inl ⟨by omega, by omega⟩ | exact Or.inr ⟨by omega, by omega⟩)
local macro_rules | `(tactic| walk_at "go") => `(tactic| repeat (first | refine ⟨_, rfl, ?_⟩ | refine ⟨_, _, rfl, rfl, ?_⟩ | refine ⟨_, _, rfl, ?_⟩ | refine ⟨_, _, rfl, rfl, (by walk_at "num"), ?_⟩ | refine Or.inl ⟨_, rfl, ?_⟩ | refine ⟨_, _, _, _, rfl, rfl, (by assumption), (by rfl), ?_⟩ | refine ⟨_, _, _, _, _, rfl, (by assumption), (by assumption), (by assumption), (by rfl), ?_⟩ | refine ⟨rfl, ?_⟩ | refine And.intro (by walk_at "num") ?_))
abbrev s_bound_holds : Stmt := topS 33
abbrev N_bound_holds : List Str := ["_law_day", "_law_top", "_law_high", "_law_low"]
abbrev P_bound_holds : List Str := ["_law_day"]
theorem sc_bound_holds : FnScope N_bound_holds P_bound_holds (defScope s_bound_holds) := ⟨rfl, rfl, rfl, by decide +kernel, rfl, by decide +kernel, by decide +kernel⟩
abbrev s_asked : Stmt := topS 34
abbrev N_asked : List Str := ["_law_script", "_law_many", "_law_far", "_law_k", "_law_found", "_law_cell_here", "_law_day"]
abbrev P_asked : List Str := ["_law_script", "_law_many"]
theorem sc_asked : FnScope N_asked P_asked (defScope s_asked) := ⟨rfl, rfl, rfl, by decide +kernel, rfl, by decide +kernel, by decide +kernel⟩
abbrev s_odd_holds : Stmt := topS 35
abbrev N_odd_holds : List Str := ["_law_odd_here", "_law_fault_here", "_law_passed", "_law_told_here"]
abbrev P_odd_holds : List Str := ["_law_odd_here"]
theorem sc_odd_holds : FnScope N_odd_holds P_odd_holds (defScope s_odd_holds) := ⟨rfl, rfl, rfl, by decide +kernel, rfl, by decide +kernel, by decide +kernel⟩
theorem op_isntB {X : Cx} : OpR X (compareOp .IsNot) (fun x y H Q => ∃ a b, x = .bl a ∧ y = .bl b ∧ Q (.bl (!decide (a = b))) H) := by
  intro pins s σ H x y v u Q I rx ry h
  obtain ⟨a, b, rfl, rfl, q⟩ := h
  cases (show v = Value.bool a from rx)
  cases (show u = Value.bool b from ry)
  exact wpAny_isNot_plain rfl (fin_bl I q (by cases a <;> cases b <;> rfl))
def topI : Int := 10 ^ 40 - 1
theorem lp_high {p : Nat} (l : Lp (dv [topI - 2, topI - 1, topI]) p) : p = 1 := by
  refine l.uniq ⟨by decide, blk_per (of_dv (by decide)) (by decide) ⟨rfl, fun i h1 h2 => ?_⟩, fun s h _ => h⟩
  have h2 : i < 3 := h2
  rcases (show i = 1 ∨ i = 2 by omega) with rfl | rfl
  · show topI - 1 = topI - 2 + ((1 : Nat) : Int)
    omega
  · show topI = topI - 1 + ((1 : Nat) : Int)
    omega
theorem lp_low {p : Nat} (l : Lp (dv [0 - topI, 0 - topI, 3 - topI]) p) : p = 3 := by
  have h := lp_blk (of_dv (by decide)) l
  have h1 : 3 % p = 0 := h.1
  have h2 := h.2 1
  have hp := l.pos
  have hle := Nat.le_of_dvd (by decide) (Nat.dvd_of_mod_eq_zero h1)
  rcases (show p = 1 ∨ p = 2 ∨ p = 3 by omega) with rfl | rfl | rfl
  · have h2 : (0 - topI : Int) = 0 - topI + ((1 : Nat) : Int) := h2 (by decide) (by decide)
    omega
  · cases h1
  · rfl
theorem dv_one (x d : Int) : dv [x] d = d + x := by
  unfold dv
  have e1 : (([x] : List Int).length : Int) = 1 := rfl
  rw [e1, Int.emod_one, Int.ediv_one, Int.one_mul, Int.add_comm]
  rfl
theorem fault_high : fault [topI - 2, topI - 1, topI] = none := by decide +kernel
theorem fault_low : fault [0 - topI, 0 - topI, 3 - topI] = none := by decide +kernel
section
variable {P : Program} {w : World} {K : PySem.W.Frag} {mg : Str → Option Value} {base : Heap} {f C CD CH CC : Addr} {fd : FuncData}
/-! ### bound_holds -/
def spBound : Sp := fun vs H Q _ => ∃ d : Int, vs = [.int d] ∧ ∀ H', Q (.bl true) H'
theorem ok_bound_holds (F : FnP K "_law_bound_holds" s_bound_holds f fd) (cls : Cls K C) (n_days : NoAttr K C "days") (c_same : Cal P w K mg base 2 "_law_same" spSame) (c_row_is : Cal P w K mg base 3 "_law_row_is" (spRow K)) (c_value : Cal P w K mg base 1 "_law_value" (spValue K)) (co_call : Cob P w K mg base 2 C (spCallR C K)) (k_DayRule : MakX P w K mg base 4 "DayRule" C (spInit C CD K)) : FnOk P w K mg base CX0 6 f fd P_bound_holds spBound := by
  refine F.ok sc_bound_holds (fun vs H Q E h => ?_) (fun cdv A outer s H vs Q E hr h => ?_)
  · obtain ⟨d, rfl, _⟩ := h
    rfl
  · obtain ⟨d, rfl, q⟩ := h
    refine ⟨_, PSs.nox (pss_cons (ps_set (i := 1) sc_bound_holds.nd rfl (by first | exact .inl rfl | exact .inr rfl) (pe_op op_sub (pe_op op_pow pe_int pe_int) pe_int))
      (pss_cons (ps_set (i := 2) sc_bound_holds.nd rfl (by first | exact .inl rfl | exact .inr rfl) (pe_mkE k_DayRule (fun _ => passS0) hr (by decide) (by rfl) (pa_cons (pe_lst (pa_cons (pe_op op_sub (pv 1) pe_int) (pa_cons (pe_op op_sub (pv 1) pe_int) (pa_cons (pv 1) pa_nil)))) pa_nil)))
      (pss_cons (ps_set (i := 3) sc_bound_holds.nd rfl (by first | exact .inl rfl | exact .inr rfl) (pe_mkE k_DayRule (fun _ => passS0) hr (by decide) (by rfl) (pa_cons (pe_tup (pa_cons (pe_op op_sub pe_int (pv 1)) (pa_cons (pe_op op_sub pe_int (pv 1)) (pa_cons (pe_op op_sub pe_int (pv 1)) pa_nil)))) pa_nil)))
      (pss_cons (ps_if (PW.pt (pw_or (pt_not (pt_val (pe_cl c_row_is hr (by decide) (by rfl) (pa_cons (pe_fld (pv 2) rfl) (pa_cons (pe_lst (pa_cons (pe_op op_sub (pv 1) pe_int) pa_nil)) pa_nil))))) (pw_or1 (pt_not (pt_val (pe_cl c_row_is hr (by decide) (by rfl) (pa_cons (pe_fld (pv 3) rfl) (pa_cons (pe_lst (pa_cons (pe_op op_sub pe_int (pv 1)) (pa_cons (pe_op op_sub pe_int (pv 1)) (pa_cons (pe_op op_sub pe_int (pv 1)) pa_nil)))) pa_nil)))))))) (pss_one (ps_ret pe_bl)) pss_nil)
      (pss_one (ps_ret (pe_and (pe_cl c_same hr (by decide) (by rfl) (pa_cons (pe_co co_call (pv 2) hr (by decide) (pa_cons (pv 0) pa_nil)) (pa_cons (pe_op op_sub (pe_op op_add (pv 0) (pv 1)) pe_int) pa_nil))) (pe_one (pe_cl c_same hr (by decide) (by rfl) (pa_cons (pe_co co_call (pv 3) hr (by decide) (pa_cons (pv 0) pa_nil)) (pa_cons (pe_cl c_value hr (by decide) (by rfl) (pa_cons (pe_lst (pa_cons (pe_op op_sub pe_int (pv 1)) (pa_cons (pe_op op_sub pe_int (pv 1)) (pa_cons (pe_op op_sub pe_int (pv 1)) pa_nil)))) (pa_cons (pv 0) pa_nil))) pa_nil))))))))))), ?_⟩
    walk_at "go"
    intro l nl
    generalize eH : upd H l _ = H1
    have eL : H1 l = some (bO true (([topI - 2, topI - 1, topI] : List Int).map V.int)) := by
      rw [← eH]
      exact upd_same
    clear eH
    walk_at "go"
    intro n dx n1 n2 n3
    have s1 : Same H1 (upd (upd H1 dx (.own n)) n (.ins C dx [])) := Z.Same.mut (same_new n2) n1
    refine ⟨true, n, dx, l, [topI - 2, topI - 1, topI], rfl, upd_same, s1 _ _ eL, by decide, fun hf p H2 sb lp rA => ⟨rfl, ?_⟩, fun i hf => by rw [fault_high] at hf; cases hf⟩
    obtain rfl := lp_high lp
    clear s1 sb n1 n2 n3 eL lp
    have rA : RuleAt C K H2 n [topI - 2] := rA
    generalize upd (upd H1 dx (.own n)) n (.ins C dx []) = Hx at *
    walk_at "go"
    intro t nt
    generalize eH : upd H2 t _ = H3
    have eT : H3 t = some (bO false (([0 - topI, 0 - topI, 3 - topI] : List Int).map V.int)) := by
      rw [← eH]
      exact upd_same
    have rA : RuleAt C K H3 n [topI - 2] := by
      rw [← eH]
      exact rA.mono (same_new nt)
    clear eH
    walk_at "go"
    intro m dy n1 n2 n3
    have s1 : Same H3 (upd (upd H3 dy (.own m)) m (.ins C dy [])) := Z.Same.mut (same_new n2) n1
    refine ⟨false, m, dy, t, [0 - topI, 0 - topI, 3 - topI], rfl, upd_same, s1 _ _ eT, by decide, fun hf p H4 sb lp rB => ⟨rfl, ?_⟩, fun i hf => by rw [fault_low] at hf; cases hf⟩
    obtain rfl := lp_low lp
    have s34 : Same H3 H4 := fun b o h => sb b o (ne_of_none h n1) (s1 _ _ h)
    have rA := rA.mono s34
    have rB : RuleAt C K H4 m [0 - topI, 0 - topI, 3 - topI] := rB
    clear s34 s1 sb n1 n2 n3 eT lp nt nl
    have rA' := rA
    have rB' := rB
    obtain ⟨dx1, u1, a1, a2⟩ := rA'
    obtain ⟨dx2, u2, b1, b2⟩ := rB'
    walk_at "go"
    intro l1 nl1
    generalize eH : upd H4 l1 _ = H5
    have s5 : Same H4 H5 := by
      rw [← eH]
      exact same_new nl1
    have e1 : H5 l1 = some (.lst (([topI - 2] : List Int).map V.int)) := by
      rw [← eH]
      exact upd_same
    clear eH
    refine ⟨u1, l1, [topI - 2], rfl, s5 _ _ a2, SqL.of e1, by decide, ?_⟩
    have rA := rA.mono s5
    have rB := rB.mono s5
    have b1 := s5 _ _ b1
    have b2 := s5 _ _ b2
    walk_at "go"
    intro l2 nl2
    generalize eH_ : upd H5 l2 _ = H6
    have s6 : Same H5 H6 := by rw [← eH_]; exact same_new nl2
    have el2 : H6 l2 = some (.lst (([0 - topI, 0 - topI, 3 - topI] : List Int).map V.int)) := by rw [← eH_]; exact upd_same
    clear eH_
    have rA := rA.mono s6
    have rB := rB.mono s6
    refine ⟨u2, l2, [0 - topI, 0 - topI, 3 - topI], rfl, s6 _ _ b2, SqL.of el2, by decide, ?_⟩
    walk_at "go"
    refine ⟨⟨_, _, s6 _ _ (s5 _ _ a1)⟩, n, [topI - 2], d, rfl, rA, by decide, by decide, ?_⟩
    walk_at "go"
    refine ⟨d + topI - 2, ?_, ?_⟩
    · rw [dv_one, show d + (topI - 2) = d + topI - 2 by omega]
      rfl
    walk_at "go"
    refine ⟨⟨_, _, s6 _ _ b1⟩, m, [0 - topI, 0 - topI, 3 - topI], d, rfl, rB, by decide, by decide, ?_⟩
    walk_at "go"
    intro l3 nl3
    generalize eH_ : upd H6 l3 _ = H7
    have s7 : Same H6 H7 := by rw [← eH_]; exact same_new nl3
    have el3 : H7 l3 = some (.lst (([0 - topI, 0 - topI, 3 - topI] : List Int).map V.int)) := by rw [← eH_]; exact upd_same
    clear eH_
    walk_at "go"
    refine ⟨l3, [0 - topI, 0 - topI, 3 - topI], d, rfl, SqL.of el3, by decide, by decide, ?_⟩
    walk_at "go"
    exact q _
/-! ### asked -/
def spAsked (K : PySem.W.Frag) : Sp := fun vs H Q _ => ∃ (a : Addr) (ns : List Int) (m : Nat), vs = [.ref a, .int (m : Int)] ∧ SqL K H a (ns.map V.int) ∧ ns.length ≤ 63 ∧ m ≤ 1000 ∧ ∀ (L : Addr) H' (xs : List Int), Same H H' → H L = none → H' L = some (.lst (xs.map V.int)) → (1 ≤ m → 12 ≤ xs.length) → xs.length ≤ 1000 → Q (.ref L) H'
theorem ok_asked (F : FnP K "_law_asked" s_asked f fd) (m_int : mg "int" = none) (m_range : mg "range" = none) (m_min : mg "min" = none) (m_max : mg "max" = none) (m_len : mg "len" = none) (c_cell : Cal P w K mg base 1 "_law_cell" (spCell K)) : FnOk P w K mg base CX0 2 f fd P_asked (spAsked K) := by
  refine F.ok sc_asked (fun vs H Q E h => ?_) (fun cdv A outer s H vs Q E hr h => ?_)
  · obtain ⟨a, ns, m, rfl, _⟩ := h
    rfl
  · obtain ⟨a, ns, m, rfl, hS, hl, hm, q⟩ := h
    refine ⟨_, PSs.nox (pss_cons (ps_set (i := 2) sc_asked.nd rfl (by first | exact .inl rfl | exact .inr rfl) (pe_op op_mulX (pe_op op_mulX (pe_op op_pow pe_int pe_int) (pe_op op_pow pe_int pe_int)) (pe_op op_pow pe_int pe_int)))
      (pss_cons (ps_setLc (i := 4) (own := [("_law_k", 3)]) (g := (gName 3)) (tt := tYes) (by rfl) sc_asked.nd rfl rfl (sw_true rfl rfl rfl (by decide +kernel)) (pi_range1 (by rfl) m_range (pa_cons (pe_callB (call_min2 rfl) (by rfl) m_min (by decide +kernel) (pa_cons (pe_op op_add (pe_op op_mul pe_int (pv 1)) pe_int) (pa_cons pe_int pa_nil))) pa_nil)) (blkOk_by (own := [("_law_k", 3)]) (N := N_asked) (sc := defScope s_asked) (by decide +kernel)) (fun _ _ _ _ _ => (pg_name (i := 3) sc_asked.nd rfl (by first | exact .inl rfl | exact .inr rfl))) (fun _ _ _ _ _ => pts_nil) (fun _ _ _ _ _ => (pe_op op_sub (pe_op op_sub (pv 3) (pv 1)) pe_int)))
      (pss_cons (ps_for PassesOwn.never rfl (pi_range2 (by rfl) m_range (pa_cons pe_int (pa_cons (pe_callB (call_max2 rfl) (by rfl) m_max (by decide +kernel) (pa_cons pe_int (pa_cons (pe_callB call_len_seq (by rfl) m_len PySem.boot_len (pa_cons (pv 0) pa_nil)) pa_nil))) pa_nil))) (pg_name (i := 3) sc_asked.nd rfl (by first | exact .inl rfl | exact .inr rfl))
        (pss_cons (ps_set (i := 5) sc_asked.nd rfl (by first | exact .inl rfl | exact .inr rfl) (pe_op op_add (pe_cl c_cell hr (by decide) (by rfl) (pa_cons (pv 0) (pa_cons (pv 3) pa_nil))) (pe_op op_mul pe_int (pv 3))))
      (pss_cons (ps_set (i := 6) sc_asked.nd rfl (by first | exact .inl rfl | exact .inr rfl) (pe_op op_sub (pe_op op_mod (pe_callTy call_int1 (by rfl) m_int (by decide +kernel) (pa_cons (pe_op op_fdiv (pv 5) pe_int) pa_nil)) pe_int) pe_int))
      (pss_cut (ps_if (pt_cmpR op_gt (pe_op op_mod (pe_callTy call_int1 (by rfl) m_int (by decide +kernel) (pa_cons (pv 5) pa_nil)) pe_int) pe_int (nomark _)) (pss_one (ps_set (i := 6) sc_asked.nd rfl (by first | exact .inl rfl | exact .inr rfl) (pe_op op_sub (pe_op op_mod (pe_callTy call_int1 (by rfl) m_int (by decide +kernel) (pa_cons (pe_op op_fdiv (pv 5) pe_int) pa_nil)) (pe_op op_add (pe_op op_mul pe_int (pv 2)) pe_int)) (pv 2)))) pss_nil)
      (pss_one (ps_expr (pe_bm PySem.F.plainAttrs_list PySem.F.slot_list_append PySem.F.type_list_append mt_append (pv 4) (pa_cons (pv 6) pa_nil))))))))
      (pss_one (ps_ret (pv 4)))))), ?_⟩
    walk_at "go"
    refine ⟨big_mul (by decide +kernel) (by decide +kernel), ?_⟩
    walk_at "go"
    refine ⟨big_mul (by decide +kernel) (by decide +kernel), ?_⟩
    walk_at "go"
    generalize eF : (fun i j : Int => V.int (i * j)) _ _ = vF
    have hF : vF = .int (10 ^ 180) := by
      rw [← eF]
      decide +kernel
    clear eF
    subst hF
    generalize eK : (if (90 : Int) < 3 * (m : Int) + 3 then (90 : Int) else 3 * (m : Int) + 3) = kI
    obtain ⟨k, hk⟩ := Int.eq_ofNat_of_zero_le (show 0 ≤ kI by rw [← eK]; split <;> omega)
    have hk1 : k ≤ 90 := by split at eK <;> omega
    have hk2 : 1 ≤ m → 6 ≤ k := by split at eK <;> omega
    intro D nD
    refine lc_gen (n := k) (fun i H1 => Same H H1 ∧ ∃ xs : List Int, H1 D = some (.lst (xs.map V.int)) ∧ xs.length = i) ⟨same_new nD, [], upd_same, rfl⟩ ?_ ?_ ?_ ?_
    · intro i H1 hi _
      show i < kI.toNat
      omega
    · intro H1 _
      show kI.toNat ≤ k
      omega
    · rintro i H1 x H' hi ⟨s1, xs, e1, l1⟩ ⟨rfl, rfl⟩
      walk_at "go"
      refine ⟨_, e1, ?_, Z.Same.mut s1 nD, xs ++ [0 + (i : Int) - m - 1], ?_, ?_⟩
      · rw [List.length_map, l1]
        exact Nat.lt_of_lt_of_le (show i < 1000 by omega) (by decide)
      · rw [upd_same, List.map_append]
        rfl
      · rw [List.length_append, l1]
        rfl
    rintro H1 ⟨s1, xs, e1, l1⟩
    have hS1 := s1.seq hS
    walk_at "go"
    refine ⟨a, _, rfl, .inl hS1, ?_⟩
    rw [List.length_map]
    walk_at "go"
    have hN : (if (ns.length : Int) > 9 then (ns.length : Int) else 9).toNat - 3 = max 9 ns.length - 3 := by split <;> omega
    refine for_gen (n := max 9 ns.length - 3) (fun i σ H2 => Same H H2 ∧ (∃ ys : List Int, H2 D = some (.lst (ys.map V.int)) ∧ ys.length = k + i) ∧ ∃ v3 v5 v6 : Option V, σ = [some (.ref a), some (.int (m : Int)), some (.int (10 ^ 180)), v3, some (.ref D), v5, v6]) ⟨s1, ⟨xs, e1, l1⟩, none, none, none, rfl⟩ ?_ ?_ ?_ ?_
    · intro i σ H2 hi _
      show i < ((if (ns.length : Int) > 9 then (ns.length : Int) else 9) - 3).toNat
      split <;> omega
    · intro σ H2 _
      show ((if (ns.length : Int) > 9 then (ns.length : Int) else 9) - 3).toNat ≤ _
      split <;> omega
    · rintro i σ H2 x H' hi ⟨s2, ⟨ys, e2, l2⟩, v3, v5, v6, rfl⟩ ⟨rfl, rfl⟩
      walk_at "go"
      refine ⟨a, ns, 3 + i, by rw [show ((3 + i : Nat) : Int) = 3 + (i : Int) by omega]; rfl, s2.seq hS, ?_⟩
      walk_at "go"
      refine ⟨fun σ' H1 => H1 = H' ∧ ∃ (x : Int), σ' = [some (.ref a), some (.int (m : Int)), some (.int (10 ^ 180)), some (.int (3 + (i : Int))), some (.ref D), some (.int (ns.getD (3 + i) 0 + 77 * (3 + (i : Int)))), some (.int x)], ?_, ?_⟩
      · walk_at "go"
        refine ite2 (fun e => ?_) (fun e => ?_)
        · walk_at "go"
          exact ⟨_, rfl⟩
        · exact ⟨rfl, _, rfl⟩
      rintro σ' H3 ⟨rfl, x, rfl⟩
      walk_at "go"
      refine ⟨.inl ⟨rfl, _, .inl (.inl e2)⟩, ?_⟩
      walk_at "go"
      refine ⟨_, _, _, rfl, rfl, e2, ?_, ?_⟩
      · rw [List.length_map, l2]
        exact Nat.lt_of_lt_of_le (show k + i < 1000 by omega) (by decide)
      refine ⟨Z.Same.mut s2 nD, ⟨ys ++ [x], ?_, ?_⟩, _, _, _, rfl⟩
      · rw [upd_same, List.map_append]
        rfl
      · rw [List.length_append, l2]
        rfl
    · rintro σ H2 ⟨s2, ⟨ys, e2, l2⟩, v3, v5, v6, rfl⟩
      walk_at "go"
      exact q D H2 ys s2 nD e2 (fun h => by have := hk2 h; omega) (by omega)
/-! ### odd_holds -/
def spOddH (K : PySem.W.Frag) : Sp := fun vs H Q _ => ∃ (l : Addr) (es : List Int), vs = [.ref l] ∧ H l = some (.lst (es.map V.int)) ∧ es.length ≤ 400 ∧ ∀ H', Same H H' → Q (.bl true) H'
theorem ok_odd_holds (F : FnP K "_law_odd_holds" s_odd_holds f fd) (m_list : mg "list" = none) (m_tuple : mg "tuple" = none) (c_fault : Cal P w K mg base 1 "_law_fault" (spFault K)) (c_told : Cal P w K mg base 6 "_law_told" (spTold K)) (c_is_refused : Cal P w K mg base 6 "_law_is_refused" (spRefusedD K)) (c_same : Cal P w K mg base 2 "_law_same" spSame) (c_row_is : Cal P w K mg base 3 "_law_row_is" (spRow K)) (c_least : Cal P w K mg base 3 "_law_least" (spLeastL K)) : FnOk P w K mg base CX0 7 f fd P_odd_holds (spOddH K) := by
  refine F.ok sc_odd_holds (fun vs H Q E h => ?_) (fun cdv A outer s H vs Q E hr h => ?_)
  · obtain ⟨l, es, rfl, _⟩ := h
    rfl
  · obtain ⟨l, es, rfl, hL, hl, q⟩ := h
    refine ⟨_, PSs.nox (pss_cons (ps_set (i := 1) sc_odd_holds.nd rfl (by first | exact .inl rfl | exact .inr rfl) (pe_cl c_fault hr (by decide) (by rfl) (pa_cons (pv 0) pa_nil)))
      (pss_cons (ps_set (i := 2) sc_odd_holds.nd rfl (by first | exact .inl rfl | exact .inr rfl) (pe_callTy call_list_of (by rfl) m_list (by decide +kernel) (pa_cons (pv 0) pa_nil)))
      (pss_cons (ps_set (i := 3) sc_odd_holds.nd rfl (by first | exact .inl rfl | exact .inr rfl) (pe_cl c_told hr (by decide) (by rfl) (pa_cons (pv 2) pa_nil)))
      (pss_cons (ps_if (PW.pt (pw_or (pt_cmpR (op_neD hr.units) (pv 2) (pv 0) (nomark _)) (pw_or1 (pt_cmpR op_isntB (pe_ix ix_tup (pv 3) pe_int (fun _ _ => rfl)) pe_bl (nomark _))))) (pss_one (ps_ret pe_bl)) pss_nil)
      (pss_cons (ps_if (pt_cmpR op_ge (pv 1) pe_int (nomark _)) (pss_one (ps_ret (pe_and (pe_cmpR op_eq (pe_ix ix_tup (pv 3) pe_int (fun _ _ => rfl)) pe_str (nomark _)) (pe_and (pe_cl c_same hr (by decide) (by rfl) (pa_cons (pe_ix ix_tup (pv 3) pe_int (fun _ _ => rfl)) (pa_cons (pv 1) pa_nil))) (pe_one (pe_cl c_is_refused hr (by decide) (by rfl) (pa_cons (pe_callTy call_tuple_of (by rfl) m_tuple (by decide +kernel) (pa_cons (pv 0) pa_nil)) pa_nil))))))) pss_nil)
      (pss_one (ps_ret (pe_and (pe_cmpR op_eq (pe_ix ix_tup (pv 3) pe_int (fun _ _ => rfl)) pe_str (nomark _)) (pe_one (pe_cl c_row_is hr (by decide) (by rfl) (pa_cons (pe_ix ix_tup (pv 3) pe_int (fun _ _ => rfl)) (pa_cons (pe_slice sl_list (pv 0) po_none (po_some (pe_cl c_least hr (by decide) (by rfl) (pa_cons (pv 0) pa_nil)))) pa_nil)))))))))))), ?_⟩
    walk_at "go"
    refine ⟨l, es, rfl, SqL.of hL, Nat.le_trans hl (by decide), ?_⟩
    walk_at "go"
    refine ⟨l, _, rfl, .inl (SqL.of hL), ?_⟩
    intro p np
    generalize eH_ : upd H p _ = H1
    have s1 : Same H H1 := by rw [← eH_]; exact same_new np
    have ep : H1 p = some (.lst (es.map V.int)) := by rw [← eH_]; exact upd_same
    clear eH_
    have hL1 := s1 _ _ hL
    walk_at "go"
    refine ⟨p, es, rfl, ep, hl, fun i hf t H2 s2 eT => ?_, fun hf lp t u H2 s2 lpp eT eU => ?_⟩
    · have hF : fI es = (i : Int) := by
        unfold fI
        rw [hf]
      walk_at "go"
      refine same2 (d := intsD true es) (dp_ints (b := true) (SqL.of (s2 _ _ ep))) (dp_ints (b := true) (SqL.of (s2 _ _ hL1))) (shaped_ints _ _) ?_
      rw [eqv_same (shaped_ints _ _)]
      walk_at "go"
      refine ⟨t, _, _, _, rfl, rfl, SqT.of eT, rfl, ?_⟩
      walk_at "go"
      refine ite2 (fun e => ?_) (fun e => ?_)
      rotate_left
      · exact absurd (decide_eq_true (by rw [hF]; omega)) e
      walk_at "go"
      refine ⟨t, _, _, _, rfl, rfl, SqT.of eT, rfl, ?_⟩
      walk_at "go"
      refine ⟨t, _, _, _, rfl, rfl, SqT.of eT, rfl, ?_⟩
      walk_at "go"
      refine ⟨i, by rw [hF]; rfl, ?_⟩
      walk_at "go"
      refine ⟨l, _, rfl, .inl ⟨SqL.of (s2 _ _ hL1), ?_⟩⟩
      intro v nv
      generalize eH_ : upd H2 v _ = H3
      have s3 : Same H2 H3 := by rw [← eH_]; exact same_new nv
      have ev : H3 v = some (.tup (es.map V.int)) := by rw [← eH_]; exact upd_same
      clear eH_
      walk_at "go"
      refine ⟨false, v, es, i, rfl, ev, hl, hf, fun H4 s4 => ?_⟩
      exact q H4 (s1.trans (s2.trans (s3.trans s4)))
    · have hF : fI es = -1 := by
        unfold fI
        rw [hf]
      have hp := fault_pos hf
      walk_at "go"
      refine same2 (d := intsD true es) (dp_ints (b := true) (SqL.of (s2 _ _ ep))) (dp_ints (b := true) (SqL.of (s2 _ _ hL1))) (shaped_ints _ _) ?_
      rw [eqv_same (shaped_ints _ _)]
      walk_at "go"
      refine ⟨t, _, _, _, rfl, rfl, SqT.of eT, rfl, ?_⟩
      walk_at "go"
      refine ite2 (fun e => ?_) (fun e => ?_)
      · rw [hF] at e
        exact absurd e (by decide)
      walk_at "go"
      refine ⟨t, _, _, _, rfl, rfl, SqT.of eT, rfl, ?_⟩
      walk_at "go"
      refine ⟨t, _, _, _, rfl, rfl, SqT.of eT, rfl, ?_⟩
      walk_at "go"
      refine ⟨l, es, rfl, SqL.of (s2 _ _ hL1), hp, Nat.le_trans hl (by decide), fun p2 lp2 => ?_⟩
      obtain rfl := lpp.uniq lp2
      obtain ⟨hpl, ltk, oft⟩ := (of_dv hp).take lpp
      walk_at "go"
      refine ⟨l, _, rfl, SqL.of (s2 _ _ hL1), ?_⟩
      rw [cut_take hpl]
      intro r nr
      generalize eH_ : upd H2 r _ = H3
      have s3 : Same H2 H3 := by rw [← eH_]; exact same_new nr
      have er : H3 r = some (.lst ((es.take lp).map V.int)) := by rw [← eH_]; exact upd_same
      clear eH_
      walk_at "go"
      refine ⟨u, r, es.take lp, rfl, s3 _ _ eU, SqL.of er, by rw [ltk]; omega, ?_⟩
      exact q H3 (s1.trans (s2.trans s3))
end
end Z
set_option pp.maxSteps 700
set_option Elab.async false
set_option linter.all false
set_option maxRecDepth 100000
set_option maxHeartbeats 4000000
namespace Z
open Dy
open PySem PySem.Spec PyProof.Rows L2
open C8 (pss_cut tCut)
local macro_rules | `(tactic| walk_at "num") => `(tactic| first | rfl | omega | decide | exact Nat.le_of_lt (small1000 (by simp)) | exact ⟨by omega, by omega⟩ | exact ⟨by omega, by omega, by omega⟩ | exact ⟨by decide, by decide, by decide⟩ | exact Or.inl ⟨by omega, by omega⟩ | exact Or.inr ⟨by omega, by omega⟩)
local macro_rules | `(tactic| walk_at "go") => `(tactic| repeat (first | refine ⟨_, rfl, ?_⟩ | refine ⟨_, _, rfl, rfl, ?_⟩ | refine ⟨_, _, rfl, ?_⟩ | refine ⟨_, _, rfl, rfl, (by walk_at "num"), ?_⟩ | refine Or.inl ⟨_, rfl, ?_⟩ | refine ⟨_, _, _, _, rfl, rfl, (by assumption), (by rfl), ?_⟩ | refine ⟨_, _, _, _, _, rfl, (by assumption), (by assumption), (by assumption), (by rfl), ?_⟩ | refine ⟨rfl, ?_⟩ | refine And.intro (by walk_at "num") ?_))
abbrev s_law : Stmt := topS 36
abbrev N_law : List Str := ["_law_script", "_law_draws_here", "_law_most", "_law_days_here", "_law_least_here", "_law_passed", "_law_rule", "_law_again", "_law_odd_here", "_law_day", "_law_other", "_law_equal"]
abbrev P_law : List Str := ["_law_script"]
theorem sc_law : FnScope N_law P_law (defScope s_law) := ⟨rfl, rfl, rfl, by decide +kernel, rfl, by decide +kernel, by decide +kernel⟩
theorem getD_map {xs : List Int} {g : Int → Int} {i : Nat} (h : i < xs.length) : (xs.map g).getD i 0 = g (xs.getD i 0) := by
  rw [List.getD_eq_getElem?_getD, List.getElem?_map, List.getD_eq_getElem?_getD, List.getElem?_eq_getElem h]
  rfl
theorem Gd.shift {ds : List Int} (h : Gd ds) : Gd (ds.map fun x => x + 1) := by
  have hp := h.pos
  have l : (ds.map fun x => x + 1).length = ds.length := List.length_map ..
  refine ⟨by rw [l]; exact hp, fun i hi => ?_, ?_⟩
  · rw [l] at hi
    rw [getD_map (by omega), getD_map hi]
    have := h.asc i hi
    omega
  · rw [l, getD_map (by omega), getD_map hp]
    have := h.fin
    omega
theorem RuleAt.sb {C m : Addr} {K : PySem.W.Frag} {H H' : Hp} {n : Addr} {ds : List Int} {ys : List V} (s : SB m H H') (hm : H m = some (.lst ys)) (h : RuleAt C K H n ds) : RuleAt C K H' n ds := by
  obtain ⟨dx, t, e, h2⟩ := h
  have ne : ∀ {a : Addr} {o : HO}, H a = some o → (∀ ys, o ≠ .lst ys) → a ≠ m := fun e z w => by
    rw [w, hm] at e
    exact z _ (Option.some.inj e).symm
  exact ⟨dx, t, s _ _ (ne e fun _ => nofun) e, s _ _ (ne h2 fun _ => nofun) h2⟩
section
variable {P : Program} {w : World} {K : PySem.W.Frag} {mg : Str → Option Value} {base : Heap} {f C CD CH CC p_days p_get : Addr} {fd fd_period : FuncData}
def spLaw (K : PySem.W.Frag) : Sp := fun vs H Q _ => ∃ (a : Addr) (ns : List Int), vs = [.ref a] ∧ SqL K H a (ns.map V.int) ∧ ns.length ≤ 63 ∧ ∀ H', Q (.bl true) H'
theorem ok_law (F : FnP K "law" s_law f fd) (m_int : mg "int" = none) (m_len : mg "len" = none) (m_list : mg "list" = none) (m_tuple : mg "tuple" = none) (m_min : mg "min" = none) (cls : Cls K C) (n_days : NoAttr K C "days")
    (c_draws : Cal P w K mg base 1 "_law_draws" spDraws) (c_cell : Cal P w K mg base 1 "_law_cell" (spCell K)) (c_written : Cal P w K mg base 3 "_law_written" (spWritten K)) (c_least : Cal P w K mg base 3 "_law_least" (spLeastL K)) (c_row_is : Cal P w K mg base 3 "_law_row_is" (spRow K)) (c_same : Cal P w K mg base 2 "_law_same" spSame) (c_over : Cal P w K mg base 1 "_law_over" (spOver K)) (c_odd : Cal P w K mg base 3 "_law_odd" (spOdd K)) (c_odd_holds : Cal P w K mg base 7 "_law_odd_holds" (spOddH K)) (c_fault : Cal P w K mg base 1 "_law_fault" (spFault K)) (c_asked : Cal P w K mg base 2 "_law_asked" (spAsked K)) (c_value : Cal P w K mg base 1 "_law_value" (spValue K)) (c_bound_holds : Cal P w K mg base 6 "_law_bound_holds" spBound)
    (k_DayRule : MakX P w K mg base 4 "DayRule" C (spInit C CD K)) (co_call : Cob P w K mg base 2 C (spCallR C K)) (e_DayRule : Eqo P w K mg base 1 C (spEqR C K)) (p_DayRule : PropOf K C "period" p_days p_get) (f_period : FnOk P w K mg base CX0 1 p_get fd_period P_DayRule_period (spPeriod C K)) (b_period : Binds K fd_period P_DayRule_period []) : FnOk P w K mg base CX0 8 f fd P_law (spLaw K) := by
  refine F.ok sc_law (fun vs H Q E h => ?_) (fun cdv A outer s H vs Q E hr h => ?_)
  · obtain ⟨a, ns, rfl, _⟩ := h
    rfl
  · obtain ⟨a, ns, rfl, hS, hl, q⟩ := h
    refine ⟨_, PSs.nox (pss_cons (ps_set (i := 1) sc_law.nd rfl (by first | exact .inl rfl | exact .inr rfl) (pe_cl c_draws hr (by decide) (by rfl) (pa_cons (pe_cl c_cell hr (by decide) (by rfl) (pa_cons (pv 0) (pa_cons pe_int pa_nil))) (pa_cons pe_int pa_nil))))
      (pss_cons (ps_set (i := 2) sc_law.nd rfl (by first | exact .inl rfl | exact .inr rfl) pe_int)
      (pss_cut (ps_if (pt_cmpR op_eq (pe_op op_mod (pe_callTy call_int1 (by rfl) m_int (by decide +kernel) (pa_cons (pe_cl c_cell hr (by decide) (by rfl) (pa_cons (pv 0) (pa_cons pe_int pa_nil))) pa_nil)) pe_int) pe_int (nomark _)) (pss_cons (ps_set (i := 1) sc_law.nd rfl (by first | exact .inl rfl | exact .inr rfl) (pe_cl c_draws hr (by decide) (by rfl) (pa_cons (pe_cl c_cell hr (by decide) (by rfl) (pa_cons (pv 0) (pa_cons pe_int pa_nil))) (pa_cons pe_int pa_nil))))
      (pss_one (ps_set (i := 2) sc_law.nd rfl (by first | exact .inl rfl | exact .inr rfl) pe_int))) pss_nil)
      (pss_cons (ps_set (i := 3) sc_law.nd rfl (by first | exact .inl rfl | exact .inr rfl) (pe_cl c_written hr (by decide) (by rfl) (pa_cons (pv 1) (pa_cons (pv 2) pa_nil))))
      (pss_cons (ps_set (i := 4) sc_law.nd rfl (by first | exact .inl rfl | exact .inr rfl) (pe_cl c_least hr (by decide) (by rfl) (pa_cons (pv 3) pa_nil)))
      (pss_cons (ps_set (i := 5) sc_law.nd rfl (by first | exact .inl rfl | exact .inr rfl) (pe_callTy call_list_of (by rfl) m_list (by decide +kernel) (pa_cons (pv 3) pa_nil)))
      (pss_cons (ps_set (i := 6) sc_law.nd rfl (by first | exact .inl rfl | exact .inr rfl) (pe_mkE k_DayRule (fun _ => passS0) hr (by decide) (by rfl) (pa_cons (pv 5) pa_nil)))
      (pss_cons (ps_if (pt_cmpR (op_neD hr.units) (pv 5) (pv 3) (nomark _)) (pss_one (ps_ret pe_bl)) pss_nil)
      (pss_cons (ps_asg (pe_op op_sub (pe_ix ix_list (pv 5) pe_int (fun _ _ => rfl)) pe_int) (pg_sub (pv 5) pe_int set_list))
      (pss_cons (ps_expr (pe_bm PySem.F.plainAttrs_list PySem.F.slot_list_append PySem.F.type_list_append mt_append (pv 5) (pa_cons pe_int pa_nil)))
      (pss_cons (ps_if (PW.pt (pw_or (pt_not (pt_val (pe_cl c_row_is hr (by decide) (by rfl) (pa_cons (pe_fld (pv 6) rfl) (pa_cons (pe_slice sl_list (pv 3) po_none (po_some (pv 4))) pa_nil))))) (pw_or1 (pt_not (pt_val (pe_cl c_same hr (by decide) (by rfl) (pa_cons (pe_prop (pv 6) cls p_DayRule f_period (hr.mono (by decide)) b_period .nil pass0 rfl) (pa_cons (pv 4) pa_nil)))))))) (pss_one (ps_ret pe_bl)) pss_nil)
      (pss_cons (ps_set (i := 7) sc_law.nd rfl (by first | exact .inl rfl | exact .inr rfl) (pe_mkE k_DayRule (fun _ => passS0) hr (by decide) (by rfl) (pa_cons (pe_callTy call_tuple_of (by rfl) m_tuple (by decide +kernel) (pa_cons (pe_cl c_over hr (by decide) (by rfl) (pa_cons (pv 3) (pa_cons (pe_callB (call_min2 rfl) (by rfl) m_min (by decide +kernel) (pa_cons pe_int (pa_cons (pe_op op_fdiv pe_int (pe_callB call_len_seq (by rfl) m_len PySem.boot_len (pa_cons (pv 3) pa_nil))) pa_nil))) pa_nil))) pa_nil)) pa_nil)))
      (pss_cons (ps_if (PW.pt (pw_or (pt_not (pt_val (pe_cl c_row_is hr (by decide) (by rfl) (pa_cons (pe_fld (pv 7) rfl) (pa_cons (pe_slice sl_list (pv 3) po_none (po_some (pv 4))) pa_nil))))) (pw_or1 (pt_cmpR op_isntB (pe_cmpR (op_own e_DayRule hr (by decide)) (pv 6) (pv 7) (nomark _)) pe_bl (nomark _))))) (pss_one (ps_ret pe_bl)) pss_nil)
      (pss_cons (ps_set (i := 8) sc_law.nd rfl (by first | exact .inl rfl | exact .inr rfl) (pe_cl c_odd hr (by decide) (by rfl) (pa_cons (pe_cl c_draws hr (by decide) (by rfl) (pa_cons (pe_cl c_cell hr (by decide) (by rfl) (pa_cons (pv 0) (pa_cons pe_int pa_nil))) (pa_cons (pe_op op_add (pv 2) pe_int) pa_nil))) (pa_cons (pv 2) pa_nil))))
      (pss_cons (ps_if (pt_not (pt_val (pe_cl c_odd_holds hr (by decide) (by rfl) (pa_cons (pv 8) pa_nil)))) (pss_one (ps_ret pe_bl)) pss_nil)
      (pss_cut (ps_if (pt_cmpR op_ge (pe_cl c_fault hr (by decide) (by rfl) (pa_cons (pv 8) pa_nil)) pe_int (nomark _)) (pss_one (ps_setLc (i := 8) (own := [("_law_day", 9)]) (g := (gName 9)) (tt := tYes) (by rfl) sc_law.nd rfl rfl (sw_true rfl rfl rfl (by decide +kernel)) (pi_list (pv 3)) (blkOk_by (own := [("_law_day", 9)]) (N := N_law) (sc := defScope s_law) (by decide +kernel)) (fun _ _ _ _ _ => (pg_name (i := 9) sc_law.nd rfl (by first | exact .inl rfl | exact .inr rfl))) (fun _ _ _ _ _ => pts_nil) (fun _ _ _ _ _ => (pe_op op_add (pv 9) pe_int)))) pss_nil)
      (pss_cons (ps_set (i := 10) sc_law.nd rfl (by first | exact .inl rfl | exact .inr rfl) (pe_mkE k_DayRule (fun _ => passS0) hr (by decide) (by rfl) (pa_cons (pv 8) pa_nil)))
      (pss_cons (ps_set (i := 11) sc_law.nd rfl (by first | exact .inl rfl | exact .inr rfl) (pe_cmpR (op_eqD hr.units) (pe_slice sl_list (pv 3) po_none (po_some (pv 4))) (pe_slice sl_list (pv 8) po_none (po_some (pe_cl c_least hr (by decide) (by rfl) (pa_cons (pv 8) pa_nil)))) (nomark _)))
      (pss_cons (ps_if (PW.pt (pw_or (PW.pt (pw_and (pt_val (pv 11)) (pw_and1 (pt_cmpR op_isntB (pe_cmpR (op_own e_DayRule hr (by decide)) (pv 6) (pv 10) (nomark _)) pe_bl (nomark _))))) (pw_or1 (PW.pt (pw_and (pt_not (pt_val (pv 11))) (pw_and1 (pt_cmpR op_isntB (pe_cmpR (op_own e_DayRule hr (by decide)) (pv 6) (pv 10) (nomark _)) pe_bl (nomark _)))))))) (pss_one (ps_ret pe_bl)) pss_nil)
      (pss_cons (ps_for PassesOwn.never rfl (pi_list (pe_cl c_asked hr (by decide) (by rfl) (pa_cons (pv 0) (pa_cons (pe_callB call_len_seq (by rfl) m_len PySem.boot_len (pa_cons (pv 3) pa_nil)) pa_nil)))) (pg_name (i := 9) sc_law.nd rfl (by first | exact .inl rfl | exact .inr rfl))
        (pss_cons (ps_if (PW.pt (pw_or (pt_not (pt_val (pe_cl c_same hr (by decide) (by rfl) (pa_cons (pe_co co_call (pv 6) hr (by decide) (pa_cons (pv 9) pa_nil)) (pa_cons (pe_cl c_value hr (by decide) (by rfl) (pa_cons (pv 3) (pa_cons (pv 9) pa_nil))) pa_nil))))) (pw_or1 (pt_not (pt_val (pe_cl c_same hr (by decide) (by rfl) (pa_cons (pe_co co_call (pv 10) hr (by decide) (pa_cons (pv 9) pa_nil)) (pa_cons (pe_cl c_value hr (by decide) (by rfl) (pa_cons (pv 8) (pa_cons (pv 9) pa_nil))) pa_nil)))))))) (pss_one (ps_ret pe_bl)) pss_nil)
      (pss_one (ps_if (PW.pt (pw_or (pt_not (pt_val (pe_cl c_same hr (by decide) (by rfl) (pa_cons (pe_co co_call (pv 6) hr (by decide) (pa_cons (pv 9) pa_nil)) (pa_cons (pe_cl c_value hr (by decide) (by rfl) (pa_cons (pv 3) (pa_cons (pv 9) pa_nil))) pa_nil))))) (pw_or1 (pt_not (pt_val (pe_cl c_same hr (by decide) (by rfl) (pa_cons (pe_co co_call (pv 7) hr (by decide) (pa_cons (pv 9) pa_nil)) (pa_cons (pe_cl c_value hr (by decide) (by rfl) (pa_cons (pv 3) (pa_cons (pv 9) pa_nil))) pa_nil)))))))) (pss_one (ps_ret pe_bl)) pss_nil))))
      (pss_one (ps_ret (pe_cl c_bound_holds hr (by decide) (by rfl) (pa_cons (pe_ix ix_list (pe_cl c_asked hr (by decide) (by rfl) (pa_cons (pv 0) (pa_cons pe_int pa_nil))) pe_int (fun _ _ => rfl)) pa_nil)))))))))))))))))))))))), ?_⟩
    walk_at "go"
    refine ⟨a, ns, 0, rfl, hS, ?_⟩
    walk_at "go"
    intro D ds nD hd
    have sD := same_new (o := .lst (ds.map V.int)) nD
    have eD := upd_same (H := H) (a := D) (o := .lst (ds.map V.int))
    generalize upd H D (.lst (ds.map V.int)) = H1 at sD eD ⊢
    have hS1 := sD.seq hS
    walk_at "go"
    refine ⟨fun σ' H' => Same H H' ∧ ∃ (D : Addr) (ds : List Int) (n m : Nat), H' D = some (.lst (ds.map V.int)) ∧ Dr n ds ∧ 0 < m ∧ m ≤ 400 ∧ σ' = [some (.ref a), some (.ref D), some (.int (m : Int)), none, none, none, none, none, none, none, none, none], ?_, ?_⟩
    · walk_at "go"
      refine ⟨a, ns, 1, rfl, hS1, ?_⟩
      walk_at "go"
      refine ite2 (fun e => ?_) (fun e => ?_)
      rotate_left
      · exact ⟨sD, D, ds, 60, 9, eD, hd, by decide, by decide, rfl⟩
      walk_at "go"
      refine ⟨a, ns, 0, rfl, hS1, ?_⟩
      walk_at "go"
      intro D2 ds2 nD2 hd2
      have s2 := same_new (o := .lst (ds2.map V.int)) nD2
      walk_at "go"
      exact ⟨sD.trans s2, D2, ds2, 420, 400, upd_same, hd2, by decide, by decide, rfl⟩
    clear hS1 hd sD eD nD
    clear ds D H1
    rintro σ' H1 ⟨s1, D, ds, n, m, eD, hd, m0, m1, rfl⟩
    have hS1 := s1.seq hS
    walk_at "go"
    refine ⟨D, n, m, ds, rfl, eD, hd, m0, m1, fun L H2 es s2 nL eL lL gL => ?_⟩
    have hS2 := s2.seq hS1
    have s12 := s1.trans s2
    have hp := gL.pos
    walk_at "go"
    refine ⟨L, es, rfl, SqL.of eL, hp, Nat.le_trans lL (by decide), fun p lp => ?_⟩
    obtain ⟨hpl, ltk, oft⟩ := (of_dv hp).take lp
    walk_at "go"
    refine ⟨L, _, rfl, .inl (SqL.of eL), ?_⟩
    intro R nR
    generalize eH_ : upd H2 R _ = H3
    have s3 : Same H2 H3 := by rw [← eH_]; exact same_new nR
    have eR : H3 R = some (.lst (es.map V.int)) := by rw [← eH_]; exact upd_same
    clear eH_
    have eL3 := s3 _ _ eL
    walk_at "go"
    intro o dx n1 n2 n3
    have sM : Same H3 (upd (upd H3 dx (.own o)) o (.ins C dx [])) := Z.Same.mut (same_new n2) n1
    refine ⟨true, o, dx, R, es, rfl, upd_same, sM _ _ eR, Nat.le_trans lL (by decide), fun hf p2 H4 sb lp2 rA => ⟨rfl, ?_⟩, fun i hf => by rw [gL.fault] at hf; cases hf⟩
    obtain rfl := lp2.uniq lp
    have s34 : Same H3 H4 := fun b x h => sb b x (ne_of_none h n1) (sM _ _ h)
    clear sM sb n1 n2 n3 dx lp2
    have eL4 := s34 _ _ eL3
    have eR4 := s34 _ _ eR
    walk_at "go"
    refine same2 (d := intsD true es) (dp_ints (b := true) (SqL.of eR4)) (dp_ints (b := true) (SqL.of eL4)) (shaped_ints _ _) ?_
    rw [eqv_same (shaped_ints _ _)]
    walk_at "go"
    refine ⟨R, _, _, _, rfl, rfl, SqL.of eR4, at_map (i := 0) (List.getElem?_eq_getElem hp), ?_⟩
    walk_at "go"
    refine ⟨R, _, _, 0, rfl, rfl, eR4, (by unfold ixN; rw [List.length_map, if_pos (by omega), if_pos (by omega)]; rfl), ?_⟩
    have hR5 : RuleAt C K (upd H4 R (.lst ((es.map V.int).set 0 (.int (es[0] - 7))))) o (es.take p2) := rA.sb (SB.upd (Z.Same.sb (Same.refl _))) eR4
    have s25 : Same H2 (upd H4 R (.lst ((es.map V.int).set 0 (.int (es[0] - 7))))) := Z.Same.mut (s3.trans s34) nR
    have eR5 := upd_same (H := H4) (a := R) (o := .lst ((es.map V.int).set 0 (.int (es[0] - 7))))
    generalize upd H4 R _ = H5 at hR5 s25 eR5 ⊢
    walk_at "go"
    refine ⟨.inl ⟨rfl, _, .inl (.inl eR5)⟩, ?_⟩
    walk_at "go"
    refine ⟨_, _, _, rfl, rfl, eR5, ?_, ?_⟩
    · rw [List.length_set, List.length_map]
      exact Nat.lt_of_le_of_lt lL (by decide)
    have hR6 := hR5.sb (SB.upd (o := .lst ((es.map V.int).set 0 (.int (es[0] - 7)) ++ [.int 0])) (Z.Same.sb (Same.refl _))) eR5
    have s26 : Same H2 (upd H5 R (.lst ((es.map V.int).set 0 (.int (es[0] - 7)) ++ [.int 0]))) := Z.Same.mut s25 nR
    generalize upd H5 R _ = H6 at hR6 s26 ⊢
    clear hR5 s25 eR5 rA s34 eR4 eL4 H5
    have eL6 := s26 _ _ eL
    have hR6' := hR6
    obtain ⟨dx, u, a1, a2⟩ := hR6'
    walk_at "go"
    refine ⟨L, _, rfl, SqL.of eL6, ?_⟩
    rw [cut_take hpl]
    intro r nr
    generalize eH_ : upd H6 r _ = H7
    have s7 : Same H6 H7 := by rw [← eH_]; exact same_new nr
    have er : H7 r = some (.lst ((es.take p2).map V.int)) := by rw [← eH_]; exact upd_same
    clear eH_
    walk_at "go"
    refine ⟨u, r, es.take p2, rfl, s7 _ _ a2, SqL.of er, by rw [ltk]; omega, ?_⟩
    have hR7 := hR6.mono s7
    walk_at "go"
    refine ⟨o, dx, _, rfl, s7 _ _ a1, o, es.take p2, rfl, hR7, ?_⟩
    walk_at "go"
    refine ⟨(p2 : Int), by rw [ltk]; rfl, ?_⟩
    have eL7 := s7 _ _ eL6
    walk_at "go"
    refine ⟨L, _, rfl, .inl (SqL.of eL7), ?_⟩
    rw [List.length_map]
    walk_at "go"
    have hq1 : 1 ≤ 400 / es.length := (Nat.le_div_iff_mul_le hp).mpr (by omega)
    have hdv : (400 : Int) / (es.length : Int) = ((400 / es.length : Nat) : Int) := by rw [Int.natCast_ediv]; rfl
    generalize eC : (if (400 : Int) / (es.length : Int) < 3 then (400 : Int) / (es.length : Int) else 3) = cI
    have hc : 1 ≤ cI ∧ cI ≤ ((400 / es.length : Nat) : Int) ∧ cI ≤ 3 := by
      rw [← eC, hdv]
      split <;> omega
    obtain ⟨c, rfl⟩ := Int.eq_ofNat_of_zero_le (show 0 ≤ cI by omega)
    have hc1 : c * es.length ≤ 400 := (Nat.le_div_iff_mul_le hp).mp (by omega)
    rw [Nat.mul_comm] at hc1
    have hcp : 0 < c := by omega
    refine ⟨L, es, c, rfl, SqL.of eL7, hp, by omega, by omega, by omega, fun W H8 s8 nW eW => ?_⟩
    walk_at "go"
    refine ⟨W, _, rfl, .inl ⟨SqL.of eW, ?_⟩⟩
    have oW := ovr_of (k := c) hp hcp
    have gW := ovr_gd (k := c) gL hcp
    have lW : (ovr es (es.length * c)).length ≤ 400 := by rw [ovr_len]; exact hc1
    generalize ovr es (es.length * c) = ws at eW oW gW lW ⊢
    have fW : dv ws = dv es := funext oW.dv
    intro v nv
    generalize eH_ : upd H8 v _ = H9
    have s9 : Same H8 H9 := by rw [← eH_]; exact same_new nv
    have ev : H9 v = some (.tup (ws.map V.int)) := by rw [← eH_]; exact upd_same
    clear eH_
    walk_at "go"
    intro b dx2 n1 n2 n3
    have sM : Same H9 (upd (upd H9 dx2 (.own b)) b (.ins C dx2 [])) := Z.Same.mut (same_new n2) n1
    refine ⟨false, b, dx2, v, ws, rfl, upd_same, sM _ _ ev, Nat.le_trans lW (by decide), fun hf p3 H10 sb lp3 rB => ⟨rfl, ?_⟩, fun i hf => by rw [gW.fault] at hf; cases hf⟩
    rw [fW] at lp3
    obtain rfl := lp3.uniq lp
    obtain ⟨hpw, ltw, ofw⟩ := oW.take lp3
    have eT : ws.take p3 = es.take p3 := ofw.eq oft (by rw [ltw, ltk])
    rw [eT] at rB
    have s910 : Same H9 H10 := fun b x h => sb b x (ne_of_none h n1) (sM _ _ h)
    clear sM sb n1 n2 n3 dx2 lp3
    have s710 : Same H7 H10 := s8.trans (s9.trans s910)
    have hR10 := hR7.mono s710
    have eL10 := s710 _ _ eL7
    have rB' := rB
    obtain ⟨dy, z, b1, b2⟩ := rB'
    walk_at "go"
    refine ⟨L, _, rfl, SqL.of eL10, ?_⟩
    rw [cut_take hpl]
    intro r2 nr2
    generalize eH_ : upd H10 r2 _ = H11
    have s11 : Same H10 H11 := by rw [← eH_]; exact same_new nr2
    have er2 : H11 r2 = some (.lst ((es.take p3).map V.int)) := by rw [← eH_]; exact upd_same
    clear eH_
    walk_at "go"
    refine ⟨z, r2, es.take p3, rfl, s11 _ _ b2, SqL.of er2, by rw [ltk]; omega, ?_⟩
    have hR11 := hR10.mono s11
    have hB11 := rB.mono s11
    walk_at "go"
    refine ⟨o, b, dx, dy, _, _, rfl, rfl, s11 _ _ (s710 _ _ (s7 _ _ a1)), s11 _ _ b1, o, b, _, _, rfl, hR11, hB11, _, rfl, ?_⟩
    rw [decide_eq_true rfl]
    walk_at "go"
    have hS11 := (s26.trans (s7.trans (s710.trans s11))).seq hS2
    have eL11 := s11 _ _ eL10
    have a11 := s11 _ _ (s710 _ _ (s7 _ _ a1))
    refine ⟨a, ns, 2, rfl, hS11, ?_⟩
    walk_at "go"
    refine ⟨Nat.le_trans (Nat.add_le_add_right m1 20) (by decide), fun G gs nG hg => ?_⟩
    have s12 := same_new (o := .lst (gs.map V.int)) nG
    have eG := upd_same (H := H11) (a := G) (o := .lst (gs.map V.int))
    generalize upd H11 G (.lst (gs.map V.int)) = H12 at s12 eG ⊢
    walk_at "go"
    refine ⟨G, _, m, gs, rfl, eG, hg, m0, m1, fun O H13 os s13 nO eO lO => ?_⟩
    walk_at "go"
    refine ⟨O, os, rfl, eO, lO, fun H14 s14 => ?_⟩
    have eO14 := s14 _ _ eO
    have s1114 : Same H11 H14 := s12.trans (s13.trans s14)
    have eL14 := s1114 _ _ eL11
    have hR14 := hR11.mono s1114
    have hB14 := hB11.mono s1114
    have hS14 := s1114.seq hS11
    walk_at "go"
    refine ⟨fun σ' H' => Same H14 H' ∧ ∃ (O : Addr) (os : List Int) (v9 : Option V), H' O = some (.lst (os.map V.int)) ∧ os.length ≤ 400 ∧ fault os = none ∧ σ' = [some (.ref a), some (.ref D), some (.int (m : Int)), some (.ref L), some (.int (p3 : Int)), some (.ref R), some (.ref o), some (.ref b), some (.ref O), v9, none, none], ?_, ?_⟩
    · walk_at "go"
      refine ⟨O, os, rfl, SqL.of eO14, Nat.le_trans lO (by decide), ?_⟩
      walk_at "go"
      refine ite2 (fun e => ?_) (fun e => ?_)
      rotate_left
      · refine ⟨Same.refl _, O, os, none, eO14, lO, ?_, rfl⟩
        cases hf : fault os with
        | none => rfl
        | some i =>
          refine absurd (decide_eq_true ?_) e
          unfold fI
          rw [hf]
          show (0 : Int) ≤ (i : Int)
          omega
      walk_at "go"
      refine ⟨⟨_, SqL.of eL14⟩, fun T nT => ?_⟩
      refine lc_lst (SqL.of eL14) (fun x => x + 1) (by omega) nT (fun _ => rfl) ?_ ?_
      · intro x H15 Q1 hx s15 q1
        walk_at "go"
        exact q1 _ (Same.refl _)
      intro H15 s15 eT
      walk_at "go"
      exact ⟨T, _, none, eT, by rw [List.length_map]; exact lL, gL.shift.fault, rfl⟩
    clear nO lO eO eO14 s12 s13 s14
    clear eG nG hg gs G O os H12 H13
    rintro σ' H15 ⟨s15, O, os, v9, eO, lO, fO, rfl⟩
    have eL15 := s15 _ _ eL14
    have hR15 := hR14.mono s15
    have hB15 := hB14.mono s15
    have hS15 := s15.seq hS14
    have a15 := s15 _ _ (s1114 _ _ a11)
    have gO := fault_gd fO
    have po := gO.pos
    walk_at "go"
    intro o2 dx3 n1 n2 n3
    have sM : Same H15 (upd (upd H15 dx3 (.own o2)) o2 (.ins C dx3 [])) := Z.Same.mut (same_new n2) n1
    refine ⟨true, o2, dx3, O, os, rfl, upd_same, sM _ _ eO, Nat.le_trans lO (by decide), fun hf pp H16 sb lpo rO => ⟨rfl, ?_⟩, fun i hf => by rw [fO] at hf; cases hf⟩
    have s16 : Same H15 H16 := fun b x h => sb b x (ne_of_none h n1) (sM _ _ h)
    clear sM sb n1 n2 n3 dx3
    obtain ⟨hpo, lto, ofo⟩ := (of_dv po).take lpo
    have eL16 := s16 _ _ eL15
    have eO16 := s16 _ _ eO
    walk_at "go"
    refine ⟨L, _, rfl, SqL.of eL16, ?_⟩
    rw [cut_take hpl]
    intro r3 nr3
    generalize eH_ : upd H16 r3 _ = H17
    have s17 : Same H16 H17 := by rw [← eH_]; exact same_new nr3
    have er3 : H17 r3 = some (.lst ((es.take p3).map V.int)) := by rw [← eH_]; exact upd_same
    clear eH_
    walk_at "go"
    refine ⟨O, os, rfl, SqL.of (s17 _ _ eO16), po, Nat.le_trans lO (by decide), fun p4 lp4 => ?_⟩
    obtain rfl := lp4.uniq lpo
    walk_at "go"
    refine ⟨O, _, rfl, SqL.of (s17 _ _ eO16), ?_⟩
    rw [cut_take hpo]
    intro r4 nr4
    generalize eH_ : upd H17 r4 _ = H18
    have s18 : Same H17 H18 := by rw [← eH_]; exact same_new nr4
    have er4 : H18 r4 = some (.lst ((os.take p4).map V.int)) := by rw [← eH_]; exact upd_same
    clear eH_
    refine ⟨_, _, dp_ints (b := true) (SqL.of (s18 _ _ er3)), dp_ints (b := true) (SqL.of er4), shaped_ints _ _, shaped_ints _ _, ?_⟩
    rw [eqv_ints]
    have s1518 := s16.trans (s17.trans s18)
    have hR18 := hR15.mono s1518
    have hB18 := hB15.mono s1518
    have rO18 := (rO.mono s17).mono s18
    have eL18 := s1518 _ _ eL15
    have eO18 := s18 _ _ (s17 _ _ eO16)
    have hS18 := s1518.seq hS15
    have a18 := s1518 _ _ a15
    generalize hb : decide (List.take p3 es = List.take p4 os) = bb
    have rO18' := rO18
    obtain ⟨dz, z3, c1, c2⟩ := rO18'
    cases bb
    all_goals
      walk_at "go"
      refine ⟨o, o2, dx, dz, _, _, rfl, rfl, a18, c1, o, o2, _, _, rfl, hR18, rO18, _, rfl, ?_⟩
      rw [hb]
      walk_at "go"
      refine ⟨L, _, rfl, .inl (SqL.of eL18), ?_⟩
      rw [List.length_map]
      walk_at "go"
      refine ⟨a, ns, es.length, rfl, hS18, hl, by omega, fun AL H19 xs s19 nA eA h12 hx => ?_⟩
      walk_at "go"
      refine ⟨⟨_, SqL.of eA⟩, ?_⟩
      refine for_lst (SqL.of eA) (fun k σ H1 => Same H19 H1 ∧ ∃ v9 bx : Option V, σ = [some (.ref a), some (.ref D), some (.int (m : Int)), some (.ref L), some (.int (p3 : Int)), some (.ref R), some (.ref o), some (.ref b), some (.ref O), v9, some (.ref o2), bx]) ⟨Same.refl _, _, _, rfl⟩ (fun k σ H1 p => p.1) ?_ ?_
      · rintro k x σ H20 ex ⟨s20, v9, bx, rfl⟩
        have s1820 := s19.trans s20
        walk_at "go"
        refine ⟨⟨_, _, s1820 _ _ a18⟩, o, _, x, rfl, hR18.mono s1820, by rw [ltk]; exact lp.pos, by rw [ltk]; omega, ?_⟩
        walk_at "go"
        refine ⟨L, es, x, rfl, SqL.of (s1820 _ _ eL18), hp, by omega, ?_⟩
        walk_at "go"
        refine ⟨dv es x, by rw [oft.dv]; rfl, ?_⟩
        walk_at "go"
        refine ⟨⟨_, _, s1820 _ _ c1⟩, o2, _, x, rfl, rO18.mono s1820, by rw [lto]; exact lpo.pos, by rw [lto]; omega, ?_⟩
        walk_at "go"
        refine ⟨O, os, x, rfl, SqL.of (s1820 _ _ eO18), po, by omega, ?_⟩
        walk_at "go"
        refine ⟨dv os x, by rw [ofo.dv]; rfl, ?_⟩
        walk_at "go"
        refine ⟨⟨_, _, s1820 _ _ a18⟩, o, _, x, rfl, hR18.mono s1820, by rw [ltk]; exact lp.pos, by rw [ltk]; omega, ?_⟩
        walk_at "go"
        refine ⟨L, es, x, rfl, SqL.of (s1820 _ _ eL18), hp, by omega, ?_⟩
        walk_at "go"
        refine ⟨dv es x, by rw [oft.dv]; rfl, ?_⟩
        walk_at "go"
        obtain ⟨dxb, zb, d1, d2⟩ := hB18
        refine ⟨⟨_, _, s1820 _ _ d1⟩, b, _, x, rfl, RuleAt.mono s1820 ⟨dxb, zb, d1, d2⟩, by rw [ltk]; exact lp.pos, by rw [ltk]; omega, ?_⟩
        walk_at "go"
        refine ⟨L, es, x, rfl, SqL.of (s1820 _ _ eL18), hp, by omega, ?_⟩
        walk_at "go"
        refine ⟨dv es x, by rw [oft.dv]; rfl, ?_⟩
        walk_at "go"
        exact ⟨_, _, rfl⟩
      · rintro σ H20 ⟨s20, v9, bx, rfl⟩
        walk_at "go"
        refine ⟨a, ns, 1, rfl, (s19.trans s20).seq hS18, hl, by decide, fun BL H21 ys s21 nB eB h12 hy => ?_⟩
        have h12 := h12 (Nat.le_refl _)
        walk_at "go"
        refine rd_at (SqL.of eB) (by decide) (by omega) ?_
        walk_at "go"
        exact fun H9 => q H9
end
end Z
set_option pp.maxSteps 700
set_option Elab.async false
set_option linter.all false
set_option maxRecDepth 100000
set_option maxHeartbeats 4000000
set_option maxHeartbeats 0
namespace Z
open PySem PySem.Spec PyProof.Rows L2 Dy
def d_check_days : He.DefD := ⟨("check_days", none), "check_days", "check_days", defArgs s_check_days, defBody s_check_days, defScope s_check_days, [], []⟩
def d_least_period : He.DefD := ⟨("least_period", none), "least_period", "least_period", defArgs s_least_period, defBody s_least_period, defScope s_least_period, [], []⟩
def d_day_at : He.DefD := ⟨("day_at", none), "day_at", "day_at", defArgs s_day_at, defBody s_day_at, defScope s_day_at, [], []⟩
def d_DayRule___init__ : He.DefD := ⟨("DayRule", some "__init__"), "__init__", "DayRule.__init__", defArgs s_DayRule___init__, defBody s_DayRule___init__, defScope s_DayRule___init__, [], []⟩
def d_DayRule___call__ : He.DefD := ⟨("DayRule", some "__call__"), "__call__", "DayRule.__call__", defArgs s_DayRule___call__, defBody s_DayRule___call__, defScope s_DayRule___call__, [], []⟩
def d_DayRule___eq__ : He.DefD := ⟨("DayRule", some "__eq__"), "__eq__", "DayRule.__eq__", defArgs s_DayRule___eq__, defBody s_DayRule___eq__, defScope s_DayRule___eq__, [], []⟩
def d_cell : He.DefD := ⟨("_law_cell", none), "_law_cell", "_law_cell", defArgs s_cell, defBody s_cell, defScope s_cell, [], []⟩
def d_draws : He.DefD := ⟨("_law_draws", none), "_law_draws", "_law_draws", defArgs s_draws, defBody s_draws, defScope s_draws, [], []⟩
def d_take : He.DefD := ⟨("_law_take", none), "_law_take", "_law_take", defArgs s_take, defBody s_take, defScope s_take, [], []⟩
def d_whole : He.DefD := ⟨("_law_whole", none), "_law_whole", "_law_whole", defArgs s_whole, defBody s_whole, defScope s_whole, [], []⟩
def d_same : He.DefD := ⟨("_law_same", none), "_law_same", "_law_same", defArgs s_same, defBody s_same, defScope s_same, [], []⟩
def d_row_is : He.DefD := ⟨("_law_row_is", none), "_law_row_is", "_law_row_is", defArgs s_row_is, defBody s_row_is, defScope s_row_is, [], []⟩
def d_first : He.DefD := ⟨("_law_first", none), "_law_first", "_law_first", defArgs s_first, defBody s_first, defScope s_first, [], []⟩
def d_size : He.DefD := ⟨("_law_size", none), "_law_size", "_law_size", defArgs s_size, defBody s_size, defScope s_size, [], []⟩
def d_days : He.DefD := ⟨("_law_days", none), "_law_days", "_law_days", defArgs s_days, defBody s_days, defScope s_days, [], []⟩
def d_value : He.DefD := ⟨("_law_value", none), "_law_value", "_law_value", defArgs s_value, defBody s_value, defScope s_value, [], []⟩
def d_repeats : He.DefD := ⟨("_law_repeats", none), "_law_repeats", "_law_repeats", defArgs s_repeats, defBody s_repeats, defScope s_repeats, [], []⟩
def d_least : He.DefD := ⟨("_law_least", none), "_law_least", "_law_least", defArgs s_least, defBody s_least, defScope s_least, [], []⟩
def d_over : He.DefD := ⟨("_law_over", none), "_law_over", "_law_over", defArgs s_over, defBody s_over, defScope s_over, [], []⟩
def d_written : He.DefD := ⟨("_law_written", none), "_law_written", "_law_written", defArgs s_written, defBody s_written, defScope s_written, [], []⟩
def d_odd : He.DefD := ⟨("_law_odd", none), "_law_odd", "_law_odd", defArgs s_odd, defBody s_odd, defScope s_odd, [], []⟩
def d_fault : He.DefD := ⟨("_law_fault", none), "_law_fault", "_law_fault", defArgs s_fault, defBody s_fault, defScope s_fault, [], []⟩
def d_told : He.DefD := ⟨("_law_told", none), "_law_told", "_law_told", defArgs s_told, defBody s_told, defScope s_told, [], []⟩
def d_is_refused : He.DefD := ⟨("_law_is_refused", none), "_law_is_refused", "_law_is_refused", defArgs s_is_refused, defBody s_is_refused, defScope s_is_refused, [], []⟩
def d_bound_holds : He.DefD := ⟨("_law_bound_holds", none), "_law_bound_holds", "_law_bound_holds", defArgs s_bound_holds, defBody s_bound_holds, defScope s_bound_holds, [], []⟩
def d_asked : He.DefD := ⟨("_law_asked", none), "_law_asked", "_law_asked", defArgs s_asked, defBody s_asked, defScope s_asked, [], []⟩
def d_odd_holds : He.DefD := ⟨("_law_odd_holds", none), "_law_odd_holds", "_law_odd_holds", defArgs s_odd_holds, defBody s_odd_holds, defScope s_odd_holds, [], []⟩
def d_law : He.DefD := ⟨("law", none), "law", "law", defArgs s_law, defBody s_law, defScope s_law, [], []⟩
abbrev s_BadDays___init__ : Stmt := inClass (topS 6) 0
theorem xn_BadDays {P : Program} {w : World} {K : PySem.W.Frag} {mg : Str → Option Value} {base : Heap} {fl : Str} (h1 : supObs K "BadDays" = supVal "BadDays.__init__" s_BadDays___init__) (h : ExnF K (He.ga K "BadDays") "BadDays.__init__" "at" fl) (hfl : ((P.main.file : Str) == fl) = true) (htop : (P.main.scope.names.lookup ("super" : Str)).isSome = false) (g : mg "BadDays" = some (.ref (He.ga K "BadDays"))) (m_super : mg "super" = none) : Exn P w K mg base "BadDays" (He.ga K "BadDays") "at" := by
  obtain ⟨c, cc, fd, kV, doc, pm, ct, an, hfd, S, hcd⟩ := sup_of h1 h.sup hfl htop
  refine ⟨S.oex, g, He.ma K _ "__init__", fd, ["self", "at"], h.ini, h.ty, ?_, ?_⟩
  · exact exn_ok (v := "at") (F := ⟨"__init__", "BadDays.__init__", defArgs s_BadDays___init__, defBody s_BadDays___init__, defScope s_BadDays___init__, [("__class__", cc)], c⟩) hfd S hcd (NdefX.nscope_by (sc := defScope s_BadDays___init__) (by decide +kernel)) rfl rfl rfl (show (defScope s_BadDays___init__).names.lookup ("super" : Str) = some .globalImplicit by decide +kernel) m_super h.no (by decide) (by decide) rfl (fun _ _ _ _ _ => rfl) (fun _ _ _ _ _ => rfl) (fun _ _ _ _ _ => rfl) (fun _ _ _ _ _ => rfl)
  · subst hfd
    exact Binds.all fun us hl => match us, hl with | [_, _], _ => rfl
def xns : List (PySem.W.Frag → SupV) := [fun K => supObs K "BadDays", propObs "DayRule" "period"]
def exPr (K : PySem.W.Frag) : List Bool := [propB K (He.ga K "DayRule") "period" "DayRule.period"]
def xvs : List SupV := [supVal "BadDays.__init__" s_BadDays___init__, propVal "period" "DayRule.period" s_DayRule_period]
def exXn (fl : Str) (K : PySem.W.Frag) : List Bool := [exnB fl "BadDays.__init__" "at" K (He.ga K "BadDays")]
def fn : List He.DefD := [d_check_days, d_least_period, d_day_at, d_DayRule___init__, d_DayRule___call__, d_DayRule___eq__, d_cell, d_draws, d_take, d_whole, d_same, d_row_is, d_first, d_size, d_days, d_value, d_repeats, d_least, d_over, d_written, d_odd, d_fault, d_told, d_is_refused, d_bound_holds, d_asked, d_odd_holds, d_law]
def fa : List He.Fa := [.glo "check_days", .glo "least_period", .glo "day_at", .glo "_law_cell", .glo "_law_draws", .glo "_law_take", .glo "_law_whole", .glo "_law_same", .glo "_law_row_is", .glo "_law_first", .glo "_law_size", .glo "_law_days", .glo "_law_value", .glo "_law_repeats", .glo "_law_least", .glo "_law_over", .glo "_law_written", .glo "_law_odd", .glo "_law_fault", .glo "_law_told", .glo "_law_is_refused", .glo "_law_bound_holds", .glo "_law_asked", .glo "_law_odd_holds", .glo "law", .free "ValueError", .free "abs", .free "all", .free "bool", .free "int", .free "isinstance", .free "len", .free "list", .free "max", .free "min", .free "range", .free "super", .free "tuple", .glo "DayRule", .cls "DayRule", .mkr "DayRule", .noat "DayRule" "days", .glo "HouseError", .glo "BadCount", .glo "BadDays"]
def loose : List Str := ["_wall", "common_divisor", "HouseError", "BadCount", "BadDays", "check_days", "least_period", "day_at", "used_times", "common_period", "DayRule", "_law_cell", "_law_draws", "_law_take", "_law_whole", "_law_same", "_law_row_is", "_law_first", "_law_size", "_law_days", "_law_value", "_law_repeats", "_law_least", "_law_over", "_law_written", "_law_odd", "_law_fault", "_law_told", "_law_is_refused", "_law_bound_holds", "_law_asked", "_law_odd_holds"]
def fl : Str := PySem.Challenge.pw_signedpacts_k60_day_rule_values.main.file
def exL (K : PySem.W.Frag) : List Bool := [isB K (He.ga K "DayRule"), spB K (He.ga K "DayRule") "__call__", spB K (He.ga K "DayRule") "__eq__",
  exmB K (He.ga K "BadDays") (He.ga K "BadDays"), exmB K (He.ga K "BadDays") (He.ga K "HouseError"),
  kitVB K (He.ga K "BadDays") (.type "ValueError") true, kitVB K (He.ga K "BadDays") (.ref (He.ga K "BadDays")) true, kitVB K (He.ga K "BadDays") (.ref (He.ga K "HouseError")) true, kitVB K (He.ga K "BadDays") (.ref (He.ga K "BadCount")) false]
def ex (K : PySem.W.Frag) : Bool := (exL K).all id && ((exXn fl K).all id && (exPr K).all id)
abbrev R : PySem.W.OpenRow := PySem.W.OpenLaw.row PySem.Challenge.rw_signedpacts_k60_day_rule_values
abbrev hk : PySem.W.Hook := hookY 5 fa fn xns xvs ex
def ob (s : PySem.W.SharedT) : He.AlD × (List SupV × Bool) := obY 5 fa fn xns ex (HandSHeadRun.getT s)
theorem ob_eq (s : PySem.W.SharedT) : ob s = hk.obs s.abs := obY_eq (HandSHeadRun.getT_eq s)
theorem run (w : World) : HandSHeadRun.RunEq R (PySem.W.view R.prog [36]) hk ob 8000 loose w := by
  intro os
  kernel_rfl
theorem facts {P : Program} {w : World} {K : PySem.W.Frag} {h : Heap} {mg : Str → Option Value} {f : Addr} (X : K.In h) (G : h.Ns mainGlobals mg) (hfa : mg ("law" : Str) = some (.ref f)) (c : He.SaysD fa fn K) (cs : xns.map (fun f => f K) = xvs) (cx : ex K = true) (hfl : ((P.main.file : Str) == fl) = true) (htop : (P.main.scope.names.lookup ("super" : Str)).isSome = false) :
    ∃ fd : FuncData, (∀ (s : Shared) (v : Value), BindsTo s fd ⟨[v], []⟩ [("_law_script", v)]) ∧ ∀ base : Heap, K.In base → base.Ns mainGlobals mg → FnOk P w K mg base CX0 8 f fd ["_law_script"] (spLaw K) := by
  obtain ⟨cx, cy⟩ := He.ba cx
  obtain ⟨cy, cp⟩ := He.ba cy
  obtain ⟨fd_check_days, F_check_days⟩ := c.def_ 0 (d := d_check_days) rfl
  have F_check_days : FnP K "check_days" s_check_days _ fd_check_days := F_check_days
  have g_check_days := He.glo_ok X G (c.fact 0 (f := .glo "check_days") rfl)
  have b_check_days : Binds K fd_check_days P_check_days [] := F_check_days.bindsN fun _ _ _ _ _ _ us hl => match us, hl with | [_], _ => rfl
  obtain ⟨fd_least_period, F_least_period⟩ := c.def_ 1 (d := d_least_period) rfl
  have F_least_period : FnP K "least_period" s_least_period _ fd_least_period := F_least_period
  have g_least_period := He.glo_ok X G (c.fact 1 (f := .glo "least_period") rfl)
  have b_least_period : Binds K fd_least_period P_least_period [] := F_least_period.bindsN fun _ _ _ _ _ _ us hl => match us, hl with | [_], _ => rfl
  obtain ⟨fd_day_at, F_day_at⟩ := c.def_ 2 (d := d_day_at) rfl
  have F_day_at : FnP K "day_at" s_day_at _ fd_day_at := F_day_at
  have g_day_at := He.glo_ok X G (c.fact 2 (f := .glo "day_at") rfl)
  have b_day_at : Binds K fd_day_at P_day_at [] := F_day_at.bindsN fun _ _ _ _ _ _ us hl => match us, hl with | [_, _], _ => rfl
  obtain ⟨fd_DayRule___init__, F_DayRule___init__⟩ := c.def_ 3 (d := d_DayRule___init__) rfl
  have F_DayRule___init__ : FnM K "__init__" "DayRule.__init__" s_DayRule___init__ (He.ma K (He.ga K "DayRule") "__init__") fd_DayRule___init__ := F_DayRule___init__
  have b_DayRule___init__ : Binds K fd_DayRule___init__ P_DayRule___init__ [] := F_DayRule___init__.bindsN fun _ _ _ _ _ _ us hl => match us, hl with | [_, _], _ => rfl
  obtain ⟨fd_DayRule___call__, F_DayRule___call__⟩ := c.def_ 4 (d := d_DayRule___call__) rfl
  have F_DayRule___call__ : FnM K "__call__" "DayRule.__call__" s_DayRule___call__ (He.ma K (He.ga K "DayRule") "__call__") fd_DayRule___call__ := F_DayRule___call__
  have b_DayRule___call__ : Binds K fd_DayRule___call__ P_DayRule___call__ [] := F_DayRule___call__.bindsN fun _ _ _ _ _ _ us hl => match us, hl with | [_, _], _ => rfl
  obtain ⟨fd_DayRule___eq__, F_DayRule___eq__⟩ := c.def_ 5 (d := d_DayRule___eq__) rfl
  have F_DayRule___eq__ : FnM K "__eq__" "DayRule.__eq__" s_DayRule___eq__ (He.ma K (He.ga K "DayRule") "__eq__") fd_DayRule___eq__ := F_DayRule___eq__
  have b_DayRule___eq__ : Binds K fd_DayRule___eq__ P_DayRule___eq__ [] := F_DayRule___eq__.bindsN fun _ _ _ _ _ _ us hl => match us, hl with | [_, _], _ => rfl
  obtain ⟨fd_cell, F_cell⟩ := c.def_ 6 (d := d_cell) rfl
  have F_cell : FnP K "_law_cell" s_cell _ fd_cell := F_cell
  have g_cell := He.glo_ok X G (c.fact 3 (f := .glo "_law_cell") rfl)
  have b_cell : Binds K fd_cell P_cell [] := F_cell.bindsN fun _ _ _ _ _ _ us hl => match us, hl with | [_, _], _ => rfl
  obtain ⟨fd_draws, F_draws⟩ := c.def_ 7 (d := d_draws) rfl
  have F_draws : FnP K "_law_draws" s_draws _ fd_draws := F_draws
  have g_draws := He.glo_ok X G (c.fact 4 (f := .glo "_law_draws") rfl)
  have b_draws : Binds K fd_draws P_draws [] := F_draws.bindsN fun _ _ _ _ _ _ us hl => match us, hl with | [_, _], _ => rfl
  obtain ⟨fd_take, F_take⟩ := c.def_ 8 (d := d_take) rfl
  have F_take : FnP K "_law_take" s_take _ fd_take := F_take
  have g_take := He.glo_ok X G (c.fact 5 (f := .glo "_law_take") rfl)
  have b_take : Binds K fd_take P_take [] := F_take.bindsN fun _ _ _ _ _ _ us hl => match us, hl with | [_, _], _ => rfl
  obtain ⟨fd_whole, F_whole⟩ := c.def_ 9 (d := d_whole) rfl
  have F_whole : FnP K "_law_whole" s_whole _ fd_whole := F_whole
  have g_whole := He.glo_ok X G (c.fact 6 (f := .glo "_law_whole") rfl)
  have b_whole : Binds K fd_whole P_whole [] := F_whole.bindsN fun _ _ _ _ _ _ us hl => match us, hl with | [_], _ => rfl
  obtain ⟨fd_same, F_same⟩ := c.def_ 10 (d := d_same) rfl
  have F_same : FnP K "_law_same" s_same _ fd_same := F_same
  have g_same := He.glo_ok X G (c.fact 7 (f := .glo "_law_same") rfl)
  have b_same : Binds K fd_same P_same [] := F_same.bindsN fun _ _ _ _ _ _ us hl => match us, hl with | [_, _], _ => rfl
  obtain ⟨fd_row_is, F_row_is⟩ := c.def_ 11 (d := d_row_is) rfl
  have F_row_is : FnP K "_law_row_is" s_row_is _ fd_row_is := F_row_is
  have g_row_is := He.glo_ok X G (c.fact 8 (f := .glo "_law_row_is") rfl)
  have b_row_is : Binds K fd_row_is P_row_is [] := F_row_is.bindsN fun _ _ _ _ _ _ us hl => match us, hl with | [_, _], _ => rfl
  obtain ⟨fd_first, F_first⟩ := c.def_ 12 (d := d_first) rfl
  have F_first : FnP K "_law_first" s_first _ fd_first := F_first
  have g_first := He.glo_ok X G (c.fact 9 (f := .glo "_law_first") rfl)
  have b_first : Binds K fd_first P_first [] := F_first.bindsN fun _ _ _ _ _ _ us hl => match us, hl with | [_, _], _ => rfl
  obtain ⟨fd_size, F_size⟩ := c.def_ 13 (d := d_size) rfl
  have F_size : FnP K "_law_size" s_size _ fd_size := F_size
  have g_size := He.glo_ok X G (c.fact 10 (f := .glo "_law_size") rfl)
  have b_size : Binds K fd_size P_size [] := F_size.bindsN fun _ _ _ _ _ _ us hl => match us, hl with | [_, _, _], _ => rfl
  obtain ⟨fd_days, F_days⟩ := c.def_ 14 (d := d_days) rfl
  have F_days : FnP K "_law_days" s_days _ fd_days := F_days
  have g_days := He.glo_ok X G (c.fact 11 (f := .glo "_law_days") rfl)
  have b_days : Binds K fd_days P_days [] := F_days.bindsN fun _ _ _ _ _ _ us hl => match us, hl with | [_, _, _], _ => rfl
  obtain ⟨fd_value, F_value⟩ := c.def_ 15 (d := d_value) rfl
  have F_value : FnP K "_law_value" s_value _ fd_value := F_value
  have g_value := He.glo_ok X G (c.fact 12 (f := .glo "_law_value") rfl)
  have b_value : Binds K fd_value P_value [] := F_value.bindsN fun _ _ _ _ _ _ us hl => match us, hl with | [_, _], _ => rfl
  obtain ⟨fd_repeats, F_repeats⟩ := c.def_ 16 (d := d_repeats) rfl
  have F_repeats : FnP K "_law_repeats" s_repeats _ fd_repeats := F_repeats
  have g_repeats := He.glo_ok X G (c.fact 13 (f := .glo "_law_repeats") rfl)
  have b_repeats : Binds K fd_repeats P_repeats [] := F_repeats.bindsN fun _ _ _ _ _ _ us hl => match us, hl with | [_, _], _ => rfl
  obtain ⟨fd_least, F_least⟩ := c.def_ 17 (d := d_least) rfl
  have F_least : FnP K "_law_least" s_least _ fd_least := F_least
  have g_least := He.glo_ok X G (c.fact 14 (f := .glo "_law_least") rfl)
  have b_least : Binds K fd_least P_least [] := F_least.bindsN fun _ _ _ _ _ _ us hl => match us, hl with | [_], _ => rfl
  obtain ⟨fd_over, F_over⟩ := c.def_ 18 (d := d_over) rfl
  have F_over : FnP K "_law_over" s_over _ fd_over := F_over
  have g_over := He.glo_ok X G (c.fact 15 (f := .glo "_law_over") rfl)
  have b_over : Binds K fd_over P_over [] := F_over.bindsN fun _ _ _ _ _ _ us hl => match us, hl with | [_, _], _ => rfl
  obtain ⟨fd_written, F_written⟩ := c.def_ 19 (d := d_written) rfl
  have F_written : FnP K "_law_written" s_written _ fd_written := F_written
  have g_written := He.glo_ok X G (c.fact 16 (f := .glo "_law_written") rfl)
  have b_written : Binds K fd_written P_written [] := F_written.bindsN fun _ _ _ _ _ _ us hl => match us, hl with | [_, _], _ => rfl
  obtain ⟨fd_odd, F_odd⟩ := c.def_ 20 (d := d_odd) rfl
  have F_odd : FnP K "_law_odd" s_odd _ fd_odd := F_odd
  have g_odd := He.glo_ok X G (c.fact 17 (f := .glo "_law_odd") rfl)
  have b_odd : Binds K fd_odd P_odd [] := F_odd.bindsN fun _ _ _ _ _ _ us hl => match us, hl with | [_, _], _ => rfl
  obtain ⟨fd_fault, F_fault⟩ := c.def_ 21 (d := d_fault) rfl
  have F_fault : FnP K "_law_fault" s_fault _ fd_fault := F_fault
  have g_fault := He.glo_ok X G (c.fact 18 (f := .glo "_law_fault") rfl)
  have b_fault : Binds K fd_fault P_fault [] := F_fault.bindsN fun _ _ _ _ _ _ us hl => match us, hl with | [_], _ => rfl
  obtain ⟨fd_told, F_told⟩ := c.def_ 22 (d := d_told) rfl
  have F_told : FnP K "_law_told" s_told _ fd_told := F_told
  have g_told := He.glo_ok X G (c.fact 19 (f := .glo "_law_told") rfl)
  have b_told : Binds K fd_told P_told [] := F_told.bindsN fun _ _ _ _ _ _ us hl => match us, hl with | [_], _ => rfl
  obtain ⟨fd_is_refused, F_is_refused⟩ := c.def_ 23 (d := d_is_refused) rfl
  have F_is_refused : FnP K "_law_is_refused" s_is_refused _ fd_is_refused := F_is_refused
  have g_is_refused := He.glo_ok X G (c.fact 20 (f := .glo "_law_is_refused") rfl)
  have b_is_refused : Binds K fd_is_refused P_is_refused [] := F_is_refused.bindsN fun _ _ _ _ _ _ us hl => match us, hl with | [_], _ => rfl
  obtain ⟨fd_bound_holds, F_bound_holds⟩ := c.def_ 24 (d := d_bound_holds) rfl
  have F_bound_holds : FnP K "_law_bound_holds" s_bound_holds _ fd_bound_holds := F_bound_holds
  have g_bound_holds := He.glo_ok X G (c.fact 21 (f := .glo "_law_bound_holds") rfl)
  have b_bound_holds : Binds K fd_bound_holds P_bound_holds [] := F_bound_holds.bindsN fun _ _ _ _ _ _ us hl => match us, hl with | [_], _ => rfl
  obtain ⟨fd_asked, F_asked⟩ := c.def_ 25 (d := d_asked) rfl
  have F_asked : FnP K "_law_asked" s_asked _ fd_asked := F_asked
  have g_asked := He.glo_ok X G (c.fact 22 (f := .glo "_law_asked") rfl)
  have b_asked : Binds K fd_asked P_asked [] := F_asked.bindsN fun _ _ _ _ _ _ us hl => match us, hl with | [_, _], _ => rfl
  obtain ⟨fd_odd_holds, F_odd_holds⟩ := c.def_ 26 (d := d_odd_holds) rfl
  have F_odd_holds : FnP K "_law_odd_holds" s_odd_holds _ fd_odd_holds := F_odd_holds
  have g_odd_holds := He.glo_ok X G (c.fact 23 (f := .glo "_law_odd_holds") rfl)
  have b_odd_holds : Binds K fd_odd_holds P_odd_holds [] := F_odd_holds.bindsN fun _ _ _ _ _ _ us hl => match us, hl with | [_], _ => rfl
  obtain ⟨fd_law, F_law⟩ := c.def_ 27 (d := d_law) rfl
  have F_law : FnP K "law" s_law _ fd_law := F_law
  have g_law := He.glo_ok X G (c.fact 24 (f := .glo "law") rfl)
  have m_ValueError := He.free_ok X G (c.fact 25 (f := .free "ValueError") rfl)
  have m_abs := He.free_ok X G (c.fact 26 (f := .free "abs") rfl)
  have m_all := He.free_ok X G (c.fact 27 (f := .free "all") rfl)
  have m_bool := He.free_ok X G (c.fact 28 (f := .free "bool") rfl)
  have m_int := He.free_ok X G (c.fact 29 (f := .free "int") rfl)
  have m_isinstance := He.free_ok X G (c.fact 30 (f := .free "isinstance") rfl)
  have m_len := He.free_ok X G (c.fact 31 (f := .free "len") rfl)
  have m_list := He.free_ok X G (c.fact 32 (f := .free "list") rfl)
  have m_max := He.free_ok X G (c.fact 33 (f := .free "max") rfl)
  have m_min := He.free_ok X G (c.fact 34 (f := .free "min") rfl)
  have m_range := He.free_ok X G (c.fact 35 (f := .free "range") rfl)
  have m_super := He.free_ok X G (c.fact 36 (f := .free "super") rfl)
  have m_tuple := He.free_ok X G (c.fact 37 (f := .free "tuple") rfl)
  have g_DayRule := He.glo_ok X G (c.fact 38 (f := .glo "DayRule") rfl)
  have cls_DayRule := He.cls_ok (c.fact 39 (f := .cls "DayRule") rfl)
  have mk_DayRule := He.mkr_ok (c.fact 40 (f := .mkr "DayRule") rfl)
  have n_DayRule_days := He.noat_ok (c.fact 41 (f := .noat "DayRule" "days") rfl)
  have g_HouseError := He.glo_ok X G (c.fact 42 (f := .glo "HouseError") rfl)
  have g_BadCount := He.glo_ok X G (c.fact 43 (f := .glo "BadCount") rfl)
  have g_BadDays := He.glo_ok X G (c.fact 44 (f := .glo "BadDays") rfl)
  obtain ⟨fd_DayRule_period, p_DayRule_period, F_DayRule_period⟩ := prop_of (x := "DayRule") (m := "period") (q := "DayRule.period") (st := s_DayRule_period) (y_at cs 1) (all_at cp 0)
  have b_DayRule_period : Binds K fd_DayRule_period P_DayRule_period [] := F_DayRule_period.bindsN fun _ _ _ _ _ _ us hl => match us, hl with | [_], _ => rfl
  have f_BadDays := exnB_ok (all_at cy 0)
  have x_BadDays : ∀ base : Heap, Exn P w K mg base "BadDays" (He.ga K "BadDays") "at" := fun base => xn_BadDays (y_at cs 0) f_BadDays hfl htop g_BadDays m_super
  have isC := isB_ok cls_DayRule (all_at cx 0)
  obtain ⟨y1, y2, y3⟩ := spB_ok (all_at cx 1)
  obtain ⟨z1, z2, z3⟩ := spB_ok (all_at cx 2)
  have teDD := of_decide_eq_true (all_at cx 3)
  have teDH := of_decide_eq_true (all_at cx 4)
  have kDV := of_decide_eq_true (all_at cx 5)
  have kDD := of_decide_eq_true (all_at cx 6)
  have kDH := of_decide_eq_true (all_at cx 7)
  have kDC := of_decide_eq_true (all_at cx 8)
  have e := hfa.symm.trans g_law
  cases e
  have b := FunD.bindsA (ps := ["_law_script"]) F_law fun _ _ _ _ _ _ us hl => match us, hl with | [_], _ => rfl
  refine ⟨fd_law, fun s v => b s [v] rfl, fun base _ _ => ?_⟩
  have c_cell : Cal P w K mg base 1 "_law_cell" (spCell K) := cal_of F_cell g_cell b_cell (ok_cell F_cell m_len m_int)
  have c_draws : Cal P w K mg base 1 "_law_draws" spDraws := cal_of F_draws g_draws b_draws (ok_draws F_draws m_int m_abs m_range)
  have c_take : Cal P w K mg base 1 "_law_take" (spTake K) := cal_of F_take g_take b_take (ok_take F_take m_len)
  have c_check_days : CalX P w K mg base 3 "check_days" (spCheck (He.ga K "BadDays") K) := ⟨_, _, _, ok_check_days F_check_days m_len m_range (x_BadDays base), g_check_days, F_check_days.kp, b_check_days⟩
  have c_day_at : Cal P w K mg base 1 "day_at" (spDayAt K) := cal_of F_day_at g_day_at b_day_at (ok_day_at F_day_at m_len)
  have c_least_period : Cal P w K mg base 1 "least_period" (spLeast K) := cal_of F_least_period g_least_period b_least_period (ok_least_period F_least_period m_len m_range m_all)
  have k_DayRule : MakX P w K mg base 4 "DayRule" (He.ga K "DayRule") (spInit (He.ga K "DayRule") (He.ga K "BadDays") K) := ⟨_, _, _, mk_DayRule, ok_init F_DayRule___init__ cls_DayRule n_DayRule_days m_tuple c_check_days c_least_period, g_DayRule, b_DayRule___init__⟩
  have co_call : Cob P w K mg base 2 (He.ga K "DayRule") (spCallR (He.ga K "DayRule") K) := ⟨_, ⟨y1, y2, y3⟩, fnr_ok (ok_call F_DayRule___call__ cls_DayRule n_DayRule_days c_day_at) b_DayRule___call__⟩
  have e_DayRule : Eqo P w K mg base 1 (He.ga K "DayRule") (spEqR (He.ga K "DayRule") K) := ⟨_, _, _, ok_eq F_DayRule___eq__ isC m_isinstance g_DayRule cls_DayRule n_DayRule_days, z1, z2, b_DayRule___eq__⟩
  have c_whole : Cal P w K mg base 1 "_law_whole" spWhole := cal_of F_whole g_whole b_whole (ok_whole F_whole m_isinstance m_int m_bool)
  have c_same : Cal P w K mg base 2 "_law_same" spSame := cal_of F_same g_same b_same (ok_same F_same c_whole)
  have c_row_is : Cal P w K mg base 3 "_law_row_is" (spRow K) := cal_of F_row_is g_row_is b_row_is (ok_row_is F_row_is m_isinstance m_tuple m_len m_range c_same)
  have c_value : Cal P w K mg base 1 "_law_value" (spValue K) := cal_of F_value g_value b_value (ok_value F_value m_len m_int)
  have c_repeats : Cal P w K mg base 2 "_law_repeats" (spRepeats K) := cal_of F_repeats g_repeats b_repeats (ok_repeats F_repeats m_len m_range c_value)
  have c_least : Cal P w K mg base 3 "_law_least" (spLeastL K) := cal_of F_least g_least b_least (ok_least F_least m_len m_range c_repeats)
  have c_first : Cal P w K mg base 1 "_law_first" spFirst := cal_of F_first g_first b_first (ok_first F_first m_int m_range)
  have c_size : Cal P w K mg base 2 "_law_size" (spSize K) := cal_of F_size g_size b_size (ok_size F_size m_int c_take)
  have c_days : Cal P w K mg base 2 "_law_days" (spDays K) := cal_of F_days g_days b_days (ok_days F_days m_int m_range m_min c_take c_first)
  have c_over : Cal P w K mg base 1 "_law_over" (spOver K) := cal_of F_over g_over b_over (ok_over F_over m_len m_int m_range)
  have c_written : Cal P w K mg base 3 "_law_written" (spWritten K) := cal_of F_written g_written b_written (ok_written F_written m_len m_int m_min c_take c_size c_days c_over)
  have c_odd : Cal P w K mg base 3 "_law_odd" (spOdd K) := cal_of F_odd g_odd b_odd (ok_odd F_odd m_len m_int m_range c_take c_size c_days)
  have c_fault : Cal P w K mg base 1 "_law_fault" (spFault K) := cal_of F_fault g_fault b_fault (ok_fault F_fault m_len m_range)
  have c_told : Cal P w K mg base 6 "_law_told" (spTold K) := cal_of F_told g_told b_told (ok_told F_told m_isinstance cls_DayRule n_DayRule_days g_HouseError g_BadCount g_BadDays teDD f_BadDays.ec kDH kDC f_BadDays.xf f_BadDays.no k_DayRule)
  have c_is_refused : Cal P w K mg base 6 "_law_is_refused" (spRefusedD K) := cal_of F_is_refused g_is_refused b_is_refused (ok_is_refused F_is_refused m_isinstance m_ValueError g_HouseError g_BadDays teDH f_BadDays.ec kDV kDD k_DayRule)
  have c_bound_holds : Cal P w K mg base 6 "_law_bound_holds" spBound := cal_of F_bound_holds g_bound_holds b_bound_holds (ok_bound_holds F_bound_holds cls_DayRule n_DayRule_days c_same c_row_is c_value co_call k_DayRule)
  have c_asked : Cal P w K mg base 2 "_law_asked" (spAsked K) := cal_of F_asked g_asked b_asked (ok_asked F_asked m_int m_range m_min m_max m_len c_cell)
  have c_odd_holds : Cal P w K mg base 7 "_law_odd_holds" (spOddH K) := cal_of F_odd_holds g_odd_holds b_odd_holds (ok_odd_holds F_odd_holds m_list m_tuple c_fault c_told c_is_refused c_same c_row_is c_least)
  exact ok_law F_law m_int m_len m_list m_tuple m_min cls_DayRule n_DayRule_days c_draws c_cell c_written c_least c_row_is c_same c_over c_odd c_odd_holds c_fault c_asked c_value c_bound_holds k_DayRule co_call e_DayRule p_DayRule_period (ok_period F_DayRule_period cls_DayRule n_DayRule_days m_len) b_DayRule_period
end Z
open PySem PySem.W PySem.Calls PyProof.Rows
theorem PySem.Challenge.cw_signedpacts_k60_day_rule_values_holds : PySem.Challenge.rw_signedpacts_k60_day_rule_values.Holds := by
  w_on; o_law
  refine HandSHeadRun.head_any (r := OpenLaw.row PySem.Challenge.rw_signedpacts_k60_day_rule_values) (q := view (OpenLaw.row PySem.Challenge.rw_signedpacts_k60_day_rule_values).prog [36]) (H := Z.hk) (ob := Z.ob) (M := 8000) (loose := Z.loose) (d := HandSHeadRun.topDef (OpenLaw.row PySem.Challenge.rw_signedpacts_k60_day_rule_values).prog 36) (kwd := []) Z.ob_eq
    (by kernel_rfl) (fun s => by kernel_rfl) Z.run (by kernel_rfl) (by kernel_rfl) (by kernel_rfl) (by rfl) (by first | assumption | decide +kernel) (by decide +kernel) ⟨rfl, rfl, rfl, rfl, rfl, by decide +kernel⟩ ?hw ?hc
  case hw => w_witness2
  case hc =>
    refine L2.walk_ofE (l := PySem.Challenge.rw_signedpacts_k60_day_rule_values) (n := 63) (k := 8) (x := "_law_script") (CX := L2.CX0) rfl (by decide) (by kernel_rfl) ⟨rfl, by decide, by decide⟩ ?F (fun _ _ _ _ z => z)
    intro w mg fa h Y G hmg0
    obtain ⟨K, KX, c, cs, cx⟩ := Y
    have hmg : mg ("law" : PySem.Str) = some (.ref fa) := by
      have e : (HandSHeadRun.topDef (OpenLaw.row PySem.Challenge.rw_signedpacts_k60_day_rule_values).prog 36).name = ("law" : PySem.Str) := by kernel_rfl
      rw [← e]
      exact hmg0
    obtain ⟨fd, hb, hF⟩ := Z.facts (P := (PySem.Challenge.rw_signedpacts_k60_day_rule_values).prog) (w := w) KX G hmg c cs cx (by kernel_rfl) (by kernel_rfl)
    exact ⟨K, fd, Z.spLaw K, KX, hb, fun H a ns hl _ hS => ⟨a, ns, rfl, hS, hl, fun _ => rfl⟩, hF⟩
