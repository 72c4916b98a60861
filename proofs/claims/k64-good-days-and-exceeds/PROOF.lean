import PyProof.Rows.All
import Wide.All
import OpenK.AllK
import Wide.FinOn
import HandS.ForMost
import HandS.Zip
import HandS.TupMul
import HandS.Codes
import KE.GoesMore
import KE.GoesEnum
import HandS.Defaults
import HandS.IsInst
import HandS.Wide
import HandS.WideBits
import HandS.NoneIn
import HandS.OwnEq
import HandS.Star
import HandS.SetTxtIn
import HandS.ExcInit
import HandS.ExcField
import HandS.ExcIs
import HandS.Nested
import HandS.ClsMeth
import HandS.HeadHook1
import KE.KSuper
import KE.KExcSuper
import HandS.WordsExc
import HandS.ExcInitHot
import KE.KExcIs
import HandS.HeadHook2
import HandS.Property
import KE.KOpsOwn
import HandS.TupAny
import KE.KEqDeep
import HandS.Conv
import HandS.Head0
import HandS.Head1
import HandS.Head2
import HandS.HeadEnd
import PySem.Challenge.RW_signedpacts_k64_good_days_and_exceeds
set_option Elab.async false
set_option linter.all false
set_option maxRecDepth 100000
set_option maxHeartbeats 4000000
namespace Z
open PySem PySem.Spec PyProof.Rows L2
/-! ### zip over two sequences, each a list (true) or a tuple (false) -/
def SqK (b : Bool) (K : PySem.W.Frag) (H : Hp) (a : Addr) (xs : List V) : Prop := match b with
  | true => SqL K H a xs
  | false => SqT K H a xs
def ItK (b : Bool) (h : Heap) (it l : Addr) (i : Nat) : Prop := match b with
  | true => h.IsListIter it l i
  | false => h.IsTupleIter it l i
def IsK (b : Bool) (h : Heap) (l : Addr) (xs : Array Value) : Prop := match b with
  | true => h.IsList l xs
  | false => h.IsTuple l xs
theorem ItK.at' {b : Bool} {h h' : Heap} {it l : Addr} {i : Nat} (x : ItK b h it l i) (k : ∀ o, h.get? it = some o → h'.get? it = some o) : ItK b h' it l i := by
  cases b
  · exact Heap.IsTupleIter.at x k
  · exact Heap.IsListIter.at x k
theorem ItK.obj {b : Bool} {h : Heap} {it l : Addr} {i : Nat} (x : ItK b h it l i) : ∃ o, h.get? it = some o ∧ ∀ v, o.data ≠ .cell v := by
  cases b
  · obtain ⟨o, e, _, d⟩ := (show h.IsTupleIter it l i from x)
    exact ⟨o, e, fun v q => by rw [d] at q; cases q⟩
  · obtain ⟨o, e, _, d⟩ := (show h.IsListIter it l i from x)
    exact ⟨o, e, fun v q => by rw [d] at q; cases q⟩
theorem sqk_is {X : Cx} {pins : List (Addr × Obj)} {σ : L2.St} {H : Hp} {s : Shared} {b : Bool} {a : Addr} {xs : List V} (I : Inv X pins σ H s) (h : SqK b X.K H a xs) :
    ∃ its : List Value, Vals xs its ∧ IsK b s.heap a its.toArray ∧ a < s.heap.objs.size := by
  cases b
  · obtain ⟨its, r, p, _⟩ := I.tuple h
    obtain ⟨o, ho, _⟩ := id p
    exact ⟨its, r, p, Heap.lt_size ho⟩
  · obtain ⟨its, r, p, _⟩ := I.list h
    exact ⟨its, r, p.isList, p.lt⟩
theorem sqk_inj {X : Cx} {pins : List (Addr × Obj)} {σ : L2.St} {H : Hp} {s : Shared} {b : Bool} {a : Addr} {xs ys : List V} (I : Inv X pins σ H s) (h : SqK b X.K H a xs) (h' : SqK b X.K H a ys) : xs = ys := by
  cases b
  · exact I.tuple_inj h h'
  · exact I.list_inj h h'
theorem drawsK {prog : Program} {w : World} {A : Around} (b : Bool) (hh : A.handled = none) (it l : Addr) (hne : l ≠ it) (items : Array Value) :
    Draws prog w A it [it, l] items.size (fun i v => items[i]? = some v) (fun i h => ItK b h it l i ∧ IsK b h l items) := by
  cases b
  · exact Draws.tuple hh it l hne items
  · exact Draws.list hh it l hne items
def ItzM (p q : Bool) (K : PySem.W.Frag) (a b : Addr) : It :=
  ⟨fun i H => ∃ (xs ys : List V) (x y : V), SqK p K H a xs ∧ SqK q K H b ys ∧ xs[i]? = some x ∧ ys[i]? = some y,
   fun i H v H' => ∃ T x y, v = .ref T ∧ H T = none ∧ H' = upd H T (.tup [x, y]) ∧ (∀ xs, SqK p K H a xs → xs[i]? = some x) ∧ (∀ ys, SqK q K H b ys → ys[i]? = some y),
   fun i H => ∃ xs ys : List V, SqK p K H a xs ∧ SqK q K H b ys ∧ (xs.length ≤ i ∨ ys.length ≤ i) ∧ i ≤ xs.length ∧ i ≤ ys.length⟩
theorem zsep {z TI TO i1 i2 a b : Addr} (D : ZipApart z TI TO i1 i2 a b) : ZipSep2 z TI TO i1 i2 [i1, a] [i2, b] where
  TIz := D.TIz
  TOz := D.TOz
  TITO := D.TITO
  TIi1 := D.TIi1
  mem1 := List.mem_cons_self
  zf1 := fun h => by rcases List.mem_cons.mp h with e | h; exact D.i1z e.symm; exact D.l1z (List.mem_singleton.mp h).symm
  Tf1 := fun h => by rcases List.mem_cons.mp h with e | h; exact D.TOi1 e; exact D.l1TO (List.mem_singleton.mp h).symm
  TIi2 := D.TIi2
  mem2 := List.mem_cons_self
  zf2 := fun h => by rcases List.mem_cons.mp h with e | h; exact D.i2z e.symm; exact D.l2z (List.mem_singleton.mp h).symm
  Tf2 := fun h => by rcases List.mem_cons.mp h with e | h; exact D.TOi2 e; exact D.l2TO (List.mem_singleton.mp h).symm
  sep1_2 := fun h => by rcases List.mem_cons.mp h with e | h; exact D.i12 e; exact D.l2i1 (List.mem_singleton.mp h).symm
  sep2_1 := fun h => by rcases List.mem_cons.mp h with e | h; exact D.i12 e.symm; exact D.l1i2 (List.mem_singleton.mp h).symm
theorem five {c z TI TO i1 i2 : Addr} {Pr : Addr → Prop} (hc : c ∈ [z, TI, TO, i1, i2]) (a : Pr z) (b : Pr TI) (d : Pr TO) (e : Pr i1) (f : Pr i2) : Pr c := by
  have q : c = z ∨ c = TI ∨ c = TO ∨ c = i1 ∨ c = i2 := by simpa using hc
  rcases q with rfl | rfl | rfl | rfl | rfl <;> assumption
theorem turn_zipM {p q : Bool} {P : Program} {w : World} {K : PySem.W.Frag} {elts : List Expr} {kk : Nat} {tpos : Pos} {a b z TI TO i1 i2 : Addr} (D : ZipApart z TI TO i1 i2 a b) :
    Turn P w K (.Tuple elts kk tpos) (ItzM p q K a b) [z, TI, TO, i1, i2] z (fun i h => IsZip h z TI TO .none ∧ IsTupOf2 h TI (.ref i1) (.ref i2) ∧ (∃ x y, IsTupOf2 h TO x y) ∧ ItK p h i1 a i ∧ ItK q h i2 b i) where
  mem := by simp
  obj := fun i h st c hc => by
    obtain ⟨hz, hI, ⟨x, y, hO⟩, h1, h2⟩ := st
    exact five (Pr := fun c => ∃ o, h.get? c = some o ∧ ∀ v, o.data ≠ .cell v) hc ⟨_, hz, fun v q => nomatch q⟩ ⟨_, hI, fun v q => nomatch q⟩ ⟨_, hO, fun v q => nomatch q⟩ h1.obj h2.obj
  keep := fun i h h' st k => by
    obtain ⟨hz, hI, ⟨x, y, hO⟩, h1, h2⟩ := st
    exact ⟨k z (by simp) _ hz, k TI (by simp) _ hI, ⟨x, y, k TO (by simp) _ hO⟩, h1.at' (fun o e => k i1 (by simp) o e), h2.at' (fun o e => k i2 (by simp) o e)⟩
  item := by
    intro X hP hw hK hc i pins s σ H E I hf st hg
    subst hP hw hK
    obtain ⟨hz, hI, ⟨x0, y0, hO⟩, h1, h2⟩ := st
    obtain ⟨xs, ys, x, y, qx, qy, ex, ey⟩ := hg
    obtain ⟨us, rx, kx, _⟩ := sqk_is I qx
    obtain ⟨vs, ry, ky, _⟩ := sqk_is I qy
    obtain ⟨u, eu, ru⟩ := rx.get ex
    obtain ⟨v, ev, rv⟩ := ry.get ey
    have hzl : z < s.heap.objs.size := Heap.lt_size hz
    have lu : i < us.toArray.size := by simpa using (List.getElem?_eq_some_iff.mp eu).1
    have lv : i < vs.toArray.size := by simpa using (List.getElem?_eq_some_iff.mp ev).1
    have hh : X.A.in1.handled = none := I.ok.hd hc
    refine wpAny_pyNext_zipD2_item (zsep D) (drawsK p hh i1 a D.l1i1 us.toArray) (drawsK q hh i2 b D.l2i2 vs.toArray) hz hI hO ⟨h1, kx⟩ ⟨h2, ky⟩ lu lv fun m1 m2 g tk p1 p2 gz gO g1 g2 gT gs gk => ?_
    have e1 : m1 = u := by
      have t1 : us.toArray[i]? = some u := by simpa using eu
      exact Option.some.inj (p1.symm.trans t1)
    have e2 : m2 = v := by
      have t1 : vs.toArray[i]? = some v := by simpa using ev
      exact Option.some.inj (p2.symm.trans t1)
    subst e1 e2
    refine ⟨_, rfl, wpAny_letOwnedTupleGo_zip (s := { s with heap := g, toks := tk }) gz fun g' gz' sb => ?_⟩
    have gT' : g'.get? s.heap.objs.size = some { cls := .type "tuple", data := .seq #[m1, m2] } := (sb.2 _ (Nat.ne_of_gt hzl)).trans gT
    have nw : ObjOk X.prog X.w (upd H s.heap.objs.size (.tup [x, y])) g' s.heap.objs.size (.tup [x, y]) := ⟨by show 2 ≤ sizeLine; decide, [m1, m2], .cons ru (.cons rv .nil), ⟨_, gT', rfl, _, rfl⟩⟩
    have I1 : Inv X pins σ (upd H s.heap.objs.size (.tup [x, y])) { s with heap := g', toks := tk } :=
      I.turnedNew (t' := tk) (ch := [z, TI, TO, i1, i2]) (fun c o nb e => (sb.2 c (fun w => nb (by simp [w]))).trans (gk c o (fun w => nb (by simp [w])) (fun w => nb (by simp [w])) (fun w => nb (by simp [w])) (fun w => nb (by simp [w])) e)) hf (Nat.le_refl _) nw
    refine ⟨.ref s.heap.objs.size, _, I1, rfl, ⟨_, x, y, rfl, I.hok.fresh (Nat.le_refl _), rfl, fun l hl => by rw [sqk_inj I hl qx]; exact ex, fun l hl => by rw [sqk_inj I hl qy]; exact ey⟩, ⟨gz', ?_, ⟨m1, m2, ?_⟩, ?_, ?_⟩, fun c hcm => ?_⟩
    · exact (sb.2 _ D.TIz).trans (gk _ _ D.TIz D.TITO D.TIi1 D.TIi2 hI)
    · exact (sb.2 _ D.TOz).trans gO
    · exact ItK.at' g1.1 (fun o e => (sb.2 _ D.i1z).trans e)
    · exact ItK.at' g2.1 (fun o e => (sb.2 _ D.i2z).trans e)
    · have lt : c < s.heap.objs.size := by
        obtain ⟨o1, q1, _⟩ := h1.obj
        obtain ⟨o2, q2, _⟩ := h2.obj
        exact five (Pr := fun c => c < s.heap.objs.size) hcm hzl (Heap.lt_size hI) (Heap.lt_size hO) (Heap.lt_size q1) (Heap.lt_size q2)
      rw [upd_ne (Nat.ne_of_lt lt)]
      exact (hf c hcm).1
  done := by
    intro X hP hw hK hc i pins s σ H E I hf st hg
    subst hP hw hK
    obtain ⟨hz, hI, ⟨x0, y0, hO⟩, h1, h2⟩ := st
    obtain ⟨xs, ys, qx, qy, hend, le1, le2⟩ := hg
    obtain ⟨us, rx, kx, _⟩ := sqk_is I qx
    obtain ⟨vs, ry, ky, _⟩ := sqk_is I qy
    have l1 := rx.length
    have l2 := ry.length
    have n1 : us.toArray.size = us.length := by simp
    have n2 : vs.toArray.size = vs.length := by simp
    have hh : X.A.in1.handled = none := I.ok.hd hc
    refine wpAny_pyNext_zipD2_end (i := i) (zsep D) (drawsK p hh i1 a D.l1i1 us.toArray) (drawsK q hh i2 b D.l2i2 vs.toArray) hz hI hO ⟨h1, kx⟩ ⟨h2, ky⟩ (by omega) (by omega) (by omega) fun g tk gk => ?_
    exact ⟨rfl, I.turnedL (t' := tk) (ch := [z, TI, TO, i1, i2]) (fun c o nb e => gk c o (fun w => nb (by simp [w])) (fun w => nb (by simp [w])) (fun w => nb (by simp [w])) (fun w => nb (by simp [w])) e) hf⟩
  self := fun A i s Q E st h => wpAny_pyIter_zip st.1 h
def iZipM (K : PySem.W.Frag) (ta : TA) : TI := fun σ H R => ta σ H fun vs H1 => ∃ p q a b xs ys, vs = [.ref a, .ref b] ∧ SqK p K H1 a xs ∧ SqK q K H1 b ys ∧ R (ItzM p q K a b) H1
theorem begK {p : Bool} {h : Heap} {a : Addr} {xs : Array Value} (k : IsK p h a xs) : ∃ o Hp', Begins (.ref a) o Hp' ∧ Hp' h ∧ ∀ h' it, h'.get? it = some o → ItK p h' it a 0 := by
  cases p
  · exact ⟨_, _, begins_tuple a xs, k, fun h' it e => ⟨_, e, rfl, rfl⟩⟩
  · exact ⟨_, _, begins_list a xs, k, fun h' it e => ⟨_, e, rfl, rfl⟩⟩
theorem pi_zipM {X : Cx} {e e2 : Expr} {ta : TA} {p pos tpos : Pos} {elts : List Expr} {kk : Nat} (hg : Gl X "zip") (hm : X.mg "zip" = none) (ha : PA X [e, e2] ta)
    (hs : starEach [e, e2] X.env = (false, eval e X.env) :: starEach [e2] X.env := by rfl) (hpl : (backTo pos (starEach [e2] X.env)).any (·.1) = false := by rfl) :
    PI X (.Tuple elts kk tpos) (.Call (.Name "zip" p) [e, e2] [] pos) (iZipM X.K ta) := by
  constructor
  intro pins s σ H R I h
  refine Call_ (ld_blt I hg hm PyProof.Rows.boot_zip (PyProof.Rows.callWith_type1 (thn (ha.run pos pins s σ H _ I h) fun us s1 ⟨vs, H1, I1, r1, q1⟩ => ?_) hs hpl))
  obtain ⟨k1, k2, a, b, xs, ys, ex, qx, qy, q⟩ := q1
  subst ex
  obtain ⟨u, v, rfl, ru, rv⟩ := Vals.two r1
  cases ru
  cases rv
  obtain ⟨i1, _, p1, lt1⟩ := sqk_is I1 qx
  obtain ⟨i2, _, p2, lt2⟩ := sqk_is I1 qy
  obtain ⟨o1, G1, B1, g1, w1⟩ := begK p1
  obtain ⟨o2, G2, B2, g2, w2⟩ := begK p2
  refine zip_begins2 B1 B2 g1 g2 fun h' hz hI hO e1 e2 hsz hk => wpAny_pyIter_zip hz ?_
  have I2 : Inv X pins σ H1 { s1 with heap := h' } := I1.kept (t' := s1.toks) hk
  refine ⟨s1.heap.objs.size + 4, [s1.heap.objs.size + 4, s1.heap.objs.size + 2, s1.heap.objs.size + 3, s1.heap.objs.size, s1.heap.objs.size + 1], _, _, H1, rfl, I2, turn_zipM (PySem.W.ktu_apart s1.heap.objs.size a b lt1 lt2), ⟨hz, hI, ⟨_, _, hO⟩, w1 _ _ e1, w2 _ _ e2⟩, fun c hcm => ?_, q⟩
  have hle : s1.heap.objs.size ≤ c := five (Pr := fun c => s1.heap.objs.size ≤ c) hcm (Nat.le_add_right _ _) (Nat.le_add_right _ _) (Nat.le_add_right _ _) (Nat.le_refl _) (Nat.le_add_right _ _)
  exact I1.fpOk hle (I1.hok.fresh hle)
end Z
set_option Elab.async false
set_option linter.all false
set_option maxRecDepth 100000
set_option maxHeartbeats 4000000
namespace Z
open PySem PySem.Spec PyProof.Rows L2
/-! ### (v,) * k for 0 ≤ k -/
theorem tmul0 (l : Addr) (v : Value) (n : Nat) (dd : Option Addr) (sl : Array (Option Value)) (u : Tok) :
    Meets (Builtin.«tuple.__mul__» ⟨[.ref l, .int 0 u], []⟩) (fun _ R s => s.heap.get? l = some { cls := .type "tuple", dict := dd, data := .seq #[v] n, slots := sl } ∧
      R (.ok (.ret (Value.ref s.heap.objs.size))) { s with heap := s.heap.push { cls := Value.type "tuple", data := Data.seq #[] }, toks := s.toks }) :=
  .of_wp fun prog w A R s h => by
    obtain ⟨hp, g, d, tk, os⟩ := s
    obtain ⟨hl, h⟩ := h
    have f1 := AutoSeq1.idx_int
    wp_walk using AutoSeq1.wpAny_loadPart' hl
    exact ⟨_, rfl, h⟩
theorem tmul1 (l : Addr) (items : Array Value) (n : Nat) (dd : Option Addr) (sl : Array (Option Value)) (u : Tok) :
    Meets (Builtin.«tuple.__mul__» ⟨[.ref l, .int 1 u], []⟩) (fun _ R s => s.heap.get? l = some { cls := .type "tuple", dict := dd, data := .seq items n, slots := sl } ∧ R (.ok (.ret (Value.ref l))) s) :=
  .of_wp fun prog w A R s h => by
    obtain ⟨hp, g, d, tk, os⟩ := s
    obtain ⟨hl, h⟩ := h
    have f1 := AutoSeq1.idx_int
    wp_walk using AutoSeq1.wpAny_loadPart' hl
    exact ⟨_, rfl, h⟩
theorem same_new {H : Hp} {p : Addr} {o : HO} (h : H p = none) : Same H (upd H p o) := fun b x e => by
  rw [upd_ne (ne_of_none e h)]
  exact e
def rRepU : R2 := fun x y H Q => ∃ l k v, x = .ref l ∧ y = .int k ∧ H l = some (.tup [v]) ∧ 0 ≤ k ∧ k ≤ 1000 ∧ ∀ p H', Same H H' → H' p = some (.tup (List.replicate k.toNat v)) → Q (.ref p) H'
theorem op_repU {X : Cx} : OpR X (binaryOp .Mult) rRepU := by
  intro pins s σ H x y vv uu Q I rx ry h
  obtain ⟨l, k, v, rfl, rfl, hT, h0, h1, q⟩ := id h
  by_cases k2 : 2 ≤ k
  · refine op_repT pins s σ H _ _ vv uu Q I rx ry ⟨l, k, [v], rfl, rfl, .inl (.inl hT), by simp, k2, h1, by simp, fun p np => q p _ (same_new np) ?_⟩
    rw [upd_same]
    congr 2
    generalize k.toNat = m
    induction m with
    | zero => rfl
    | succ m ih => rw [List.replicate_succ, List.flatten_cons, ih, List.replicate_succ]; rfl
  · cases rx
    obtain ⟨t, rfl⟩ := ry
    obtain ⟨its, r, ⟨⟨cls, dd, data, sl⟩, ho, hc, n, hd⟩, hs⟩ := I.tuple (.inl (.inl hT) : SqT X.K H l [v])
    simp only at hc hd
    subst hc hd
    obtain ⟨u, rfl, ru⟩ := Vals.one r
    by_cases k1 : k = 1
    · subst k1
      refine wpAny_binaryOp_repeat_ref (T := "tuple") (U := "int") (by decide) ⟨_, ho, rfl⟩ (fun s' => typeIs_int s' 1 t) noFill_tuple_mul F.fills_int_mul F.slot_int_rmul repeat_tuple F.slot_int_index.lookup
        (call_meets F.slot_int_rmul (typeIs_int s 1 t) F.entry_int_rmul (F.args_int_rmul_2 _ _) (int_rmul_tuple 1 t l [u].toArray n dd sl)
          ⟨ho, rfl, ⟨_, ho, rfl⟩, call_meets F.slot_tuple_mul ⟨_, ho, rfl⟩ F.entry_tuple_mul (F.args_tuple_mul_2 _ _) (tmul1 l [u].toArray n dd sl t) ⟨ho, ?_⟩⟩)
      exact ⟨.ref l, H, I, rfl, q l H (Same.refl H) hT⟩
    · have k0 : k = 0 := by omega
      subst k0
      refine wpAny_binaryOp_repeat_ref (T := "tuple") (U := "int") (by decide) ⟨_, ho, rfl⟩ (fun s' => typeIs_int s' 0 t) noFill_tuple_mul F.fills_int_mul F.slot_int_rmul repeat_tuple F.slot_int_index.lookup
        (call_meets F.slot_int_rmul (typeIs_int s 0 t) F.entry_int_rmul (F.args_int_rmul_2 _ _) (int_rmul_tuple 0 t l [u].toArray n dd sl)
          ⟨ho, rfl, ⟨_, ho, rfl⟩, call_meets F.slot_tuple_mul ⟨_, ho, rfl⟩ F.entry_tuple_mul (F.args_tuple_mul_2 _ _) (tmul0 l u n dd sl t) ⟨ho, ?_⟩⟩)
      refine ⟨.ref s.heap.objs.size, _, I.laid (t' := s.toks) (o := .tup []) (fun b ob z => Heap.get?_push_of_some _ z) (Nat.le_refl _) ?_, rfl, q _ _ (same_new (I.hok.fresh (Nat.le_refl _))) upd_same⟩
      exact ⟨Nat.zero_le _, [], .nil, IsTup.new _ _⟩
/-! ### loops and comprehensions over any iterator -/
def forW (J : It) (g : TG) (tb : TS) (D : Ends) (σ : L2.St) (H : Hp) : Prop := ∃ W : Nat → Nat → L2.St → Hp → Prop, (∃ m, W 0 m σ H) ∧ ∀ i m σ H, W i m σ H →
  (J.stop i H ∧ D.nx σ H) ∨ (J.go i H ∧ ∃ N : L2.St → Hp → Prop, (∀ σ' H', N σ' H' → ∃ m', m' < m ∧ W (i + 1) m' σ' H') ∧ ∀ x H', J.yld i H x H' → g x σ H' fun σ2 H2 => tb { D with nx := N, ct := N, bk := D.nx } σ2 H2)
theorem for_gen {J : It} {n : Nat} {g : TG} {tb : TS} {D : Ends} {σ : L2.St} {H : Hp} (Pv : Nat → L2.St → Hp → Prop) (h0 : Pv 0 σ H) (hgo : ∀ i σ H, i < n → Pv i σ H → J.go i H) (hst : ∀ σ H, Pv n σ H → J.stop n H)
    (hs : ∀ i σ H x H', i < n → Pv i σ H → J.yld i H x H' → g x σ H' fun σ2 H2 => tb { D with nx := Pv (i + 1), ct := Pv (i + 1), bk := D.nx } σ2 H2) (hd : ∀ σ H, Pv n σ H → D.nx σ H) : forW J g tb D σ H := by
  refine ⟨fun i m σ H => m = n - i ∧ i ≤ n ∧ Pv i σ H, ⟨n, by omega, Nat.zero_le _, h0⟩, fun i m σ H w => ?_⟩
  obtain ⟨rfl, hi, p⟩ := w
  by_cases hlt : i < n
  · exact .inr ⟨hgo i σ H hlt p, Pv (i + 1), fun σ' H' z => ⟨n - (i + 1), by omega, rfl, hlt, z⟩, fun x H' y => hs i σ H x H' hlt p y⟩
  · have e : i = n := by omega
    subst e
    exact .inl ⟨hst σ H p, hd σ H p⟩
def lcW (J : It) (g : TG) (tt : TT) (te : TE) (vs : List Nat) (σ : L2.St) (D : Addr) (Qd : Hp → Prop) (H1 : Hp) : Prop := ∃ W : Nat → Nat → Hp → Prop, (∃ m, W 0 m (upd H1 D (.lst []))) ∧ ∀ i m H, W i m H →
  (J.stop i H ∧ Qd H) ∨ (J.go i H ∧ ∃ Nx : Hp → Prop, (∀ H', Nx H' → ∃ m', m' < m ∧ W (i + 1) m' H') ∧ ∀ x H', J.yld i H x H' → g x (wipe σ vs) H' fun σ2 H2 => wipe σ2 vs = wipe σ vs ∧ tt σ2 H2 fun b H3 =>
    if b = true then te σ2 H3 fun y H4 => ∃ acc, H4 D = some (.lst acc) ∧ acc.length < sizeLine ∧ Nx (upd H4 D (.lst (acc ++ [y]))) else Nx H3)
theorem lc_gen {J : It} {n : Nat} {g : TG} {tt : TT} {te : TE} {vs : List Nat} {σ : L2.St} {H1 : Hp} {D : Addr} {Qd : Hp → Prop} (Pv : Nat → Hp → Prop) (h0 : Pv 0 (upd H1 D (.lst []))) (hgo : ∀ i H, i < n → Pv i H → J.go i H) (hst : ∀ H, Pv n H → J.stop n H)
    (hs : ∀ i H x H', i < n → Pv i H → J.yld i H x H' → g x (wipe σ vs) H' fun σ2 H2 => wipe σ2 vs = wipe σ vs ∧ tt σ2 H2 fun b H3 =>
      if b = true then te σ2 H3 fun y H4 => ∃ acc, H4 D = some (.lst acc) ∧ acc.length < sizeLine ∧ Pv (i + 1) (upd H4 D (.lst (acc ++ [y]))) else Pv (i + 1) H3) (hd : ∀ H, Pv n H → Qd H) : lcW J g tt te vs σ D Qd H1 := by
  refine ⟨fun i m H => m = n - i ∧ i ≤ n ∧ Pv i H, ⟨n, by omega, Nat.zero_le _, h0⟩, fun i m H w => ?_⟩
  obtain ⟨rfl, hi, p⟩ := w
  by_cases hlt : i < n
  · exact .inr ⟨hgo i H hlt p, Pv (i + 1), fun H' z => ⟨n - (i + 1), by omega, rfl, hlt, z⟩, fun x H' y => hs i H x H' hlt p y⟩
  · have e : i = n := by omega
    subst e
    exact .inl ⟨hst H p, hd H p⟩
/-! ### a def of the module that may be called by its name -/
structure Cal (P : Program) (w : World) (K : PySem.W.Frag) (mg : Str → Option Value) (base : Heap) (k : Nat) (x : Str) (sp : Sp) : Prop where
  ex : ∃ (f : Addr) (fd : FuncData) (ps : List Str), FnOk P w K mg base CX0 k f fd ps sp ∧ mg x = some (.ref f) ∧ PySem.W.keepIn K (.ref f) = true ∧ Binds K fd ps []
section
variable {X : Cx} {k j : Nat} {x : Str} {sp : Sp} {p pos : Pos} {e : Expr} {es : List Expr} {t : TA}
theorem pe_cl (c : Cal X.prog X.w X.K X.mg X.base k x sp) (hr : Room j X.A) (hk : k ≤ j) (hg : Gl X x) (ha : PA X (e :: es) t)
    (hdb : (x == ("__debug__" : Str)) = false := by decide) (he : starEach (e :: es) X.env = (false, eval e X.env) :: starEach es X.env := by rfl) (hpl : (backTo pos (starEach es X.env)).any (·.1) = false := by rfl) : PE X (.Call (.Name x p) (e :: es) [] pos) (tCall sp [] E0 t) := by
  obtain ⟨f, fd, ps, F, hm, kp, b⟩ := c.ex
  exact pe_call F (hr.mono hk) hg hm kp b .nil pass0 ha hdb he hpl
end
structure CalK (P : Program) (w : World) (K : PySem.W.Frag) (mg : Str → Option Value) (base : Heap) (k : Nat) (x : Str) (n : Nat) (ks : List Str) (gV : List V → List V → List V) (sp : Sp) : Prop where
  ex : ∃ (f : Addr) (fd : FuncData) (ps : List Str) (g : List Value → List Value → List Value), FnOk P w K mg base CX0 k f fd ps sp ∧ mg x = some (.ref f) ∧ PySem.W.keepIn K (.ref f) = true ∧ KBn K fd ps n ks g gV
section
variable {X : Cx} {k j n : Nat} {x : Str} {sp : Sp} {ks : List Str} {gV : List V → List V → List V} {p pos : Pos} {e : Expr} {es : List Expr} {kws : List Keyword} {t tk : TA}
theorem pe_clK (c : CalK X.prog X.w X.K X.mg X.base k x n ks gV sp) (hr : Room j X.A) (hk : k ≤ j) (hg : Gl X x) (ha : PA X (e :: es) t) (hkw : PK X kws tk)
    (hall : (backToKw pos (keywordEach kws X.env)).all (·.1.isSome) = true := by rfl) (hks : (backToKw pos (keywordEach kws X.env)).filterMap (·.1) = ks := by rfl) (hdb : (x == ("__debug__" : Str)) = false := by decide)
    (he : starEach (e :: es) X.env = (false, eval e X.env) :: starEach es X.env := by rfl) (hpl : ((backTo pos (starEach (e :: es) X.env)).any (·.1) || (backToKw pos (keywordEach kws X.env)).any (·.1.isNone)) = false := by rfl) :
    PE X (.Call (.Name x p) (e :: es) kws pos) (tCallN n ks.length sp gV E0 t tk) := by
  obtain ⟨f, fd, ps, g, F, hm, kp, b⟩ := c.ex
  exact pe_callN F (hr.mono hk) hg hm kp b pass0 ha hkw hall hks hdb he hpl
end
/-! ### heaps -/
/-- all but p stands -/
def SB (p : Addr) (H H' : Hp) : Prop := ∀ b o, b ≠ p → H b = some o → H' b = some o
theorem Same.sb {p : Addr} {H H' : Hp} (s : Same H H') : SB p H H' := fun b o _ h => s b o h
theorem SB.trans {p : Addr} {H H1 H2 : Hp} (a : SB p H H1) (b : SB p H1 H2) : SB p H H2 := fun c o n h => b c o n (a c o n h)
theorem SB.upd {p : Addr} {H H' : Hp} {o : HO} (s : SB p H H') : SB p H (upd H' p o) := fun b u n h => by
  rw [upd_ne n]
  exact s b u n h
theorem SB.same {p : Addr} {H H' : Hp} (s : SB p H H') (n : H p = none) : Same H H' := fun b o h => s b o (ne_of_none h n) h
theorem Same.mut {p : Addr} {H H' : Hp} {o : HO} (s : Same H H') (n : H p = none) : Same H (L2.upd H' p o) := fun b u h => by
  rw [upd_ne (ne_of_none h n)]
  exact s b u h
theorem SB.sq {K : PySem.W.Frag} {p a : Addr} {H H' : Hp} {xs : List V} (s : SB p H H') (n : a ≠ p) (h : SqL K H a xs) : SqL K H' a xs := by
  rcases h with (h | ⟨o, h⟩) | h
  · exact .inl (.inl (s _ _ n h))
  · exact .inl (.inr ⟨o, s _ _ n h⟩)
  · exact .inr h
theorem Same.sqT {K : PySem.W.Frag} {a : Addr} {H H' : Hp} {xs : List V} (s : Same H H') (h : SqT K H a xs) : SqT K H' a xs := by
  rcases h with (h | ⟨o, h⟩) | h
  · exact .inl (.inl (s _ _ h))
  · exact .inl (.inr ⟨o, s _ _ h⟩)
  · exact .inr h
theorem Same.sqK {b : Bool} {K : PySem.W.Frag} {a : Addr} {H H' : Hp} {xs : List V} (s : Same H H') (h : SqK b K H a xs) : SqK b K H' a xs := by
  cases b
  · exact Z.Same.sqT s h
  · exact s.seq h
theorem at_map {α : Type} {f : α → V} {xs : List α} {i : Nat} {x : α} (h : xs[i]? = some x) : atI (xs.map f) (i : Int) = some (f x) := atI_nat (by rw [List.getElem?_map, h]; rfl)
theorem of_map {α : Type} {f : α → V} {xs : List α} {i : Nat} {v : V} (h : (xs.map f)[i]? = some v) : ∃ x, xs[i]? = some x ∧ v = f x := by
  rw [List.getElem?_map] at h
  cases e : xs[i]? with
  | none => rw [e] at h; cases h
  | some x => rw [e] at h; exact ⟨x, rfl, (Option.some.inj h).symm⟩
end Z
set_option Elab.async false
set_option linter.all false
set_option maxRecDepth 100000
set_option maxHeartbeats 4000000
namespace Z
open PySem PySem.Spec PyProof.Rows L2
open C8 (pss_cut tCut)
local macro_rules | `(tactic| walk_at "num") => `(tactic| first | omega | decide | exact ⟨by omega, by omega⟩ | exact ⟨by omega, by omega, by omega⟩ | exact ⟨by decide, by decide, by decide⟩ | exact Or.inl ⟨by omega, by omega⟩ | exact Or.inr ⟨by omega, by omega⟩)
local macro_rules | `(tactic| walk_at "go") => `(tactic| repeat (first | refine ⟨_, rfl, ?_⟩ | refine ⟨_, _, rfl, rfl, ?_⟩ | refine ⟨_, _, rfl, rfl, (by walk_at "num"), ?_⟩ | refine Or.inl ⟨_, rfl, ?_⟩ | refine ⟨rfl, ?_⟩ | refine And.intro (by walk_at "num") ?_))
def topS (i : Nat) : Stmt := PySem.Challenge.pw_signedpacts_k64_good_days_and_exceeds.main.body.getD i (.Pass ⟨0, 0, 0, 0⟩)
abbrev s_cell : Stmt := topS 20
abbrev N_cell : List Str := ["_law_script", "_law_k"]
abbrev P_cell : List Str := ["_law_script", "_law_k"]
theorem sc_cell : FnScope N_cell P_cell (defScope s_cell) := ⟨rfl, rfl, rfl, by decide +kernel, rfl, by decide +kernel, by decide +kernel⟩
abbrev s_draws : Stmt := topS 21
abbrev N_draws : List Str := ["_law_cell_here", "_law_many", "_law_rest", "_law_large", "_law_seed", "_law_found", "_law_k"]
abbrev P_draws : List Str := ["_law_cell_here", "_law_many"]
theorem sc_draws : FnScope N_draws P_draws (defScope s_draws) := ⟨rfl, rfl, rfl, by decide +kernel, rfl, by decide +kernel, by decide +kernel⟩
abbrev s_take : Stmt := topS 22
abbrev N_take : List Str := ["_law_draws_here", "_law_place"]
abbrev P_take : List Str := ["_law_draws_here", "_law_place"]
theorem sc_take : FnScope N_take P_take (defScope s_take) := ⟨rfl, rfl, rfl, by decide +kernel, rfl, by decide +kernel, by decide +kernel⟩
abbrev FnP (K : PySem.W.Frag) (x : Str) (st : Stmt) (f : Addr) (fd : FuncData) : Prop := FunD K x x (defArgs st) (defBody st) (defScope st) [] [] f fd
section
variable {P : Program} {w : World} {K : PySem.W.Frag} {mg : Str → Option Value} {base : Heap} {f : Addr} {fd : FuncData}
theorem cal_of {k : Nat} {x : Str} {st : Stmt} {ps : List Str} {sp : Sp} (F : FnP K x st f fd) (g : mg x = some (.ref f)) (b : Binds K fd ps []) (h : FnOk P w K mg base CX0 k f fd ps sp) : Cal P w K mg base k x sp := ⟨f, fd, ps, h, g, F.kp, b⟩
/-! ### _law_cell -/
def spCell (K : PySem.W.Frag) : Sp := fun vs H Q _ => ∃ (a : Addr) (ns : List Int) (k : Nat), vs = [.ref a, .int (k : Int)] ∧ SqL K H a (ns.map V.int) ∧ Q (.int (ns.getD k 0)) H
theorem ok_cell (F : FnP K "_law_cell" s_cell f fd) (m_len : mg "len" = none) (m_int : mg "int" = none) : FnOk P w K mg base CX0 1 f fd P_cell (spCell K) := by
  refine F.ok sc_cell (fun vs H Q E h => ?_) (fun cdv A outer s H vs Q E hr h => ?_)
  · obtain ⟨a, ns, k, rfl, _⟩ := h
    rfl
  · obtain ⟨a, ns, k, rfl, hS, q⟩ := h
    refine ⟨_, PSs.nox (pss_cons (ps_if (pt_cmpR op_lt (pv 1) (pe_callB call_len_seq (by rfl) m_len PySem.boot_len (pa_cons (pv 0) pa_nil)) (nomark _)) (pss_one (ps_ret (pe_callTy call_int1 (by rfl) m_int (by decide +kernel) (pa_cons (pe_ix ix_list (pv 0) (pv 1) (fun _ _ => rfl)) pa_nil)))) pss_nil)
      (pss_one (ps_ret pe_int))), ?_⟩
    walk_at "go"
    refine ⟨a, _, rfl, .inl hS, ?_⟩
    walk_at "go"
    rw [List.length_map]
    refine ite2 (fun e => ?_) (fun e => ?_)
    · have hk : k < ns.length := by have := of_decide_eq_true e; omega
      walk_at "go"
      refine ⟨a, _, _, _, rfl, rfl, hS, at_map (List.getElem?_eq_getElem hk), ?_⟩
      walk_at "go"
      rw [List.getD_eq_getElem?_getD, List.getElem?_eq_getElem hk] at q
      exact q
    · have hk : ¬ k < ns.length := fun z => e (decide_eq_true (by omega))
      rw [List.getD_eq_getElem?_getD, List.getElem?_eq_none (by omega)] at q
      exact q
/-! ### _law_draws -/
def Dr (n : Nat) (ds : List Int) : Prop := ds.length = n ∧ ∀ d ∈ ds, 0 ≤ d ∧ d < 1000000
def spDraws : Sp := fun vs H Q _ => ∃ (c : Int) (n : Nat), vs = [.int c, .int (n : Int)] ∧ n ≤ 100000 ∧ ∀ p ds, H p = none → Dr n ds → Q (.ref p) (upd H p (.lst (ds.map V.int)))
theorem ok_draws (F : FnP K "_law_draws" s_draws f fd) (m_int : mg "int" = none) (m_abs : mg "abs" = none) (m_range : mg "range" = none) : FnOk P w K mg base CX0 1 f fd P_draws spDraws := by
  refine F.ok sc_draws (fun vs H Q E h => ?_) (fun cdv A outer s H vs Q E hr h => ?_)
  · obtain ⟨c, n, rfl, _⟩ := h
    rfl
  · obtain ⟨c, n, rfl, hn, q⟩ := h
    refine ⟨_, PSs.nox (pss_cons (ps_set (i := 2) sc_draws.nd rfl (by first | exact .inl rfl | exact .inr rfl) (pe_callB call_abs (by rfl) m_abs (by decide +kernel) (pa_cons (pe_callTy call_int1 (by rfl) m_int (by decide +kernel) (pa_cons (pv 0) pa_nil)) pa_nil)))
      (pss_cons (ps_set (i := 3) sc_draws.nd rfl (by first | exact .inl rfl | exact .inr rfl) (pe_cmpR op_ge (pv 2) (pe_op op_pow pe_int pe_int) (nomark _)))
      (pss_cons (ps_set (i := 4) sc_draws.nd rfl (by first | exact .inl rfl | exact .inr rfl) (pe_op op_mod (pe_callTy call_int1 (by rfl) m_int (by decide +kernel) (pa_cons (pv 2) pa_nil)) pe_int))
      (pss_cons (ps_set (i := 5) sc_draws.nd rfl (by first | exact .inl rfl | exact .inr rfl) (pe_lst pa_nil))
      (pss_cons (ps_for PassesOwn.never rfl (pi_range1 (by rfl) m_range (pa_cons (pv 1) pa_nil)) (pg_name (i := 6) sc_draws.nd rfl (by first | exact .inl rfl | exact .inr rfl))
        (pss_cons (ps_set (i := 4) sc_draws.nd rfl (by first | exact .inl rfl | exact .inr rfl) (pe_op op_mod (pe_callTy call_int1 (by rfl) m_int (by decide +kernel) (pa_cons (pe_op op_add (pe_op op_add (pe_op op_mul (pv 4) pe_int) (pe_op op_mul pe_int (pv 6))) pe_int) pa_nil)) pe_int))
      (pss_one (ps_if (PW.pt (pw_and (pt_val (pv 3)) (pw_and1 (pt_cmpR op_gt (pv 2) pe_int (nomark _))))) (pss_cons (ps_expr (pe_bm PySem.F.plainAttrs_list PySem.F.slot_list_append PySem.F.type_list_append mt_append (pv 5) (pa_cons (pe_op op_mod (pe_callTy call_int1 (by rfl) m_int (by decide +kernel) (pa_cons (pv 2) pa_nil)) pe_int) pa_nil)))
      (pss_one (ps_set (i := 2) sc_draws.nd rfl (by first | exact .inl rfl | exact .inr rfl) (pe_op op_fdiv (pv 2) pe_int)))) (pss_one (ps_expr (pe_bm PySem.F.plainAttrs_list PySem.F.slot_list_append PySem.F.type_list_append mt_append (pv 5) (pa_cons (pe_op op_mod (pe_callTy call_int1 (by rfl) m_int (by decide +kernel) (pa_cons (pe_op op_fdiv (pe_op op_mod (pe_callTy call_int1 (by rfl) m_int (by decide +kernel) (pa_cons (pe_op op_add (pe_op op_mul (pv 4) pe_int) (pe_op op_mul pe_int (pv 6))) pa_nil)) pe_int) pe_int) pa_nil)) pe_int) pa_nil))))))))
      (pss_one (ps_ret (pv 5)))))))), ?_⟩
    walk_at "go"
    intro p np
    walk_at "go"
    refine for_gen (n := n) (fun i σ H1 => ∃ (r : Int) (z : Int) (ds : List Int) (v : Option V), 0 ≤ r ∧ 0 ≤ z ∧ z < 2147483647 ∧ Dr i ds ∧ H1 = upd H p (.lst (ds.map V.int)) ∧
      σ = [some (.int c), some (.int (n : Int)), some (.int r), some (.bl (decide ((10 : Int) ^ 18 ≤ (if c < 0 then -c else c)))), some (.int z), some (.ref p), v]) ?_ ?_ ?_ ?_ ?_
    · refine ⟨_, _, [], none, ?_, ?_, ?_, ⟨rfl, fun d hd => nomatch hd⟩, rfl, rfl⟩
      · split <;> omega
      · omega
      · omega
    · intro i σ H1 hi _
      show i < (n : Int).toNat
      omega
    · intro σ H1 _
      show (n : Int).toNat ≤ n
      omega
    · rintro i σ H1 x H' hi ⟨r, z, ds, v, hr0, hz0, hz1, hd, rfl, rfl⟩ ⟨rfl, rfl⟩
      have hlen : (ds.map V.int).length < sizeLine := by
        rw [List.length_map, hd.1]
        exact Nat.lt_of_lt_of_le hi (Nat.le_trans hn (by decide))
      have fin : ∀ (r' z' d : Int) (u : Option V), 0 ≤ r' → 0 ≤ z' → z' < 2147483647 → 0 ≤ d → d < 1000000 → ∃ (r : Int) (z : Int) (es : List Int) (v : Option V), 0 ≤ r ∧ 0 ≤ z ∧ z < 2147483647 ∧ Dr (i + 1) es ∧ upd (upd H p (.lst (ds.map V.int))) p (.lst (ds.map V.int ++ [.int d])) = upd H p (.lst (es.map V.int)) ∧
          [some (.int c), some (.int (n : Int)), some (.int r'), some (.bl (decide ((10 : Int) ^ 18 ≤ (if c < 0 then -c else c)))), some (.int z'), some (.ref p), u] = [some (.int c), some (.int (n : Int)), some (.int r), some (.bl (decide ((10 : Int) ^ 18 ≤ (if c < 0 then -c else c)))), some (.int z), some (.ref p), v] := by
        intro r' z' d u a1 a2 a3 a4 a5
        refine ⟨r', z', ds ++ [d], u, a1, a2, a3, ⟨by rw [List.length_append, hd.1]; rfl, fun x hx => ?_⟩, ?_, rfl⟩
        · rcases List.mem_append.mp hx with h | h
          · exact hd.2 x h
          · rw [List.mem_singleton.mp h]
            exact ⟨a4, a5⟩
        · rw [upd_upd, List.map_append]
          rfl
      walk_at "go"
      refine ite2 (fun e => ?_) (fun e => ?_)
      · walk_at "go"
        refine ite2 (fun e2 => ?_) (fun e2 => ?_)
        · walk_at "go"
          refine ⟨.inl ⟨rfl, _, .inl (.inl upd_same)⟩, ?_⟩
          walk_at "go"
          refine ⟨_, _, _, rfl, rfl, upd_same, hlen, ?_⟩
          walk_at "go"
          exact fin _ _ _ _ (by omega) (by omega) (by omega) (by omega) (by omega)
        · walk_at "go"
          refine ⟨.inl ⟨rfl, _, .inl (.inl upd_same)⟩, ?_⟩
          walk_at "go"
          refine ⟨_, _, _, rfl, rfl, upd_same, hlen, ?_⟩
          walk_at "go"
          exact fin _ _ _ _ (by omega) (by omega) (by omega) (by omega) (by omega)
      · walk_at "go"
        refine ⟨.inl ⟨rfl, _, .inl (.inl upd_same)⟩, ?_⟩
        walk_at "go"
        refine ⟨_, _, _, rfl, rfl, upd_same, hlen, ?_⟩
        walk_at "go"
        exact fin _ _ _ _ (by omega) (by omega) (by omega) (by omega) (by omega)
    · rintro σ H1 ⟨r, z, ds, v, hr0, hz0, hz1, hd, rfl, rfl⟩
      walk_at "go"
      exact q p ds np hd
/-! ### _law_take -/
def spTake (K : PySem.W.Frag) : Sp := fun vs H Q _ => ∃ (a p : Addr) (n m : Nat) (ds : List Int), vs = [.ref a, .ref p] ∧ SqL K H a (ds.map V.int) ∧ Dr n ds ∧ H p = some (.lst [.int (m : Int)]) ∧ a ≠ p ∧ ∀ r : Int, 0 ≤ r → r < 1000000 → Q (.int r) (upd H p (.lst [.int ((m + 1 : Nat) : Int)]))
theorem ok_take (F : FnP K "_law_take" s_take f fd) (m_len : mg "len" = none) : FnOk P w K mg base CX0 1 f fd P_take (spTake K) := by
  refine F.ok sc_take (fun vs H Q E h => ?_) (fun cdv A outer s H vs Q E hr h => ?_)
  · obtain ⟨a, p, n, m, ds, rfl, _⟩ := h
    rfl
  · obtain ⟨a, p, n, m, ds, rfl, hS, hd, hp, ne, q⟩ := h
    refine ⟨_, PSs.nox (pss_cons (ps_asg (pe_op op_add (pe_ix ix_list (pv 1) pe_int (fun _ _ => rfl)) pe_int) (pg_sub (pv 1) pe_int set_list))
      (pss_cons (ps_if (pt_cmpR op_gt (pe_ix ix_list (pv 1) pe_int (fun _ _ => rfl)) (pe_callB call_len_seq (by rfl) m_len PySem.boot_len (pa_cons (pv 0) pa_nil)) (nomark _)) (pss_one (ps_ret pe_int)) pss_nil)
      (pss_one (ps_ret (pe_ix ix_list (pv 0) (pe_op op_sub (pe_ix ix_list (pv 1) pe_int (fun _ _ => rfl)) pe_int) (fun _ _ => rfl)))))), ?_⟩
    have sb : SB p H (upd H p (.lst [.int ((m + 1 : Nat) : Int)])) := SB.upd (Z.Same.sb (Same.refl H))
    have hS' := sb.sq ne hS
    walk_at "go"
    refine ⟨p, _, 0, _, rfl, rfl, SqL.of hp, rfl, ?_⟩
    walk_at "go"
    refine ⟨p, _, 0, 0, rfl, rfl, hp, rfl, ?_⟩
    show tSeq _ _ _ _ (upd H p (.lst [.int ((m : Int) + 1)]))
    rw [show ((m : Int) + 1) = ((m + 1 : Nat) : Int) by omega]
    walk_at "go"
    refine ⟨p, _, 0, _, rfl, rfl, SqL.of upd_same, rfl, ?_⟩
    walk_at "go"
    refine ⟨a, _, rfl, .inl hS', ?_⟩
    walk_at "go"
    rw [List.length_map]
    refine ite2 (fun e => ?_) (fun e => ?_)
    · exact q 0 (by omega) (by omega)
    · have hk : m < ds.length := by
        apply Decidable.byContradiction
        intro z
        exact e (decide_eq_true (by omega))
      walk_at "go"
      refine ⟨p, _, 0, _, rfl, rfl, SqL.of upd_same, rfl, ?_⟩
      walk_at "go"
      refine ⟨a, _, _, _, rfl, rfl, hS', at_of (by omega) (show (ds.map V.int)[m]? = some (.int ds[m]) by rw [List.getElem?_map, List.getElem?_eq_getElem hk]; rfl), ?_⟩
      have h1 := hd.2 ds[m] (List.getElem_mem hk)
      exact q _ h1.1 h1.2
end
end Z
set_option Elab.async false
set_option linter.all false
set_option maxRecDepth 100000
set_option maxHeartbeats 4000000
namespace Z
open PySem PySem.Spec PyProof.Rows L2
/-! ### data -/
def sqD (b : Bool) (ds : List PyData) : PyData := match b with
  | true => .list ds
  | false => .tuple ds
def intsD (b : Bool) (ns : List Int) : PyData := sqD b (ns.map PyData.int)
def matD (b : Bool) (rs : List (List Int)) : PyData := sqD b (rs.map (intsD b))
theorem dp_sq {b : Bool} {K : PySem.W.Frag} {H : Hp} {a : Addr} {xs : List V} {ds : List PyData} (h : SqK b K H a xs) (d : DpAll K H xs ds) : Dp K H (.ref a) (sqD b ds) := by
  cases b
  · exact .tup h d
  · exact .lst h d
theorem dpa_ints {K : PySem.W.Frag} {H : Hp} : ∀ ns : List Int, DpAll K H (ns.map V.int) (ns.map PyData.int)
  | [] => .nil
  | n :: r => .cons (.int n) (dpa_ints r)
theorem dp_ints {b : Bool} {K : PySem.W.Frag} {H : Hp} {a : Addr} {ns : List Int} (h : SqK b K H a (ns.map V.int)) : Dp K H (.ref a) (intsD b ns) := dp_sq h (dpa_ints ns)
/-- a matrix: a list (or tuple) of lists (or tuples) of ints, at ps -/
def Mat (b : Bool) (K : PySem.W.Frag) (H : Hp) (a : Addr) (ps : List Addr) (rs : List (List Int)) : Prop := SqK b K H a (ps.map V.ref) ∧ ps.length = rs.length ∧ ∀ (i : Nat) (p : Addr) (r : List Int), ps[i]? = some p → rs[i]? = some r → SqK b K H p (r.map V.int)
theorem Mat.mono {b : Bool} {K : PySem.W.Frag} {H H' : Hp} {a : Addr} {ps : List Addr} {rs : List (List Int)} (s : Same H H') (m : Mat b K H a ps rs) : Mat b K H' a ps rs := ⟨Z.Same.sqK s m.1, m.2.1, fun i p r h1 h2 => Z.Same.sqK s (m.2.2 i p r h1 h2)⟩
theorem dpa_mat {b : Bool} {K : PySem.W.Frag} {H : Hp} : ∀ (ps : List Addr) (rs : List (List Int)), ps.length = rs.length → (∀ (i : Nat) (p : Addr) (r : List Int), ps[i]? = some p → rs[i]? = some r → SqK b K H p (r.map V.int)) → DpAll K H (ps.map V.ref) (rs.map (intsD b))
  | [], [], _, _ => .nil
  | p :: ps, r :: rs, hl, h => .cons (dp_ints (h 0 p r rfl rfl)) (dpa_mat ps rs (by simpa using hl) fun i q s h1 h2 => h (i + 1) q s h1 h2)
theorem Mat.dp {b : Bool} {K : PySem.W.Frag} {H : Hp} {a : Addr} {ps : List Addr} {rs : List (List Int)} (m : Mat b K H a ps rs) : Dp K H (.ref a) (matD b rs) := dp_sq m.1 (dpa_mat ps rs m.2.1 m.2.2)
theorem lay_ints : ∀ ns : List Int, PyData.canLayAll0 (ns.map PyData.int) = true
  | [] => rfl
  | n :: r => by
    rw [List.map_cons, PyData.canLayAll0, lay_ints r]
    rfl
theorem dep_ints : ∀ ns : List Int, PyData.depthAll (ns.map PyData.int) = 0
  | [] => rfl
  | n :: r => by
    rw [List.map_cons, PyData.depthAll, dep_ints r]
    rfl
theorem shaped_ints (b : Bool) (ns : List Int) : SeqAt.shaped (intsD b ns) = true := by
  unfold SeqAt.shaped intsD
  cases b
  · show (PyData.canLayAll0 (ns.map PyData.int) && decide (PyData.depthAll (ns.map PyData.int) + 1 ≤ 64)) = true
    rw [lay_ints, dep_ints]
    rfl
  · show (PyData.canLayAll0 (ns.map PyData.int) && decide (PyData.depthAll (ns.map PyData.int) + 1 ≤ 64)) = true
    rw [lay_ints, dep_ints]
    rfl
theorem lay_mat (b : Bool) : ∀ rs : List (List Int), PyData.canLayAll0 (rs.map (intsD b)) = true
  | [] => rfl
  | n :: r => by
    rw [List.map_cons, PyData.canLayAll0, lay_mat b r, SeqAt.canLay_of_shaped (shaped_ints b n)]
    rfl
theorem dep_mat (b : Bool) : ∀ rs : List (List Int), PyData.depthAll (rs.map (intsD b)) ≤ 1
  | [] => Nat.zero_le _
  | n :: r => by
    rw [List.map_cons, PyData.depthAll]
    have h := dep_mat b r
    have h2 : (intsD b n).depth = 1 := by
      cases b
      · show PyData.depthAll (n.map PyData.int) + 1 = 1
        rw [dep_ints]
      · show PyData.depthAll (n.map PyData.int) + 1 = 1
        rw [dep_ints]
    omega
theorem shaped_mat (b : Bool) (rs : List (List Int)) : SeqAt.shaped (matD b rs) = true := by
  have h := dep_mat b rs
  unfold SeqAt.shaped matD
  cases b
  · show (PyData.canLayAll0 (rs.map (intsD false)) && decide (PyData.depthAll (rs.map (intsD false)) + 1 ≤ 64)) = true
    rw [lay_mat, decide_eq_true (by omega)]
    rfl
  · show (PyData.canLayAll0 (rs.map (intsD true)) && decide (PyData.depthAll (rs.map (intsD true)) + 1 ≤ 64)) = true
    rw [lay_mat, decide_eq_true (by omega)]
    rfl
theorem same2 {K : PySem.W.Frag} {H : Hp} {x y : V} {d : PyData} {R : PyData → PyData → Prop} (hx : Dp K H x d) (hy : Dp K H y d) (hs : SeqAt.shaped d = true) (q : R d d) : ∃ d' e', Dp K H x d' ∧ Dp K H y e' ∧ SeqAt.shaped d' = true ∧ SeqAt.shaped e' = true ∧ R d' e' := ⟨d, d, hx, hy, hs, hs, q⟩
theorem eqv_same {d : PyData} (hs : SeqAt.shaped d = true) : PyData.eqv d d = true := SeqAt.eqv_refl d (SeqAt.canLay_of_shaped hs)
/-! ### a target that is one of two kinds -/
def gOr (t u : TG) : TG := fun v σ H Q => t v σ H Q ∨ u v σ H Q
theorem pg_or {X : Cx} {e : Expr} {t u : TG} (h1 : PG X e t) (h2 : PG X e u) : PG X e (gOr t u) := by
  refine ⟨fun pins s σ H v uu Q I r hw => ?_⟩
  rcases hw with h | h
  · exact h1.run pins s σ H v uu Q I r h
  · exact h2.run pins s σ H v uu Q I r h
/-! ### isinstance of built-in kinds -/
theorem isi {K : PySem.W.Frag} {H : Hp} {x : V} {T c : String} {b : Bool} {R : Bool → Prop} (t : TyOf K H x (.type T)) (h : kitB T c = some b) (q : R b) : ∃ (x' c' : V) (t' u' : Value) (b' : Bool), [x, .ty c] = [x', c'] ∧ ClsV c' u' ∧ TyX K H x' t' ∧ PySem.W.kitOne K t' u' = some b' ∧ R b' :=
  ⟨x, .ty c, .type T, .type c, b, rfl, .ty c, .base t, kit_ty h, q⟩
/-! ### rules by the written part itself (within a comprehension's block) -/
section
variable {X : Cx} {K : PySem.W.Frag}
theorem ix_list_K (h : X.K = K) : IxR X (rIxL K) := by subst h; exact ix_list
theorem ix_tup_K (h : X.K = K) : IxR X (rIxT K) := by subst h; exact ix_tup
theorem ix_seq_K (h : X.K = K) : IxR X (rIx K) := by subst h; exact ix_seq
theorem call_len_seq_K (h : X.K = K) : CallR X (.builtin "len") (fun xs H Q => ∃ p ys, xs = [.ref p] ∧ (SqL K H p ys ∨ SqT K H p ys) ∧ Q (.int ys.length) H) := by subst h; exact call_len_seq
theorem call_list_of_K (h : X.K = K) : CallR X (.type "list") (fun xs H Q => ∃ p ys, xs = [.ref p] ∧ (SqL K H p ys ∨ SqT K H p ys) ∧ ∀ l, H l = none → Q (.ref l) (upd H l (.lst ys))) := by subst h; exact call_list_of
theorem call_tuple_of_K (h : X.K = K) : CallR X (.type "tuple") (fun xs H Q => ∃ p ys, xs = [.ref p] ∧ ((SqL K H p ys ∧ ∀ l, H l = none → Q (.ref l) (upd H l (.tup ys))) ∨ (SqT K H p ys ∧ Q (.ref p) H))) := by subst h; exact call_tuple_of
theorem op_in_seq_K (h : X.K = K) : OpR X (compareOp .In) (rIn K false) := by subst h; exact op_in_seq
theorem op_notIn_seq_K (h : X.K = K) : OpR X (compareOp .NotIn) (rIn K true) := by subst h; exact op_notIn_seq
theorem op_eqD_K (h : X.K = K) (hu : X.A.units + 64 < cLine) : OpR X (compareOp .Eq) (rEqD K) := by subst h; exact op_eqD hu
theorem op_neD_K (h : X.K = K) (hu : X.A.units + 64 < cLine) : OpR X (compareOp .NotEq) (rNeD K) := by subst h; exact op_neD hu
theorem call_isi_K (h : X.K = K) : CallR X (.builtin "isinstance") (rIsi K) := by subst h; exact call_isi
end
/-! ### great products -/
theorem big_mul {i j : Int} (hi : i.natAbs < 2 ^ 4000) (hj : j.natAbs < 2 ^ 4000) : CMulX i j := mulx_ok hi hj (by decide)
/-! ### sums of multiples of rows -/
def combN (rs : List (List Int)) (fs : List Int) (w : Nat) : Nat → List Int
  | 0 => List.replicate w 0
  | n + 1 => List.zipWith (fun a b => a + fs.getD n 0 * b) (combN rs fs w n) (rs.getD n [])
theorem combN_len {rs : List (List Int)} {fs : List Int} {w : Nat} (h : ∀ r ∈ rs, r.length = w) : ∀ n, n ≤ rs.length → (combN rs fs w n).length = w
  | 0, _ => List.length_replicate
  | n + 1, hn => by
    rw [combN, List.length_zipWith, combN_len h n (by omega), List.getD_eq_getElem?_getD, List.getElem?_eq_getElem (by omega), Option.getD_some, h _ (List.getElem_mem _)]
    omega
theorem combN_at {rs : List (List Int)} {fs : List Int} {w i c : Nat} (hi : i < rs.length) (hf : i < fs.length) (c1 : c < (combN rs fs w i).length) (c2 : c < rs[i].length) : (combN rs fs w (i + 1))[c]? = some ((combN rs fs w i)[c] + fs[i] * rs[i][c]) := by
  have g1 : fs.getD i 0 = fs[i] := by rw [List.getD_eq_getElem?_getD, List.getElem?_eq_getElem hf]; rfl
  have g2 : rs.getD i [] = rs[i] := by rw [List.getD_eq_getElem?_getD, List.getElem?_eq_getElem hi]; rfl
  rw [combN, List.getElem?_zipWith, g1, g2, List.getElem?_eq_getElem c1, List.getElem?_eq_getElem c2]
end Z
set_option Elab.async false
set_option linter.all false
set_option maxRecDepth 100000
set_option maxHeartbeats 4000000
namespace Z
open PySem PySem.Spec PyProof.Rows L2
/-! ### own classes: making, methods, calls of instances, == -/
structure Mak (P : Program) (w : World) (K : PySem.W.Frag) (mg : Str → Option Value) (base : Heap) (k : Nat) (x : Str) (sp : Sp) : Prop where
  ex : ∃ (C f : Addr) (fd : FuncData) (ps : List Str) (si : Sp), Mk K C f ∧ FnOk P w K mg base CX0 k f fd ps si ∧ mg x = some (.ref C) ∧ Binds K fd ps [] ∧
    ∀ vs H Q E, sp vs H Q E → ∀ n dx, H n = none → H dx = none → dx ≠ n → si (.ref n :: vs) (upd (upd H dx (.own n)) n (.ins C dx [])) (fun v H2 => v = .non ∧ Q (.ref n) H2) E
structure Met (P : Program) (w : World) (K : PySem.W.Frag) (mg : Str → Option Value) (base : Heap) (k : Nat) (C : Addr) (m : Str) (sp : Sp) : Prop where
  ex : ∃ (f : Addr) (fd : FuncData) (ps : List Str), Cls K C ∧ Meth K C m f ∧ FnOk P w K mg base CX0 k f fd ps sp ∧ Binds K fd ps []
section
variable {X : Cx} {k j : Nat} {x m : Str} {sp : Sp} {C : Addr} {p pos apos : Pos} {e o : Expr} {es : List Expr} {t : TA} {ta : TE}
theorem pe_mk (c : Mak X.prog X.w X.K X.mg X.base k x sp) (hr : Room j X.A) (hk : k + 1 ≤ j) (hg : Gl X x) (ha : PA X (e :: es) t)
    (hdb : (x == ("__debug__" : Str)) = false := by decide) (he : starEach (e :: es) X.env = (false, eval e X.env) :: starEach es X.env := by rfl) (hpl : (backTo pos (starEach es X.env)).any (·.1) = false := by rfl) : PE X (.Call (.Name x p) (e :: es) [] pos) (tCall sp [] E0 t) := by
  obtain ⟨C, f, fd, ps, si, M, F, hm, b, imp⟩ := c.ex
  constructor
  intro pins s σ H Q I h
  refine wpAny_Call_Name_kw (ld_glob I hg hm ?_ hdb)
  refine PySem.W.callWith_K (h₀ := X.base) I.ok.mod.kin M.kp (thn (ha.run pos pins s σ H _ I h) fun us s1 ⟨vs, H1, I1, r, q⟩ => ⟨I1.kIn, ?_⟩) he hpl
  have q2 : sp vs H1 Q E0 := by
    have z : sp (vs ++ []) H1 Q E0 := q
    rw [List.append_nil] at z
    exact z
  refine run_make (dvs := []) M F (hr.mono hk) b .nil pass0 I1 r (fun n dx n1 n2 n3 => ?_)
  rw [List.append_nil]
  exact imp _ _ _ _ q2 n dx n1 n2 n3
theorem pe_me {pl : Sem Bool} (c : Met X.prog X.w X.K X.mg X.base k C m sp) (he : PE X o ta) (hr : Room j X.A) (hk : k ≤ j) (ha : PA X (e :: es) t)
    (hst : starEach (e :: es) X.env = (false, eval e X.env) :: starEach es X.env := by rfl) (hpl : (backTo pos (starEach es X.env)).any (·.1) = false := by rfl)
    (ht : eval (.Call (.Attribute o m apos) (e :: es) [] pos) X.env = (do
      let ov ← eval o X.env
      standAt apos.atName
      let (f, first) ← holding [ov] (getMethod ov m pl)
      callWith pos f first (backTo pos (starEach (e :: es) X.env)) (backToKw pos (keywordEach [] X.env))) := by rfl) : PE X (.Call (.Attribute o m apos) (e :: es) [] pos) (tMeth C m sp [] E0 ta t) := by
  obtain ⟨f, fd, ps, cl, me, F, b⟩ := c.ex
  exact pe_meth he cl me F (hr.mono hk) b .nil pass0 ha hst hpl ht
theorem pe_me0 {pl : Sem Bool} (c : Met X.prog X.w X.K X.mg X.base k C m sp) (he : PE X o ta) (hr : Room j X.A) (hk : k ≤ j)
    (ht : eval (.Call (.Attribute o m apos) [] [] pos) X.env = (do
      let ov ← eval o X.env
      standAt apos.atName
      let (f, first) ← holding [ov] (getMethod ov m pl)
      callWith pos f first (backTo pos (starEach [] X.env)) (backToKw pos (keywordEach [] X.env))) := by rfl) : PE X (.Call (.Attribute o m apos) [] [] pos) (tMeth C m sp [] E0 ta tNil) := by
  obtain ⟨f, fd, ps, cl, me, F, b⟩ := c.ex
  exact pe_meth0 he cl me F (hr.mono hk) b .nil pass0 ht
end
/-! ### f(e, ..), f an instance of C -/
structure Cob (P : Program) (w : World) (K : PySem.W.Frag) (mg : Str → Option Value) (base : Heap) (k : Nat) (C : Addr) (sp : Sp) : Prop where
  ex : ∃ g : Addr, StX.CallO K C g ∧ FnR P w K mg base CX0 k g sp
def tCo (C : Addr) (sp : Sp) (tf : TE) (t : TA) : TE := fun σ H Q => tf σ H fun y H1 => ∃ a, y = V.ref a ∧ t σ H1 fun vs H2 => (∃ dx fs, H2 a = some (.ins C dx fs)) ∧ sp (V.ref a :: vs) H2 Q E0
section
variable {X : Cx} {k j : Nat} {sp : Sp} {C : Addr} {pos : Pos} {e fe : Expr} {es : List Expr} {t : TA} {tf : TE}
theorem pe_co (c : Cob X.prog X.w X.K X.mg X.base k C sp) (hf : PE X fe tf) (hr : Room j X.A) (hk : k ≤ j) (ha : PA X (e :: es) t)
    (ht : eval (.Call fe (e :: es) [] pos) X.env = (do callWith pos (← eval fe X.env) [] (backTo pos (starEach (e :: es) X.env)) (backToKw pos (keywordEach [] X.env))) := by rfl)
    (he : starEach (e :: es) X.env = (false, eval e X.env) :: starEach es X.env := by rfl) (hpl : (backTo pos (starEach es X.env)).any (·.1) = false := by rfl) : PE X (.Call fe (e :: es) [] pos) (tCo C sp tf t) := by
  obtain ⟨g, co, F⟩ := c.ex
  constructor
  intro pins s σ H Q I h
  refine Call_ (thn (hf.run pins s σ H _ I h) fun u s1 ⟨y, H1, I1, ry, a, ey, q⟩ => ?_) ht
  subst ey
  obtain rfl : u = Value.ref a := ry
  refine StX.callO_with (thn (ha.run pos pins s1 σ H1 _ I1 q) fun us s2 ⟨vs, H2, I2, r, hi, q2⟩ => ?_) he hpl
  have hi2 : StX.InsC X H2 a C := .inr hi
  obtain ⟨ox, od, J, hd⟩ := StX.insC_at I2 hi2
  exact ⟨⟨C, ox, od, J, hd⟩, StX.run_callO co F (hr.mono hk) pass0 I2 hi2 r q2⟩
end
/-! ### a == b by the class's own __eq__ -/
structure Eqo (P : Program) (w : World) (K : PySem.W.Frag) (mg : Str → Option Value) (base : Heap) (k : Nat) (C : Addr) (sp : Sp) : Prop where
  ex : ∃ (f : Addr) (fd : FuncData) (ps : List Str), FnOk P w K mg base CX0 k f fd ps sp ∧ PySem.W.findIn K (.ref C) "__eq__" = some (some (.ref f)) ∧ PySem.W.isFn K (.ref f) = true ∧ Binds K fd ps []
def rOwn (C : Addr) (sp : Sp) : R2 := fun x y H Q => ∃ a b dx dy fs gs, x = .ref a ∧ y = .ref b ∧ H a = some (.ins C dx fs) ∧ H b = some (.ins C dy gs) ∧ sp [.ref a, .ref b] H (fun v H' => ∃ r, v = .bl r ∧ Q v H') E0
theorem op_own {X : Cx} {k j : Nat} {C : Addr} {sp : Sp} (c : Eqo X.prog X.w X.K X.mg X.base k C sp) (hr : Room j X.A) (hk : k ≤ j) : OpR X (compareOp .Eq) (rOwn C sp) := by
  intro pins s σ H x y v u Q I rx ry hq
  obtain ⟨f, fd, ps, F, hs, hf, hb⟩ := c.ex
  obtain ⟨a, b, dx, dy, fs, gs, rfl, rfl, ha, hb', q⟩ := hq
  cases rx
  cases ry
  obtain ⟨mA, J, _⟩ := ins_get I.hok ha
  obtain ⟨mB, J', _⟩ := ins_get I.hok hb'
  obtain ⟨od, J, _⟩ := J.look
  obtain ⟨od', J', _⟩ := J'.look
  obtain ⟨m, hF⟩ := I.fr
  show wpAny (model X.prog X.w) X.A (richCompare .Eq (Value.ref a) (Value.ref b)) (EP X pins σ Q) X.xe s
  refine PySem.W.cmp_K (op := .Eq) (tb := .ref C) (hr.mono hk).units0 hF I.ok.mod.kin J J'.type (by simp [PySem.W.notFirst]) hs hf ?_
  have r2 : Vals [V.ref a, V.ref b] [Value.ref a, Value.ref b] := .cons rfl (.cons rfl .nil)
  refine thn (run_fn (dvs := []) F (hr.mono hk) hb .nil pass0 I r2 q) fun r s' z => ?_
  obtain ⟨v, H', I', rv, b', rfl, q'⟩ := z
  cases rv
  exact ⟨.bl b', H', I', rfl, q'⟩
end Z
set_option Elab.async false
set_option linter.all false
set_option maxRecDepth 100000
set_option maxHeartbeats 4000000
namespace Z
open PySem PySem.Spec PyProof.Rows L2 NdefX
/-! ### an own exception whose __init__ begins with super().__init__(..) -/
/-- what the written part says of it: the function f of the class C (cell cc, code c) -/
structure SupK (P : Program) (K : PySem.W.Frag) (C f c cc : Addr) (fd : FuncData) : Prop where
  lk : ∃ oc od osl, K.lookup f = some ⟨oc, od, .func fd, osl⟩
  code : ∃ (ccl : Value) (cdd : Option Addr) (vs : Array Value) (ccs : Array (Option Value)) (file : Str) (tf : Tok), K.lookup c = some ⟨ccl, cdd, .fields vs, ccs⟩ ∧ vs[2]? = some (.str file tf) ∧ ((P.main.file : Str) == file) = true
  cell : ∃ cl cld csl, K.lookup cc = some ⟨cl, cld, .cell (some (.ref C)), csl⟩
  top : (P.main.scope.names.lookup ("super" : Str)).isSome = false
  mro : PySem.W.mroIn K C (.ref C) = some true
  opq : PySem.W.nsIn K cStatics "thirdparty.any" = some none
  ini : PySem.W.ks_superIn K C C "__init__" = some (some (.builtin "ValueError.__init__"))
  sub : PySem.W.subIn K (.ref C) (.type "ValueError") = some true
  exi : PySem.W.excInitIn K C He.veBase "ValueError.__new__" = true
  oex : OexC K C
section
variable {CX : CXT} {P : Program} {w : World} {K : PySem.W.Frag} {mg : Str → Option Value} {base : Heap} {N ps : List Str} {F : NF} {f C a cc : Addr} {A : Around} {outer : List Env} {s0 s : Shared} {H0 H : Hp} {E : XK} {σ : L2.St}
/-- the bound __init__ called -/
theorem call_mw {X : Cx} {pins : List (Addr × Obj)} {u : Addr} {us : List Value} {Q : Value → Shared → Prop} {E : Value → Shared → Prop} {A : Around} (S : SupK X.prog X.K C f c cc fd) (I : Inv X ((u, PySem.W.kxs_mw "ValueError.__init__" a) :: pins) σ H s) (e : H a = some (exo a C none)) (hz : us.length ≤ sizeLine)
    (h : ∀ s', Inv X ((u, PySem.W.kxs_mw "ValueError.__init__" a) :: pins) σ H s' → Q .none s') : wpAny (model X.prog X.w) A (call (.ref u) us) Q E s := by
  have FB := F.excBase_ValueError
  obtain ⟨nm, N', qn, bs, bm, hdct, sn, sub, ab, col, dd, k0, k1, k2, k3, k5, hC, hT⟩ := PySem.W.excInit_of I.kIn S.exi
  have hu := (I.pin (u, PySem.W.kxs_mw "ValueError.__init__" a) (List.mem_append_right _ (List.mem_cons_self ..))).1
  obtain ⟨t1, he⟩ := exo_at I.hok e
  obtain ⟨hh, g, d, tk, os⟩ := s
  refine wpAny_call (codeAny_of_tree ?_)
  show wpAny _ A.in1 (callAny (.ref u) ⟨us, []⟩) _ _ _
  simp only [callAny]
  refine wpAny_bind (wpAny_load hu ?_)
  simp only [PySem.W.kxs_mw, show (Value.type "method-wrapper" == Value.type "method" || Value.type "method-wrapper" == Value.type "builtin_function_or_method" || Value.type "method-wrapper" == Value.type "method-wrapper") = true by decide, if_true]
  refine PySem.W.KFB.if_so (by decide) ?_
  refine wpAny_bind (PySem.W.check_bound_init FB.toExcCallFacts hC he rfl ?_)
  refine wpAny_bind (wpAny_pure (wpAny_pure ?_))
  refine ⟨plainId_quiet FB.init.plain _, codeAny_builtin FB.initEntry ?_⟩
  refine PySem.W.exc_init_tree (cls := .ref C) (t0 := t1) (dv := none) (c2 := .none) (c3 := .none) (b4 := .bool false) he hz fun h' k hx _ => ?_
  have J := I.write (t' := tk) (x := a) (e := a) (o := exo a C none) (by rw [e]; exact True.intro) (.inl rfl) k ⟨_, hx⟩ (exo_ok hx)
  have eu : upd H a (exo a C none) = H := by
    funext b
    by_cases hb : b = a
    · rw [hb, upd_same, e]
    · rw [upd_ne hb]
  rw [eu] at J
  exact h _ J
/-- super().__init__(e, ..), the first statement -/
theorem super_first {pl : Sem Bool} {fd : FuncData} {ar : Arg} {t : TA} {e : Expr} {es : List Expr} {p0 p1 p2 pos pos2 : Pos} {Qn : Hp → Prop} (S : SupK P K C f F.c cc fd) (hcl : F.cl = [(("__class__" : Str), cc)]) (hp : (fd.params.posonlyargs ++ fd.params.args).head? = some ar)
    (hks : F.scope.names.lookup ("super" : Str) = some .globalImplicit) (hkc : F.scope.names.lookup ("__class__" : Str) = some .free) (hka : F.scope.names.lookup ar.arg = some .local) (hk : F.scope.kind = .function) (m_super : mg "super" = none)
    (hN : N[0]? = some ar.arg) (ha : PA (ncx CX P w K mg base N F f A outer s0 H0 E) (e :: es) t) (I : Inv (ncx CX P w K mg base N F f A outer s0 H0 E) [] σ H s) (hs : σ[0]? = some (some (.ref a))) (hx : H a = some (exo a C none))
    (ht : t σ H fun vs H1 => vs.length ≤ 1000 ∧ H1 a = some (exo a C none) ∧ Qn H1)
    (hint : interactive (ncx CX P w K mg base N F f A outer s0 H0 E).env = false := by rfl) (hsw : swapsWith (.Call (.Attribute (.Call (.Name "super" p0) [] [] p1) "__init__" p2) (e :: es) [] pos) none pos2.line (ncx CX P w K mg base N F f A outer s0 H0 E).env = pure false := by rfl)
    (hev : eval (.Call (.Attribute (.Call (.Name "super" p0) [] [] p1) "__init__" p2) (e :: es) [] pos) (ncx CX P w K mg base N F f A outer s0 H0 E).env = (do
      let ov ← attributeBase (.Call (.Name "super" p0) [] [] p1) "__init__" (ncx CX P w K mg base N F f A outer s0 H0 E).env (eval (.Call (.Name "super" p0) [] [] p1) (ncx CX P w K mg base N F f A outer s0 H0 E).env)
      standAt p2.atName
      let (g, first) ← holding [ov] (getMethod ov "__init__" pl)
      callWith pos g first (backTo pos (starEach (e :: es) (ncx CX P w K mg base N F f A outer s0 H0 E).env)) []) := by rfl)
    (he : starEach (e :: es) (ncx CX P w K mg base N F f A outer s0 H0 E).env = (false, eval e (ncx CX P w K mg base N F f A outer s0 H0 E).env) :: starEach es (ncx CX P w K mg base N F f A outer s0 H0 E).env := by rfl) (hpl : (backTo pos (starEach es (ncx CX P w K mg base N F f A outer s0 H0 E).env)).any (·.1) = false := by rfl) :
    _root_.PySem.wpAt (model P w) (ncx CX P w K mg base N F f A outer s0 H0 E).A (.func F.body (ncx CX P w K mg base N F f A outer s0 H0 E).env) (exec (.Expr (.Call (.Attribute (.Call (.Name "super" p0) [] [] p1) "__init__" p2) (e :: es) [] pos) pos2) (ncx CX P w K mg base N F f A outer s0 H0 E).env)
      (fun fl s' => fl = .next ∧ ∃ H1, Inv (ncx CX P w K mg base N F f A outer s0 H0 E) [] σ H1 s' ∧ H1 a = some (exo a C none) ∧ Qn H1) (ncx CX P w K mg base N F f A outer s0 H0 E).xe s := by
  obtain ⟨oc, od, osl, lkf⟩ := S.lk
  obtain ⟨ccl, cdd, vs, ccs, file, tf, lkc, hvs, hfile⟩ := S.code
  obtain ⟨cl, cld, csl, lkcc⟩ := S.cell
  have KX : K.In s.heap := I.kIn
  obtain ⟨m, hn, hl⟩ := I.loc
  obtain ⟨u, ru, lu⟩ := hl 0 ar.arg (.ref a) hN hs (.inl hka)
  obtain rfl : u = .ref a := ru
  have hma : m ar.arg = some (.ref a) := by
    rcases lu with ⟨_, z⟩ | ⟨z, _⟩
    · exact z
    · rcases z with z | z
      · rw [show (ncx CX P w K mg base N F f A outer s0 H0 E).env.kindOf ar.arg = some .local from hka] at z; cases z
      · rw [show (ncx CX P w K mg base N F f A outer s0 H0 E).env.kindOf ar.arg = some .local from hka] at z; cases z
  obtain ⟨nm, q, NN, bs, bm, sn, sub, ab, col, dd, k0, k1, k2, k3, k5, hC, hbm⟩ := S.oex.cls
  obtain ⟨t1, hox⟩ := exo_at I.hok hx
  refine ks_wpAt_Expr_any (ks_wpAt_MethodCall ?_ hev) hint hsw
  refine ks_wpAt_super_base (env := (ncx CX P w K mg base N F f A outer s0 H0 E).env) (cc := F.c) hks hkc (by decide) rfl (KX _ _ lkf) rfl hp rfl (KX _ _ lkc) rfl hvs hfile S.top ?_
  obtain ⟨mb, h1, h2⟩ := I.mod.blt
  refine PySem.W.ks_loadName_global hk hks (Calls.loadGlobal_builtin (by rw [I.ok.glob]; exact I.mod.glob.keeps I.bk) m_super (by rw [I.ok.blt]; exact h1.keeps I.bk) ((h2 "super" (by decide)).trans (by decide +kernel)) ⟨rfl, ?_⟩)
  refine wpAny_loadName_free hk hkc (c := cc) (by show F.cl.lookup _ = _; rw [hcl]; rfl) ⟨_, KX _ _ lkcc, rfl⟩ ?_
  refine wpAny_loadName_local hk hka hn hma ?_
  refine ks_wpAny_isType_cls (KX _ _ hC) rfl ⟨rfl, ?_⟩
  obtain ⟨hh, g, d, tk, os⟩ := s
  refine ks_wpAny_call_super (KX _ _ hC) rfl hox rfl (fun c z => by cases z) (PySem.W.looks_mroIn KX S.mro) (fun h' eso kso => ?_)
  have I2 : Inv (ncx CX P w K mg base N F f A outer s0 H0 E) [] σ H ⟨h', g, d, tk, os⟩ := I.kept kso
  have KX2 : K.In h' := I2.kIn
  have hox2 := kso _ _ hox
  have IA : PySem.W.InstAt h' a _ C none := ⟨hox2, rfl, rfl, trivial⟩
  have hI : PySem.W.Looks (model P w) h' (isInstance (.ref a) (.type "ValueError")) true := IA.type.andThen (PySem.W.looks_subIn KX2 S.sub)
  have hm := S.ini
  cases hc : PySem.W.clsIn K C with
  | none =>
    unfold PySem.W.ks_superIn at hm
    rw [hc] at hm
    cases hm
  | some cd =>
    unfold PySem.W.ks_superIn at hm
    rw [hc] at hm
    refine PySem.W.kxs_getMethod PySem.W.kxs_ValueError eso (PySem.W.looks_opaque KX2 S.opq) (l₀ := cd.mro) ?_ rfl KX2 hm hI (PySem.W.ks_ne KX2 IA hc) (by decide) ?_
    · exact fun A Q E s k q => wpAny_bind ((PySem.W.looks_clsIn KX2 hc) A _ E s k (wpAny_pure q))
    · have I3 : Inv (ncx CX P w K mg base N F f A outer s0 H0 E) [(h'.objs.size, PySem.W.kxs_mw "ValueError.__init__" a)] σ H ⟨h'.push (PySem.W.kxs_mw "ValueError.__init__" a), g, d, tk + 1, os⟩ := ClX.pin_new I2 (fun b o e => Heap.get?_push_of_some _ e) (Nat.le_refl _) (Heap.get?_push_at rfl rfl) (fun v z => by cases z)
      rw [he]
      refine PySem.W.kxs_callWith (i := "ValueError.__init__") (x := a) (by show (false || (backTo pos (starEach es _)).any (·.1)) = false; rw [hpl]; rfl) ?_
      refine PySem.Calls.evalArgs_plain ?_
      have hrun := ha.run pos _ _ σ H _ I3 ht
      rw [he] at hrun
      refine thn hrun fun us s3 ⟨ws, H3, I4, r, q1, q2, q3⟩ => ?_
      refine ⟨ClX.pin_at I4, ?_⟩
      refine call_mw (X := ncx CX P w K mg base N F f A outer s0 H0 E) S I4 q2 (by show us.length ≤ sizeLine; rw [← r.length]; exact Nat.le_trans q1 (by decide)) fun s' I5 => ⟨rfl, H3, ClX.unpin I5, q2, q3⟩
theorem wpAt_to {M : Model} {A : Around} {c : Code} {α : Type} {m : Sem α} {Q Q' : α → Shared → Prop} {E : Value → Shared → Prop} {s : Shared} (h : _root_.PySem.wpAt M A c m Q E s) (hq : ∀ a s', Q a s' → Q' a s') : _root_.PySem.wpAt M A c m Q' E s := ks_wpAt_mono h hq fun _ _ z => z
/-- THE RULE: such an __init__, the rest of its body by its readings -/
theorem sup_ok {pl : Sem Bool} {fd : FuncData} {dV kV doc pm ct : Value} {an : Option Addr} {ar : Arg} {k : Nat} {sp : Sp} {txt : Str} {j : Nat} {p0 p1 p2 p3 pos pos2 : Pos} {rest : List Stmt} (hfd : fd = PySem.W.fnX F.name F.qual F.params F.body F.scope F.cl dV kV doc pm an (.ref F.c) ct)
    (S : SupK P K C f F.c cc fd) (hcd : PySem.W.codeIn K (.ref F.c) F.qual = true) (NS : NScope N ps ["__class__"] F.scope) (hcl : F.cl = [(("__class__" : Str), cc)]) (hp : (F.params.posonlyargs ++ F.params.args).head? = some ar) (hks : F.scope.names.lookup ("super" : Str) = some .globalImplicit) (m_super : mg "super" = none)
    (hN : N[0]? = some ar.arg) (hka : F.scope.names.lookup ar.arg = some .local)
    (hb : F.body = .Expr (.Call (.Attribute (.Call (.Name "super" p0) [] [] p1) "__init__" p2) [.Constant (.str txt) j p3] [] pos) pos2 :: rest)
    (len : ∀ vs H Q E, sp vs H Q E → vs.length = ps.length) (hself : ∀ vs H Q E, sp vs H Q E → ∃ a vs', vs = .ref a :: vs' ∧ H a = some (exo a C none))
    (hint : ∀ (A : Around) (outer : List Env) (s : Shared) (H : Hp) (E : XK), interactive (ncx CX P w K mg base N F f A outer s H E).env = false)
    (hsw : ∀ (A : Around) (outer : List Env) (s : Shared) (H : Hp) (E : XK), swapsWith (.Call (.Attribute (.Call (.Name "super" p0) [] [] p1) "__init__" p2) [.Constant (.str txt) j p3] [] pos) none pos2.line (ncx CX P w K mg base N F f A outer s H E).env = pure false)
    (hev : ∀ (A : Around) (outer : List Env) (s : Shared) (H : Hp) (E : XK), eval (.Call (.Attribute (.Call (.Name "super" p0) [] [] p1) "__init__" p2) [.Constant (.str txt) j p3] [] pos) (ncx CX P w K mg base N F f A outer s H E).env = (do
      let ov ← attributeBase (.Call (.Name "super" p0) [] [] p1) "__init__" (ncx CX P w K mg base N F f A outer s H E).env (eval (.Call (.Name "super" p0) [] [] p1) (ncx CX P w K mg base N F f A outer s H E).env)
      standAt p2.atName
      let (g, first) ← holding [ov] (getMethod ov "__init__" pl)
      callWith pos g first (backTo pos (starEach [.Constant (.str txt) j p3] (ncx CX P w K mg base N F f A outer s H E).env)) []))
    (hrest : ∀ (A : Around) (outer : List Env) (s : Shared) (H : Hp) (vs : List V) (Q : VK) (E : XK), sp vs H Q E → ∃ t, PSs (ncx CX P w K mg base N F f A outer s H E) rest t ∧ t { nx := fun _ H' => Q .non H', rt := Q } (startF N vs [some (.ref C)]) H) : FnOk P w K mg base CX (k + 1) f fd ps sp := by
  refine ⟨len, fun A outer s H args us vs Q E hr e0 hbn r hsp => ?_⟩
  have hl := len _ _ _ _ hsp
  have KX : K.In s.heap := e0.mod.kin.keeps fun b o e => (e0.bs b o e).1
  have lim : s.heap.NoLimit := e0.mod.nolimit.keeps fun b o e => (e0.bs b o e).1
  obtain ⟨oc, od, osl, lkf⟩ := S.lk
  obtain ⟨cl, cld, csl, lkcc⟩ := S.cell
  have CA : CellsAt F.cl ["__class__"] [some (.ref C)] s.heap H := by
    refine ⟨rfl, fun y c e => ?_, fun x y c e1 e2 => ?_, fun i y e => ?_⟩
    · rw [hcl] at e
      have ec : c = cc := by
        unfold List.lookup at e
        split at e
        · exact (Option.some.inj e).symm
        · cases e
      subst ec
      exact ⟨(e0.bs _ _ (e0.mod.kin _ _ lkcc)).2, _, _, KX _ _ lkcc, rfl⟩
    · rw [hcl] at e1 e2
      have k : ∀ z : Str, ([(("__class__" : Str), cc)] : List (Str × Addr)).lookup z = some c → z = "__class__" := fun z e => by
        unfold List.lookup at e
        split at e
        · next h => exact beq_iff_eq.mp h
        · cases e
      rw [k x e1, k y e2]
    · have ey : y = "__class__" := by
        cases i with
        | zero => exact (Option.some.inj e).symm
        | succ i => cases e
      subst ey
      refine ⟨cc, by rw [hcl]; rfl, fun v hv => ?_⟩
      have ei : i = 0 := by
        cases i with
        | zero => rfl
        | succ i => cases e
      subst ei
      obtain rfl : V.ref C = v := Option.some.inj (Option.some.inj hv)
      exact ⟨.ref C, rfl, _, KX _ _ lkcc, rfl⟩
  subst hfd
  refine ks_codeAny_call_defAt hr.depth (KX _ _ lkf) rfl lim (PySem.W.codeRec_of KX hcd) rfl hbn NS.nocell (fun ⟨n, _⟩ hy => NS.par n (List.of_mem_zip hy).1) (fun h₁ hns kp => ?_) NS.co NS.gen NS.kind
  show _root_.PySem.wpAt _ (ncx CX P w K mg base N F f A outer s H E).A (.func F.body (ncx CX P w K mg base N F f A outer s H E).env) (execs F.body (ncx CX P w K mg base N F f A outer s H E).env) _ (ncx CX P w K mg base N F f A outer s H E).xe _
  have I : Inv (ncx CX P w K mg base N F f A outer s H E) [] (startF N vs [some (.ref C)]) H { s with heap := h₁, toks := s.toks + (ps.zip us).length } := inv_startN NS hr.hd e0 hl r CA hns kp
  obtain ⟨a, vs', rfl, hx⟩ := hself _ _ _ _ hsp
  have hexe : execs F.body (ncx CX P w K mg base N F f A outer s H E).env = execs (.Expr (.Call (.Attribute (.Call (.Name "super" p0) [] [] p1) "__init__" p2) [.Constant (.str txt) j p3] [] pos) pos2 :: rest) (ncx CX P w K mg base N F f A outer s H E).env := by rw [hb]
  rw [hexe]
  refine ks_wpAt_execs_cons (wpAt_to (super_first (Qn := fun H1 => H1 = H) S hcl hp hks (NS.frk _ (List.mem_cons_self ..)) hka NS.kind m_super hN (pa_cons pe_str pa_nil) I rfl hx ⟨by simp, hx, rfl⟩ (hint A outer s H E) (hsw A outer s H E) (hev A outer s H E)) ?_)
  rintro fl s1 ⟨rfl, H1, I1, _, rfl⟩
  obtain ⟨t, ht, hq⟩ := hrest A outer s H1 _ Q E hsp
  refine wpAt_of_wpAny (wpAny_mono (ht.run [] _ _ H1 _ I1 hq) (fun fl s' hs => ?_) fun e s' hs => hs)
  have fin : ∀ {σ' : L2.St} {H' : Hp} {v : V} {u : Value}, Inv (ncx CX P w K mg base N F f A outer s H1 E) [] σ' H' s' → L2.RelV v u → Q v H' → CE outer P w H1 s Q u s' :=
    fun {σ' H' v u} J rv q => ⟨v, H', J.os, J.bare, J.base, J.hok, rv, q⟩
  cases fl with
  | ret u =>
    obtain ⟨v, σ', H', J, rv, q⟩ := hs
    exact fin J rv q
  | next =>
    obtain ⟨σ', H', J, q⟩ := hs
    exact fin (v := V.non) (u := Value.none) J rfl q
  | brk =>
    obtain ⟨_, _, _, q⟩ := hs
    exact False.elim q
  | cont =>
    obtain ⟨_, _, _, q⟩ := hs
    exact False.elim q
end
end Z
set_option Elab.async false
set_option linter.all false
set_option maxRecDepth 100000
set_option maxHeartbeats 4000000
namespace Z
open PySem PySem.Spec PyProof.Rows L2 NdefX
/-! ### class X(..): def __init__(self, v): super().__init__("text"); self.field = v -/
def spEx (C : Addr) (field : Str) : Sp := fun vs H Q _ => ∃ (a : Addr) (v : V), vs = [.ref a, v] ∧ H a = some (exo a C none) ∧ ∀ dx, H dx = none → dx ≠ a → Q .non (upd (upd H dx (exd dx [(field, v)])) a (exo a C (some dx)))
theorem exn_ok {P : Program} {w : World} {K : PySem.W.Frag} {mg : Str → Option Value} {base : Heap} {F : NF} {f C cc : Addr} {pl : Sem Bool} {fd : FuncData} {dV kV doc pm ct : Value} {an : Option Addr} {ar : Arg} {txt v field : Str} {j : Nat} {p0 p1 p2 p3 pos pos2 q1 q2 q3 q4 : Pos} (hfd : fd = PySem.W.fnX F.name F.qual F.params F.body F.scope F.cl dV kV doc pm an (.ref F.c) ct)
    (S : SupK P K C f F.c cc fd) (hcd : PySem.W.codeIn K (.ref F.c) F.qual = true) (NS : NScope ["self", v, "__class__"] ["self", v] ["__class__"] F.scope) (hcl : F.cl = [(("__class__" : Str), cc)]) (hp : (F.params.posonlyargs ++ F.params.args).head? = some ar) (har : ar.arg = "self") (hks : F.scope.names.lookup ("super" : Str) = some .globalImplicit) (m_super : mg "super" = none)
    (hno : PySem.W.findIn K (.ref C) field = some none) (hvd : (v == ("__debug__" : Str)) = false) (hvc : (v == ("__classdict__" : Str)) = false)
    (hb : F.body = [.Expr (.Call (.Attribute (.Call (.Name "super" p0) [] [] p1) "__init__" p2) [.Constant (.str txt) j p3] [] pos) pos2, .Assign [.Attribute (.Name "self" q1) field q2] (.Name v q3) q4])
    (hint : ∀ (A : Around) (outer : List Env) (s : Shared) (H : Hp) (E : XK), interactive (ncx CX0 P w K mg base ["self", v, "__class__"] F f A outer s H E).env = false)
    (hsw : ∀ (A : Around) (outer : List Env) (s : Shared) (H : Hp) (E : XK), swapsWith (.Call (.Attribute (.Call (.Name "super" p0) [] [] p1) "__init__" p2) [.Constant (.str txt) j p3] [] pos) none pos2.line (ncx CX0 P w K mg base ["self", v, "__class__"] F f A outer s H E).env = pure false)
    (hev : ∀ (A : Around) (outer : List Env) (s : Shared) (H : Hp) (E : XK), eval (.Call (.Attribute (.Call (.Name "super" p0) [] [] p1) "__init__" p2) [.Constant (.str txt) j p3] [] pos) (ncx CX0 P w K mg base ["self", v, "__class__"] F f A outer s H E).env = (do
      let ov ← attributeBase (.Call (.Name "super" p0) [] [] p1) "__init__" (ncx CX0 P w K mg base ["self", v, "__class__"] F f A outer s H E).env (eval (.Call (.Name "super" p0) [] [] p1) (ncx CX0 P w K mg base ["self", v, "__class__"] F f A outer s H E).env)
      standAt p2.atName
      let (g, first) ← holding [ov] (getMethod ov "__init__" pl)
      callWith pos g first (backTo pos (starEach [.Constant (.str txt) j p3] (ncx CX0 P w K mg base ["self", v, "__class__"] F f A outer s H E).env)) []))
    (hs2 : ∀ (A : Around) (outer : List Env) (s : Shared) (H : Hp) (E : XK), swapsWith (.Name v q3) (some (.Attribute (.Name "self" q1) field q2)) q4.line (ncx CX0 P w K mg base ["self", v, "__class__"] F f A outer s H E).env = pure false) : FnOk P w K mg base CX0 1 f fd ["self", v] (spEx C field) := by
  refine sup_ok (k := 0) (rest := [.Assign [.Attribute (.Name "self" q1) field q2] (.Name v q3) q4]) hfd S hcd NS hcl hp hks m_super (by rw [har]; rfl) (by rw [har]; exact NS.par _ (List.mem_cons_self ..)) hb (fun vs H Q E h => ?_) (fun vs H Q E h => ?_) hint hsw hev (fun A outer s H vs Q E h => ?_)
  · obtain ⟨a, y, rfl, _⟩ := h
    rfl
  · obtain ⟨a, y, rfl, hx, _⟩ := h
    exact ⟨a, [y], rfl, hx⟩
  · obtain ⟨a, y, rfl, hx, q⟩ := h
    refine ⟨_, pss_one (ps_ost (pe_var (i := 0) rfl (.inl (NS.par _ (List.mem_cons_self ..)))) (pe_var (i := 1) rfl (.inl (NS.par _ (List.mem_cons_of_mem _ (List.mem_cons_self ..)))) hvd hvc) (hs2 A outer s H E)), ?_⟩
    refine ⟨y, rfl, .ref a, rfl, a, C, rfl, S.oex, hno, .inl ⟨hx, fun dx n1 n2 => ?_⟩⟩
    exact q dx n1 n2
/-! ### raise X(e) -/
structure Exn (P : Program) (w : World) (K : PySem.W.Frag) (mg : Str → Option Value) (base : Heap) (x : Str) (C : Addr) (field : Str) : Prop where
  oex : OexC K C
  gl : mg x = some (.ref C)
  ini : ∃ fI fd ps, PySem.W.findIn K (.ref C) "__init__" = some (some (.ref fI)) ∧ PySem.W.typeIn K (.ref fI) = some (.type "function") ∧ FnOk P w K mg base CX0 1 fI fd ps (spEx C field) ∧ Binds K fd ps []
/-! ### C(e): the exception's object has no context -/
section
variable {X : Cx} {x : Str} {C g : Addr} {k : Nat} {fd : FuncData} {ps : List Str} {sp : Sp} {e : Expr} {ta : TA} {p pos : Pos}
/-- the two objects that type.__call__ lays -/
abbrev hp2 (h : Heap) (C : Addr) (us : List Value) : Heap :=
  (h.push (PySem.W.kdv_tup us)).push (PySem.HandSPX.excO C h.objs.size)
theorem hp2_keep {h : Heap} {us : List Value} (b : Addr) (o : Obj) (z : h.get? b = some o) :
    (hp2 h C us).get? b = some o := Heap.get?_push_of_some _ (Heap.get?_push_of_some _ z)
theorem hp2_at {h : Heap} {us : List Value} :
    (hp2 h C us).get? (h.objs.size + 1) = some (PySem.HandSPX.excO C h.objs.size) := by heap_get
theorem inv2 {pins : List (Addr × Obj)} {σ : L2.St} {H : Hp} {h : Heap} {gs : Array GenState} {dr : Drawn} {tk : Nat} {os : OsState} {us : List Value}
    (I : Inv X pins σ H ⟨h, gs, dr, tk, os⟩) :
    Inv X pins σ (upd H (h.objs.size + 1) (exo (h.objs.size + 1) C none)) ⟨hp2 h C us, gs, dr, tk, os⟩ :=
  I.laid (t' := tk) (a := h.objs.size + 1) (o := exo (h.objs.size + 1) C none) (h' := hp2 h C us)
    hp2_keep (Nat.le_succ _) (exo_ok hp2_at)
theorem pmkN (T : OexC X.K C)
    (iC : PySem.W.findIn X.K (.ref C) "__init__" = some (some (.ref g)))
    (tI : PySem.W.typeIn X.K (.ref g) = some (.type "function"))
    (F : FnOk X.prog X.w X.K X.mg X.base CX0 k g fd ps sp) (hr : Room (k + 1) X.A) (hb : Binds X.K fd ps [])
    (hg : Gl X x) (hm : X.mg x = some (.ref C)) (ha : PA X [e] ta)
    (hdb : (x == ("__debug__" : Str)) = false := by decide)
    (he : starEach [e] X.env = (false, eval e X.env) :: starEach [] X.env := by rfl)
    (hpl : (backTo pos (starEach [] X.env)).any (·.1) = false := by rfl) :
    L2N.PMk X (.Call (.Name x p) [e] [] pos) (tMkO C sp [] ta) := by
  intro pins s σ H Q I h
  obtain ⟨_, _, _, _, vm, _, _, _, _, _, _, _, _, _, _, atC, inM⟩ := T.cls
  refine wpAny_Call_Name_kw (ld_glob I hg hm ?_ hdb)
  refine PySem.W.callWith_K (h₀ := X.base) I.ok.mod.kin T.kC ?_ he hpl
  refine thn (ha.run pos pins s σ H _ I h) fun us s1 hh => ?_
  obtain ⟨vs, H1, J, r, few, q⟩ := hh
  refine ⟨J.kIn, ?_⟩
  obtain ⟨hp, gs, dr, tk, os⟩ := s1
  have q := q (hp.objs.size + 1) (J.hok.fresh (Nat.le_succ _))
  rw [List.append_nil] at q
  have J2 := inv2 (C := C) (us := us) J
  have r2 : Vals (V.ref (hp.objs.size + 1) :: vs) (Value.ref (hp.objs.size + 1) :: us) := .cons rfl r
  have len2 : (Value.ref (hp.objs.size + 1) :: us ++ []).length = ps.length := by
    rw [List.append_nil, ← r2.length]
    exact F.len _ _ _ _ q
  have b2 := hb _ (Value.ref (hp.objs.size + 1) :: us) J2.kIn len2
  rw [List.append_nil] at b2
  have few2 : us.length ≤ sizeLine := by
    have := Paired.length r
    rw [sizeLine_eq]
    omega
  have run := F.run _ X.stack _ _ _ _ _ _ _ (hr.make C us []) (J2.env0.make C us []) b2 r2 q
  refine wpAny_call (PySem.HandSPX.call_own PySem.F.excBase_ValueError (fun Y => PySem.HandSPX.refsVE_contains Y vm inM)
    (J.kIn _ _ atC) (PySem.W.looks_findIn J.kIn iC) (fun self => PySem.W.bind_fn J.kIn self tI) few2
    (codeAny_mono run fun res s' z => ?_))
  match res, z with
  | .error er, z => exact z.elim
  | .ok (.ret u), z =>
    obtain ⟨v, H2, eo, bare, un, ok2, rv, ev, d, fs, ea, ed, nd, q2⟩ := z
    subst ev
    obtain ⟨h2, g2, d2, t2, os'⟩ := s'
    obtain ⟨t0, G, J3, kG, ge, hoe, na⟩ := mk_end0 (d2 := d2) (t2 := t2) J (Nat.le_succ _) hp2_keep un ok2 eo bare ea ed nd
    refine ⟨rv, hp.objs.size + 1, _, _, ⟨G, g2, d2, t2, os'⟩, _, .ref C, some d, rfl, J3, kG, ge, hoe, ⟨rfl, rfl, fun ws ew => ?_⟩, rfl, rfl, na, rfl, bare, raises_own T.exC T.tyC, q2⟩
    cases ew
    rfl
end
section
variable {X : Cx} {x field : Str} {C : Addr} {j : Nat} {e : Expr} {ta : TA} {p pos pos2 : Pos} {W : WX}
theorem pmk_exn (c : Exn X.prog X.w X.K X.mg X.base x C field) (hr : Room j X.A) (hk : 2 ≤ j) (hg : Gl X x) (ha : PA X [e] ta) (hdb : (x == ("__debug__" : Str)) = false := by decide) (he : starEach [e] X.env = (false, eval e X.env) :: starEach [] X.env := by rfl) (hpl : (backTo pos (starEach [] X.env)).any (·.1) = false := by rfl) :
    L2N.PMk X (.Call (.Name x p) [e] [] pos) (tMkO C (spEx C field) [] ta) := by
  obtain ⟨fI, fd, ps, iC, tI, F1, b⟩ := c.ini
  exact pmkN (X := X) (pos := pos) (p := p) c.oex iC tI F1 (hr.mono hk) b hg c.gl ha hdb he hpl
/-- raise X(e) -/
theorem ps_exn (hc : X.calm = true) (tk : L2N.Takes X W) (c : Exn X.prog X.w X.K X.mg X.base x C field) (hr : Room j X.A) (hk : 2 ≤ j) (hg : Gl X x) (ha : PA X [e] ta) (hdb : (x == ("__debug__" : Str)) = false := by decide) (he : starEach [e] X.env = (false, eval e X.env) :: starEach [] X.env := by rfl) (hpl : (backTo pos (starEach [] X.env)).any (·.1) = false := by rfl) :
    PS X (.Raise (some (.Call (.Name x p) [e] [] pos)) none pos2) (fun _ σ H => tMkO C (spEx C field) [] ta σ H fun cls d H' => W cls d σ H') := L2N.ps_raise hc tk (pmk_exn c hr hk hg ha hdb he hpl)
end
/-- what is left to show of X(v) -/
theorem mkx_of {C : Addr} {field : Str} {v : V} {H1 : Hp} {Q : XK} (q : ∀ d, H1 d = none → Q (.ref C) (some d) (upd H1 d (.xd [(field, v)]))) :
    [v].length ≤ 1000 ∧ ∀ a, H1 a = none → spEx C field (.ref a :: ([v] ++ [])) (upd H1 a (exo a C none)) (fun v H2 => v = .non ∧ ∃ (d : Addr) (fs : List (Str × V)), H2 a = some (exo a C (some d)) ∧ H2 d = some (exd d fs) ∧ H1 d = none ∧ Q (.ref C) (some d) (upd (del H2 a) d (.xd fs))) (fun _ _ _ => False) := by
  refine ⟨by simp, fun a na => ⟨a, v, rfl, upd_same, fun dx n1 n2 => ⟨rfl, dx, [(field, v)], upd_same, ?_, ?_, ?_⟩⟩⟩
  · rw [upd_ne n2, upd_same]
  · rw [← n1, upd_ne n2]
  · have n3 : H1 dx = none := by rw [← n1, upd_ne n2]
    have e1 : upd (del (upd (upd (upd H1 a (exo a C none)) dx (exd dx [(field, v)])) a (exo a C (some dx))) a) dx (.xd [(field, v)]) = upd H1 dx (.xd [(field, v)]) := by
      funext b
      by_cases hb : b = dx
      · rw [hb, upd_same, upd_same]
      · rw [upd_ne hb, upd_ne hb]
        by_cases ha2 : b = a
        · rw [ha2, del_same, na]
        · rw [del_ne ha2, upd_ne ha2, upd_ne hb, upd_ne ha2]
    rw [e1]
    exact q dx n3
/-! ### calls that may raise -/
structure CalX (P : Program) (w : World) (K : PySem.W.Frag) (mg : Str → Option Value) (base : Heap) (k : Nat) (x : Str) (sp : Sp) : Prop where
  ex : ∃ (f : Addr) (fd : FuncData) (ps : List Str), FnOk P w K mg base (L2N.CX P w) k f fd ps sp ∧ mg x = some (.ref f) ∧ PySem.W.keepIn K (.ref f) = true ∧ Binds K fd ps []
structure MakX (P : Program) (w : World) (K : PySem.W.Frag) (mg : Str → Option Value) (base : Heap) (k : Nat) (x : Str) (C : Addr) (sp : Sp) : Prop where
  ex : ∃ (f : Addr) (fd : FuncData) (ps : List Str), Mk K C f ∧ FnOk P w K mg base (L2N.CX P w) k f fd ps sp ∧ mg x = some (.ref C) ∧ Binds K fd ps []
structure MetX (P : Program) (w : World) (K : PySem.W.Frag) (mg : Str → Option Value) (base : Heap) (k : Nat) (C : Addr) (m : Str) (sp : Sp) : Prop where
  ex : ∃ (f : Addr) (fd : FuncData) (ps : List Str), Cls K C ∧ Meth K C m f ∧ FnOk P w K mg base (L2N.CX P w) k f fd ps sp ∧ Binds K fd ps []
structure CobX (P : Program) (w : World) (K : PySem.W.Frag) (mg : Str → Option Value) (base : Heap) (k : Nat) (C : Addr) (sp : Sp) : Prop where
  ex : ∃ (g : Addr) (fd : FuncData) (ps : List Str), StX.CallO K C g ∧ FnOk P w K mg base (L2N.CX P w) k g fd ps sp ∧ Binds K fd ps []
/-- C(e, ..) by its __init__'s promise; what is raised at the slots -/
def tMkW (C : Addr) (sp : Sp) (E : L2.St → XK) (t : TA) : TE := fun σ H Q => t σ H fun vs H1 => ∀ n dx, H1 n = none → H1 dx = none → dx ≠ n → sp (.ref n :: vs) (upd (upd H1 dx (.own n)) n (.ins C dx [])) (fun v H2 => v = .non ∧ Q (.ref n) H2) (E σ)
def tCoW (C : Addr) (sp : Sp) (E : L2.St → XK) (tf : TE) (t : TA) : TE := fun σ H Q => tf σ H fun y H1 => ∃ a, y = V.ref a ∧ t σ H1 fun vs H2 => (∃ dx fs, H2 a = some (.ins C dx fs)) ∧ sp (V.ref a :: vs) H2 Q (E σ)
def tMeW (C : Addr) (m : Str) (sp : Sp) (E : L2.St → XK) (ta : TE) (t : TA) : TE := fun σ H Q => ta σ H fun x H1 => ∃ a dx fs, x = V.ref a ∧ H1 a = some (.ins C dx fs) ∧ List.lookup m fs = none ∧ t σ H1 fun vs H2 => sp (x :: vs) H2 Q (E σ)
section
variable {X : Cx} {k j : Nat} {x m : Str} {sp : Sp} {C : Addr} {p pos apos : Pos} {e o fe : Expr} {es : List Expr} {t : TA} {ta tf : TE} {W : WX} {E : L2.St → XK}
theorem passS0 {σ : L2.St} : PassesAt (L2N.CX X.prog X.w) X σ E0 := fun _ _ _ _ _ _ h => by
  obtain ⟨_, _, _, _, _, _, _, _, _, _, _, _, z⟩ := h
  exact z.elim
/-- any result of a promise, at the slots -/
theorem back_at {σ : L2.St} {H : Hp} {s : Shared} {pins : List (Addr × Obj)} {Q : VK} {E : XK} {CX : CXT} (hx : PassesAt CX X σ E) (I : Inv X pins σ H s) : ∀ (r : Result) (s' : Shared), CR CX X.stack X.prog X.w H s Q E r s' → match r with
    | .ok (.ret v) => EP X pins σ Q v s'
    | .ok _ => False
    | .error e => X.xe e s'
  | .error e, s', h => hx pins H s e s' I h
  | .ok (.ret u), s', h => I.after h
  | .ok .next, s', h => h
  | .ok .brk, s', h => h
  | .ok .cont, s', h => h
theorem pe_clE (c : CalX X.prog X.w X.K X.mg X.base k x sp) (hx : ∀ σ, PassesAt (L2N.CX X.prog X.w) X σ (E σ)) (hr : Room j X.A) (hk : k ≤ j) (hg : Gl X x) (ha : PA X (e :: es) t) (hdb : (x == ("__debug__" : Str)) = false := by decide) (he : starEach (e :: es) X.env = (false, eval e X.env) :: starEach es X.env := by rfl) (hpl : (backTo pos (starEach es X.env)).any (·.1) = false := by rfl) :
    PE X (.Call (.Name x p) (e :: es) [] pos) (tCallS sp E t) := by
  obtain ⟨f, fd, ps, F, hm, kp, b⟩ := c.ex
  exact pe_callS F (hr.mono hk) hg hm kp b hx ha hdb he hpl
theorem pe_mkE (c : MakX X.prog X.w X.K X.mg X.base k x C sp) (hx : ∀ σ, PassesAt (L2N.CX X.prog X.w) X σ (E σ)) (hr : Room j X.A) (hk : k + 1 ≤ j) (hg : Gl X x) (ha : PA X (e :: es) t) (hdb : (x == ("__debug__" : Str)) = false := by decide) (he : starEach (e :: es) X.env = (false, eval e X.env) :: starEach es X.env := by rfl) (hpl : (backTo pos (starEach es X.env)).any (·.1) = false := by rfl) :
    PE X (.Call (.Name x p) (e :: es) [] pos) (tMkW C sp E t) := by
  obtain ⟨f, fd, ps, M, F, hm, b⟩ := c.ex
  constructor
  intro pins s σ H Q I h
  refine wpAny_Call_Name_kw (ld_glob I hg hm ?_ hdb)
  refine PySem.W.callWith_K (h₀ := X.base) I.ok.mod.kin M.kp (thn (ha.run pos pins s σ H _ I h) fun us s1 z => ?_) he hpl
  obtain ⟨vs, H1, I1, rr, q⟩ := z
  refine ⟨I1.kIn, ?_⟩
  obtain ⟨n, hn⟩ : ∃ n, n = s1.heap.objs.size := ⟨_, rfl⟩
  have q1 := q (n + 1) n (I1.hok.fresh (by rw [hn]; exact Nat.le_succ _)) (I1.hok.fresh (by rw [hn]; exact Nat.le_refl _)) (Nat.ne_of_lt (Nat.lt_succ_self _))
  subst hn
  have J := Inv.made (C := C) I1
  have r3 : Vals (V.ref (s1.heap.objs.size + 1) :: vs) (Value.ref (s1.heap.objs.size + 1) :: us) := .cons rfl rr
  have b3 := b { s1 with heap := (s1.heap.push PySem.W.emptyDict).push (PySem.W.instObj C s1.heap.objs.size) } (Value.ref (s1.heap.objs.size + 1) :: us) J.kIn (by rw [List.append_nil, ← r3.length]; exact F.len _ _ _ _ q1)
  rw [List.append_nil] at b3
  have run := F.run _ X.stack _ _ _ _ _ _ _ ((hr.mono hk).make C us []) (J.env0.make C us []) b3 r3 q1
  refine wpAny_call (make_map (f := f) I1.kIn M.makes M.init (beq_iff_eq.mp M.fn) (codeAny_mono run fun r s' hq => ?_))
  have z := back_at (hx σ) J r s' hq
  match r, z with
  | .error e, z => exact z
  | .ok (.ret u), ⟨v, H', J', rv, ev, q3⟩ =>
    subst ev
    exact ⟨rv, V.ref (s1.heap.objs.size + 1), H', J', rfl, q3⟩
theorem run_atE {f : Addr} {fd : FuncData} {ps : List Str} {σ : L2.St} {H : Hp} {s : Shared} {pins : List (Addr × Obj)} {Q : VK} {us : List Value} {vs : List V} (F : FnOk X.prog X.w X.K X.mg X.base (L2N.CX X.prog X.w) k f fd ps sp) (b : Binds X.K fd ps []) (hx : PassesAt (L2N.CX X.prog X.w) X σ (E σ)) (hr : Room k X.A) (I : Inv X pins σ H s) (r : Vals vs us) (h : sp vs H Q (E σ)) :
    codeAny (model X.prog X.w) X.A (.call (.ref f) ⟨us, []⟩) (fun r s' => match r with | .ok (.ret v) => EP X pins σ Q v s' | .ok _ => False | .error e => X.xe e s') s := by
  have b3 := b s us I.kIn (by rw [List.append_nil, ← r.length]; exact F.len _ _ _ _ h)
  rw [List.append_nil] at b3
  exact codeAny_mono (F.run _ X.stack _ _ _ _ _ _ _ hr I.env0 b3 r h) (back_at hx I)
theorem pe_coE (c : CobX X.prog X.w X.K X.mg X.base k C sp) (hf : PE X fe tf) (hx : ∀ σ, PassesAt (L2N.CX X.prog X.w) X σ (E σ)) (hr : Room j X.A) (hk : k ≤ j) (ha : PA X (e :: es) t)
    (ht : eval (.Call fe (e :: es) [] pos) X.env = (do callWith pos (← eval fe X.env) [] (backTo pos (starEach (e :: es) X.env)) (backToKw pos (keywordEach [] X.env))) := by rfl)
    (he : starEach (e :: es) X.env = (false, eval e X.env) :: starEach es X.env := by rfl) (hpl : (backTo pos (starEach es X.env)).any (·.1) = false := by rfl) : PE X (.Call fe (e :: es) [] pos) (tCoW C sp E tf t) := by
  obtain ⟨g, fd, ps, co, F, b⟩ := c.ex
  constructor
  intro pins s σ H Q I h
  refine Call_ (thn (hf.run pins s σ H _ I h) fun u s1 ⟨y, H1, I1, ry, a, ey, q⟩ => ?_) ht
  subst ey
  obtain rfl : u = Value.ref a := ry
  refine StX.callO_with (thn (ha.run pos pins s1 σ H1 _ I1 q) fun us s2 z => ?_) he hpl
  obtain ⟨vs, H2, I2, r, hi, q2⟩ := z
  have hi2 : StX.InsC X H2 a C := .inr hi
  obtain ⟨ox, od, J, hd⟩ := StX.insC_at I2 hi2
  exact ⟨⟨C, ox, od, J, hd⟩, wpAny_call (PySem.W.kco_code I2.kIn J hd co.at_ co.fn co.fi (run_atE (vs := .ref a :: vs) (us := .ref a :: us) F b (hx σ) (hr.mono hk) I2 (.cons rfl r) q2))⟩
theorem pe_meE {pl : Sem Bool} (c : MetX X.prog X.w X.K X.mg X.base k C m sp) (ho : PE X o ta) (hx : ∀ σ, PassesAt (L2N.CX X.prog X.w) X σ (E σ)) (hr : Room j X.A) (hk : k ≤ j) (ha : PA X (e :: es) t)
    (hst : starEach (e :: es) X.env = (false, eval e X.env) :: starEach es X.env := by rfl) (hpl : (backTo pos (starEach es X.env)).any (·.1) = false := by rfl)
    (ht : eval (.Call (.Attribute o m apos) (e :: es) [] pos) X.env = (do
      let ov ← eval o X.env
      standAt apos.atName
      let (g, first) ← holding [ov] (getMethod ov m pl)
      callWith pos g first (backTo pos (starEach (e :: es) X.env)) (backToKw pos (keywordEach [] X.env))) := by rfl) : PE X (.Call (.Attribute o m apos) (e :: es) [] pos) (tMeW C m sp E ta t) := by
  obtain ⟨f, fd, ps, cl, me, F, b⟩ := c.ex
  constructor
  intro pins s σ H Q I h
  refine PySem.W.methodCall_KW (pl := pl) (thn (ho.run pins s σ H _ I h) fun u s1 z => ?_) ht
  obtain ⟨y, H1, I1, ry, a, dx, fs, ey, ea, l, q⟩ := z
  subst ey
  obtain rfl : u = Value.ref a := ry
  refine getmeth_ok I1 ea cl me l ?_
  refine PySem.W.callWith_K (first := [.ref a]) (h₀ := X.base) I.ok.mod.kin me.kp (thn (ha.run pos pins s1 σ H1 _ I1 q) fun us s2 z => ?_) hst hpl
  obtain ⟨vs, H2, I2, r, q2⟩ := z
  exact ⟨I2.kIn, wpAny_call (run_atE (vs := .ref a :: vs) (us := .ref a :: us) F b (hx σ) (hr.mono hk) I2 (.cons rfl r) q2)⟩
theorem takes_fn {P : Program} {w : World} {K : PySem.W.Frag} {mg : Str → Option Value} {base : Heap} {N : List Str} {qual : Str} {scope : Scope} {f : Addr} {cd : Value} {A : Around} {outer : List Env} {s : Shared} {H : Hp} {E : XK} : L2N.Takes (cxOf (L2N.CX P w) P w K mg base N qual scope f cd A outer s H E) (fun cls d _ H' => E cls d H') := L2N.takes_of rfl rfl rfl rfl
end
end Z
set_option Elab.async false
set_option linter.all false
set_option maxRecDepth 100000
set_option maxHeartbeats 4000000
namespace Z
open PySem PySem.Spec PyProof.Rows L2 L2H
/-! ### calls within an except suite -/
section
variable {P : Program} {w : World} {K : PySem.W.Frag} {mg : Str → Option Value} {base : Heap} {x qual : Str} {params : Arguments} {body : List Stmt} {scope : Scope} {dvs : List V} {kws : List (Str × V)} {f : Addr} {fd : FuncData}
theorem fund_okH {N ps : List Str} {k : Nat} {sp : Sp} (F : FunD K x qual params body scope dvs kws f fd) (S : FnScope N ps scope) (len : ∀ vs H Q E, sp vs H Q E → vs.length = ps.length)
    (hbody : ∀ (cdv : Value) (A : Around) (outer : List Env) (s : Shared) (H : Hp) (vs : List V) (Q : VK) (E : XK) (p : Addr × Obj), Hot1 A p → RoomH k (A.deeper (envOfC qual scope s.heap.objs.size f cdv)) → sp vs H Q E →
      ∃ t, PSs (cxH CX0 P w K mg base N qual scope f cdv A outer s H E p) body t ∧ t { nx := fun _ H' => Q .non H', rt := Q } (L2.start N vs) H) : FnH P w K mg base CX0 (k + 1) f fd ps sp := by
  obtain ⟨oc, od, dV, kV, doc, pm, an, cdv, ct, osl, rfl, lk, hcd, _, _⟩ := F.ex
  exact fn_ofH lk hcd S len (hbody cdv)
structure CalH (P : Program) (w : World) (K : PySem.W.Frag) (mg : Str → Option Value) (base : Heap) (k : Nat) (x : Str) (sp : Sp) : Prop where
  ex : ∃ (f : Addr) (fd : FuncData) (ps : List Str), FnH P w K mg base CX0 k f fd ps sp ∧ mg x = some (.ref f) ∧ PySem.W.keepIn K (.ref f) = true ∧ Binds K fd ps []
end
section
variable {X : Cx} {k j : Nat} {x : Str} {sp : Sp} {p pos : Pos} {e : Expr} {es : List Expr} {t : TA}
theorem pe_clH (c : CalH X.prog X.w X.K X.mg X.base k x sp) (hr : RoomH j X.A) (hk : k ≤ j) (hc : HotC X) (hg : Gl X x) (ha : PA X (e :: es) t) (hdb : (x == ("__debug__" : Str)) = false := by decide) (he : starEach (e :: es) X.env = (false, eval e X.env) :: starEach es X.env := by rfl) (hpl : (backTo pos (starEach es X.env)).any (·.1) = false := by rfl) :
    PE X (.Call (.Name x p) (e :: es) [] pos) (tCallS sp (fun _ => E0) t) := by
  obtain ⟨f, fd, ps, F, hm, kp, b⟩ := c.ex
  exact pe_callH F (hr.mono hk) hc hg hm kp b (fun σ _ _ _ _ _ _ h => h.elim) ha hdb he hpl
theorem hotC_suite {a : Addr} {cls : Value} {d : Option Addr} {oe : Obj} {pn : List (Addr × Obj)} (hz : L2N.Zn cls d oe) (hf : ∃ vs, oe.data = .fields vs) : HotC (X.suite a ((a, oe) :: pn)) := by
  obtain ⟨vs, e⟩ := hf
  exact ⟨(a, oe), ⟨rfl, vs, e, hz.2.2 vs e⟩, List.mem_cons_self⟩
theorem room_mark {v : Option Value} {A : Around} (r : Room j A) : RoomH j (A.mark v) := roomH_mark r v
theorem takes0N : L2N.Takes X (fun _ _ _ _ => False) := fun _ _ x => by
  obtain ⟨_, _, _, _, _, _, _, _, _, _, _, _, _, _, _, _, z⟩ := x
  exact z.elim
end
theorem hotC_fn {P : Program} {w : World} {K : PySem.W.Frag} {mg : Str → Option Value} {base : Heap} {CX : CXT} {N : List Str} {qual : Str} {scope : Scope} {f : Addr} {cd : Value} {A : Around} {outer : List Env} {s : Shared} {H : Hp} {E : XK} {p : Addr × Obj} (h : Hot1 A p) : HotC (cxH CX P w K mg base N qual scope f cd A outer s H E p) :=
  ⟨p, ⟨h.1, h.2⟩, List.mem_cons_self⟩
end Z
set_option Elab.async false
set_option linter.all false
set_option maxRecDepth 100000
set_option maxHeartbeats 4000000
namespace Z
open PySem PySem.Spec PyProof.Rows L2 NdefX
/-! ### what the head tells of such a class -/
def oexB (K : PySem.W.Frag) (C : Addr) : Bool := (match K.lookup C with
  | some ⟨.type t, _, .cls cd, sl⟩ => (match cd.mro, sl.toList with
    | .ref D :: bm, [_, _, _, _, some (.builtin n), _] => decide (t = "type") && (decide (D = C) && (decide (n = "ValueError.__new__") && (!cd.hasDel && (cd.hasDict && PySem.HandSPX.refsVE bm))))
    | _, _ => false)
  | _ => false) && (He.eqO (PySem.W.findIn K (.ref C) "__setattr__") (some (some (.builtin "object.__setattr__"))) && (decide (PySem.W.subIn K (.ref C) (.type "BaseException") = some true) && (decide (PySem.W.typeIn K (.ref C) = some (.type "type")) && PySem.W.keepIn K (.ref C))))
theorem oexB_ok {K : PySem.W.Frag} {C : Addr} (h : oexB K C = true) : OexC K C := by
  obtain ⟨h0, h⟩ := He.ba h
  obtain ⟨h1, h⟩ := He.ba h
  obtain ⟨h2, h⟩ := He.ba h
  obtain ⟨h3, h4⟩ := He.ba h
  refine ⟨?_, He.eqO_ok h1, of_decide_eq_true h2, of_decide_eq_true h3, h4⟩
  split at h0
  · next t dd cd sl lk =>
    split at h0
    · next D bm a0 a1 a2 a3 n a5 em es =>
      obtain ⟨g1, h0⟩ := He.ba h0
      obtain ⟨g2, h0⟩ := He.ba h0
      obtain ⟨g3, h0⟩ := He.ba h0
      obtain ⟨g4, h0⟩ := He.ba h0
      obtain ⟨g5, g6⟩ := He.ba h0
      have g1 := of_decide_eq_true g1
      have g2 := of_decide_eq_true g2
      have g3 := of_decide_eq_true g3
      subst g1 g2 g3
      obtain ⟨c1, c2, c3, c4, c5, c6, c7, c8, c9, c10, c11⟩ := cd
      have k3 : c3 = .ref D :: bm := em
      have k4 : c11 = false := by
        have z : (!c11) = true := g4
        cases c11
        · rfl
        · cases z
      have k5 : c6 = true := g5
      clear em g4 g5
      subst k3 k4 k5
      refine ⟨c1, c5, c4, c2, bm, c7, c8, c9, c10, dd, a0, a1, a2, a3, a5, ?_, g6⟩
      rw [lk]
      have : sl = #[a0, a1, a2, a3, some (.builtin "ValueError.__new__"), a5] := by
        apply Array.toList_inj.mp
        rw [es]
      rw [this]
    · cases h0
  · cases h0
def initFd (K : PySem.W.Frag) (C : Addr) : Option FuncData := match K.lookup (He.ma K C "__init__") with
  | some ⟨_, _, .func fd, _⟩ => some fd
  | _ => none
abbrev SupV : Type := Option (Str × Str × Arguments × FuncBody × Scope × Addr × List Str × Value × Addr)
def supObs (K : PySem.W.Frag) (x : Str) : SupV := (initFd K (He.ga K x)).map fun fd => (fd.name, fd.qualname, fd.params, fd.body, fd.scope, fd.globals, fd.closure.map (·.1), fd.defaults, fd.builtins)
def supVal (q : Str) (st : Stmt) : SupV := some ("__init__", q, defArgs st, .stmts (defBody st), defScope st, mainGlobals, ["__class__"], .none, builtinsNs)
def supB (fl : Str) (K : PySem.W.Frag) (C : Addr) (q : Str) : Bool := (match initFd K C with
  | some fd => (match fd.code, fd.closure with
    | .ref c, [(_, cc)] => PySem.W.codeIn K (.ref c) q && ((match K.lookup c with
      | some ⟨_, _, .fields vs, _⟩ => (match (vs[2]? : Option Value) with
        | some (.str file _) => fl == file
        | _ => false)
      | _ => false) && (match K.lookup cc with
      | some ⟨_, _, .cell (some (.ref D)), _⟩ => decide (D = C)
      | _ => false))
    | _, _ => false)
  | none => false) && (decide (PySem.W.mroIn K C (.ref C) = some true) && (He.eqO (PySem.W.nsIn K cStatics "thirdparty.any") (some none) && (He.eqO (PySem.W.ks_superIn K C C "__init__") (some (some (.builtin "ValueError.__init__"))) && (decide (PySem.W.subIn K (.ref C) (.type "ValueError") = some true) && (PySem.W.excInitIn K C He.veBase "ValueError.__new__" && oexB K C)))))
theorem sup_of {P : Program} {K : PySem.W.Frag} {x q fl : Str} {st : Stmt} (h1 : supObs K x = supVal q st) (h2 : supB fl K (He.ga K x) q = true) (hfl : ((P.main.file : Str) == fl) = true) (htop : (P.main.scope.names.lookup ("super" : Str)).isSome = false) :
    ∃ (c cc : Addr) (fd : FuncData) (kV doc pm ct : Value) (an : Option Addr), fd = PySem.W.fnX "__init__" q (defArgs st) (defBody st) (defScope st) [(("__class__" : Str), cc)] .none kV doc pm an (.ref c) ct ∧ SupK P K (He.ga K x) (He.ma K (He.ga K x) "__init__") c cc fd ∧ PySem.W.codeIn K (.ref c) q = true := by
  obtain ⟨g0, h2⟩ := He.ba h2
  obtain ⟨g1, h2⟩ := He.ba h2
  obtain ⟨g2, h2⟩ := He.ba h2
  obtain ⟨g3, h2⟩ := He.ba h2
  obtain ⟨g4, h2⟩ := He.ba h2
  obtain ⟨g5, g6⟩ := He.ba h2
  unfold supObs at h1
  cases e : initFd K (He.ga K x) with
  | none =>
    rw [e] at h1
    cases h1
  | some fd =>
    rw [e] at h1 g0
    have lk : ∃ oc od osl, K.lookup (He.ma K (He.ga K x) "__init__") = some ⟨oc, od, .func fd, osl⟩ := by
      unfold initFd at e
      split at e
      · next oc od fd' osl l =>
        cases e
        exact ⟨_, _, _, l⟩
      · cases e
    obtain ⟨n1, n2, n3, n4, n5, n6, n7, n8, n9, n10, n11, n12, n13, n14, n15⟩ := fd
    have h1 : (some (n1, n2, n3, n4, n5, n6, n7.map (·.1), n8, n15) : SupV) = supVal q st := h1
    unfold supVal at h1
    simp only [Option.some.injEq, Prod.mk.injEq] at h1
    obtain ⟨a1, a2, a3, a4, a5, a6, a7, a8, a9⟩ := h1
    subst a1 a2 a3 a4 a5 a6 a8 a9
    dsimp only at g0
    split at g0
    · next c y cc =>
      obtain ⟨b1, g0⟩ := He.ba g0
      obtain ⟨b2, b3⟩ := He.ba g0
      have ey : y = "__class__" := by
        have := a7
        simpa using this
      subst ey
      refine ⟨c, cc, _, _, _, _, _, _, rfl, ⟨lk, ?_, ?_, htop, of_decide_eq_true g1, He.eqO_ok g2, He.eqO_ok g3, of_decide_eq_true g4, g5, oexB_ok g6⟩, b1⟩
      · split at b2
        · next u1 u2 vs u3 l =>
          split at b2
          · next file tf ev =>
            refine ⟨_, _, vs, _, file, tf, l, ev, ?_⟩
            rw [beq_iff_eq.mp b2] at hfl
            exact hfl
          · cases b2
        · cases b2
      · split at b3
        · next u1 u2 D u3 l =>
          have := of_decide_eq_true b3
          subst this
          exact ⟨_, _, _, l⟩
        · cases b3
    · cases g0
end Z
set_option Elab.async false
set_option linter.all false
set_option maxRecDepth 100000
set_option maxHeartbeats 4000000
namespace Z
open PySem PySem.Spec PyProof.Rows L2 NdefX
/-! ### isinstance(e, c), e a caught error with a dict of its own -/
def rIsX (K : PySem.W.Frag) (a : Addr) (cls : Value) (d : Option Addr) : List V → Hp → VK → Prop := fun xs H Q => ∃ (D dd : Addr) (fs : List (Str × V)) (c : V) (cv : Value) (b : Bool), cls = .ref D ∧ d = some dd ∧ ExcC K D ∧ H dd = some (.xd fs) ∧ xs = [.ref a, c] ∧ (∀ u, RelV c u → u = cv) ∧ PySem.W.kitOne K (.ref D) cv = some b ∧ Q (.bl b) H
theorem call_isX {X : Cx} {a : Addr} {cls : Value} {d : Option Addr} {oe : Obj} {pn : List (Addr × Obj)} (hz : Zc cls d oe) (hf : ∃ vs, oe.data = .fields vs) : CallR (X.suite a ((a, oe) :: pn)) (.builtin "isinstance") (rIsX X.K a cls d) := by
  intro pins s σ H xs us Q I r h
  obtain ⟨D, dd, fs, c, cv, b, rfl, rfl, C, ed, rfl, hcv, e, q⟩ := h
  obtain ⟨u1, u2, rfl, r1, r2⟩ := vals2 r
  cases r1
  have ec := hcv _ r2
  subst ec
  obtain ⟨hget, _⟩ := I.pin (a, oe) (List.mem_append.mpr (.inl List.mem_cons_self))
  obtain ⟨vs, hv⟩ := hf
  have hx : ObjOk X.prog X.w H s.heap dd (.xd fs) := I.hok dd _ ed
  obtain ⟨mA, hns, hr⟩ := hx
  obtain ⟨od, ho, hl⟩ := lookIn_ns hns
  have J : PySem.W.InstAt s.heap a oe D (some od) := ⟨hget, hz.1, by unfold PySem.W.notCls; rw [hv] <;> rfl, by rw [hz.2]; exact ho⟩
  have hcl : (PySem.W.clsIn X.K D).isSome = true := by
    obtain ⟨cd, hc, _⟩ := PySem.W.any_some C.hd
    rw [hc]
    rfl
  exact PySem.W.kia_one (PySem.W.kitx_exc hcl C.hg C.hk C.hs C.ha C.hn C.ht C.hm) I.kIn J e (fun z => nomatch z) fun tk => ⟨.bl b, H, I.kept (t' := tk) fun _ _ z => z, rfl, q⟩
end Z
set_option Elab.async false
set_option linter.all false
set_option maxRecDepth 100000
set_option maxHeartbeats 4000000
namespace Z
open PySem PySem.Spec PyProof.Rows L2 NdefX
/-! ### the head with own exceptions: facts of defs and classes, one more Bool, the __init__s -/
def asX (g : Addr → Option Obj) (n : Nat) : List Addr := He.asD g n ++ [cStatics]
def hookX (n : Nat) (fa : List He.Fa) (fn : List He.DefD) (xs : List Str) (vs : List SupV) (ex : PySem.W.Frag → Bool) : PySem.W.Hook where
  α := He.AlD × (List SupV × Bool)
  obs := fun s => (He.obsD fa fn (He.frG s.heap.get? (asX s.heap.get? n)), xs.map (supObs (He.frG s.heap.get? (asX s.heap.get? n))), ex (He.frG s.heap.get? (asX s.heap.get? n)))
  val := fun _ => (He.valD fn, vs, true)
  says := fun _ h => ∃ K : PySem.W.Frag, K.In h ∧ He.SaysD fa fn K ∧ xs.map (supObs K) = vs ∧ ex K = true
  of := fun _ _ e => ⟨_, He.frG_in, congrArg (fun z : He.AlD × (List SupV × Bool) => z.1) e, congrArg (fun z : He.AlD × (List SupV × Bool) => z.2.1) e, congrArg (fun z : He.AlD × (List SupV × Bool) => z.2.2) e⟩
  keeps := fun _ _ _ ⟨K, hK, c⟩ k => ⟨K, PySem.W.Frag.In.keeps hK k, c⟩
def obX (n : Nat) (fa : List He.Fa) (fn : List He.DefD) (xs : List Str) (ex : PySem.W.Frag → Bool) (g : Addr → Option Obj) : He.AlD × (List SupV × Bool) := (He.obsD fa fn (He.frG g (asX g n)), xs.map (supObs (He.frG g (asX g n))), ex (He.frG g (asX g n)))
theorem obX_eq {n : Nat} {fa : List He.Fa} {fn : List He.DefD} {xs : List Str} {vs : List SupV} {ex : PySem.W.Frag → Bool} {g : Addr → Option Obj} {s : Shared} (h : ∀ a, g a = s.heap.get? a) : obX n fa fn xs ex g = (hookX n fa fn xs vs ex).obs s := by
  have e : g = s.heap.get? := funext h
  rw [e] <;> rfl
theorem sup_at {xs : List Str} {vs : List SupV} {K : PySem.W.Frag} (e : xs.map (supObs K) = vs) (i : Nat) {x : Str} {v : SupV} (h1 : xs[i]? = some x := by rfl) (h2 : vs[i]? = some v := by rfl) : supObs K x = v := by
  have := congrArg (fun z : List SupV => z[i]?) e
  simp only [List.getElem?_map, h1, h2] at this
  exact Option.some.inj this
def excB (K : PySem.W.Frag) (D : Addr) : Bool := He.eqO (PySem.W.findIn K (.ref D) "__getattribute__") (some (some (.builtin "BaseException.__getattribute__"))) && (He.eqO (PySem.W.findIn K (.ref D) "__getattr__") (some none) && (decide (PySem.W.subIn K (.ref D) (.type "BaseException") = some true) && (PySem.W.hasDictIn K D && (He.eqO (PySem.W.findIn K (.ref D) "__class__") (some (some (.builtin "object.__class__"))) && (He.eqO (PySem.W.specialIn K (.builtin "object.__class__") "__get__") (some (some (.builtin "getset_descriptor.__get__"))) && (decide (PySem.W.takesIn K (.builtin "object.__class__") = some true) && decide (PySem.W.mroIn K D (.type "object") = some true)))))))
theorem excB_ok {K : PySem.W.Frag} {D : Addr} (h : excB K D = true) : ExcC K D ∧ XfC K D := by
  obtain ⟨h1, h⟩ := He.ba h
  obtain ⟨h2, h⟩ := He.ba h
  obtain ⟨h3, h⟩ := He.ba h
  obtain ⟨h4, h⟩ := He.ba h
  obtain ⟨h5, h⟩ := He.ba h
  obtain ⟨h6, h⟩ := He.ba h
  obtain ⟨h7, h8⟩ := He.ba h
  exact ⟨⟨He.eqO_ok h1, He.eqO_ok h2, of_decide_eq_true h3, h4, He.eqO_ok h5, He.eqO_ok h6, of_decide_eq_true h7, of_decide_eq_true h8⟩, ⟨He.eqO_ok h1, He.eqO_ok h2, of_decide_eq_true h3, h4⟩⟩
/-- an own exception class with the field -/
def exnB (fl q field : Str) (K : PySem.W.Frag) (C : Addr) : Bool := supB fl K C q && (He.eqO (PySem.W.findIn K (.ref C) "__init__") (some (some (.ref (He.ma K C "__init__")))) && (decide (PySem.W.typeIn K (.ref (He.ma K C "__init__")) = some (.type "function")) && (He.eqO (PySem.W.findIn K (.ref C) field) (some none) && excB K C)))
structure ExnF (K : PySem.W.Frag) (C : Addr) (q field fl : Str) : Prop where
  sup : supB fl K C q = true
  ini : PySem.W.findIn K (.ref C) "__init__" = some (some (.ref (He.ma K C "__init__")))
  ty : PySem.W.typeIn K (.ref (He.ma K C "__init__")) = some (.type "function")
  no : PySem.W.findIn K (.ref C) field = some none
  ec : ExcC K C
  xf : XfC K C
theorem exnB_ok {fl q field : Str} {K : PySem.W.Frag} {C : Addr} (h : exnB fl q field K C = true) : ExnF K C q field fl := by
  obtain ⟨h1, h⟩ := He.ba h
  obtain ⟨h2, h⟩ := He.ba h
  obtain ⟨h3, h⟩ := He.ba h
  obtain ⟨h4, h5⟩ := He.ba h
  exact ⟨h1, He.eqO_ok h2, of_decide_eq_true h3, He.eqO_ok h4, (excB_ok h5).1, (excB_ok h5).2⟩
def exmB (K : PySem.W.Frag) (a b : Addr) : Bool := decide (PySem.W.exmOne K (.ref a) (.ref b) = some true)
def kitVB (K : PySem.W.Frag) (a : Addr) (v : Value) (b : Bool) : Bool := decide (PySem.W.kitOne K (.ref a) v = some b)
end Z
set_option Elab.async false
set_option linter.all false
set_option maxRecDepth 100000
set_option maxHeartbeats 4000000
namespace Z
open PySem PySem.Spec PyProof.Rows L2 NdefX
/-! ### the head with own exceptions and properties: further observations are any functions of the written part -/
def hookY (n : Nat) (fa : List He.Fa) (fn : List He.DefD) (xs : List (PySem.W.Frag → SupV)) (vs : List SupV) (ex : PySem.W.Frag → Bool) : PySem.W.Hook where
  α := He.AlD × (List SupV × Bool)
  obs := fun s => (He.obsD fa fn (He.frG s.heap.get? (asX s.heap.get? n)), xs.map (fun f => f (He.frG s.heap.get? (asX s.heap.get? n))), ex (He.frG s.heap.get? (asX s.heap.get? n)))
  val := fun _ => (He.valD fn, vs, true)
  says := fun _ h => ∃ K : PySem.W.Frag, K.In h ∧ He.SaysD fa fn K ∧ xs.map (fun f => f K) = vs ∧ ex K = true
  of := fun _ _ e => ⟨_, He.frG_in, congrArg (fun z : He.AlD × (List SupV × Bool) => z.1) e, congrArg (fun z : He.AlD × (List SupV × Bool) => z.2.1) e, congrArg (fun z : He.AlD × (List SupV × Bool) => z.2.2) e⟩
  keeps := fun _ _ _ ⟨K, hK, c⟩ k => ⟨K, PySem.W.Frag.In.keeps hK k, c⟩
def obY (n : Nat) (fa : List He.Fa) (fn : List He.DefD) (xs : List (PySem.W.Frag → SupV)) (ex : PySem.W.Frag → Bool) (g : Addr → Option Obj) : He.AlD × (List SupV × Bool) := (He.obsD fa fn (He.frG g (asX g n)), xs.map (fun f => f (He.frG g (asX g n))), ex (He.frG g (asX g n)))
theorem obY_eq {n : Nat} {fa : List He.Fa} {fn : List He.DefD} {xs : List (PySem.W.Frag → SupV)} {vs : List SupV} {ex : PySem.W.Frag → Bool} {g : Addr → Option Obj} {s : Shared} (h : ∀ a, g a = s.heap.get? a) : obY n fa fn xs ex g = (hookY n fa fn xs vs ex).obs s := by
  have e : g = s.heap.get? := funext h
  rw [e] <;> rfl
theorem y_at {xs : List (PySem.W.Frag → SupV)} {vs : List SupV} {K : PySem.W.Frag} (e : xs.map (fun f => f K) = vs) (i : Nat) {f : PySem.W.Frag → SupV} {v : SupV} (h1 : xs[i]? = some f := by rfl) (h2 : vs[i]? = some v := by rfl) : f K = v := by
  have := congrArg (fun z : List SupV => z[i]?) e
  simp only [List.getElem?_map, h1, h2] at this
  exact Option.some.inj this
def isB (K : PySem.W.Frag) (C : Addr) : Bool := He.eqO (PySem.W.findIn K (.ref C) "__class__") (some (some (.builtin "object.__class__"))) && (He.eqO (PySem.W.specialIn K (.builtin "object.__class__") "__get__") (some (some (.builtin "getset_descriptor.__get__"))) && (decide (PySem.W.takesIn K (.builtin "object.__class__") = some true) && (decide (PySem.W.mroIn K C (.type "object") = some true) && decide (PySem.W.kitOne K (.ref C) (.ref C) = some true))))
theorem isB_ok {K : PySem.W.Frag} {C : Addr} (cl : Cls K C) (h : isB K C = true) : C8.InsC K C := by
  obtain ⟨h1, h⟩ := He.ba h
  obtain ⟨h2, h⟩ := He.ba h
  obtain ⟨h3, h⟩ := He.ba h
  obtain ⟨h4, h5⟩ := He.ba h
  exact ⟨cl, He.eqO_ok h1, He.eqO_ok h2, of_decide_eq_true h3, of_decide_eq_true h4, of_decide_eq_true h5⟩
def spB (K : PySem.W.Frag) (C : Addr) (m : Str) : Bool := He.eqO (PySem.W.findIn K (.ref C) m) (some (some (.ref (He.ma K C m)))) && (PySem.W.isFn K (.ref (He.ma K C m)) && PySem.W.fnIn K (He.ma K C m))
theorem spB_ok {K : PySem.W.Frag} {C : Addr} {m : Str} (h : spB K C m = true) : PySem.W.findIn K (.ref C) m = some (some (.ref (He.ma K C m))) ∧ PySem.W.isFn K (.ref (He.ma K C m)) = true ∧ PySem.W.fnIn K (He.ma K C m) = true := by
  obtain ⟨h1, h⟩ := He.ba h
  obtain ⟨h2, h3⟩ := He.ba h
  exact ⟨He.eqO_ok h1, h2, h3⟩
theorem all_at {bs : List Bool} (h : bs.all id = true) (i : Nat) {b : Bool} (e : bs[i]? = some b := by rfl) : b = true := List.all_eq_true.mp h b (List.mem_of_getElem? e)
theorem fnr_ok {P : Program} {w : World} {K : PySem.W.Frag} {mg : Str → Option Value} {base : Heap} {k : Nat} {f : Addr} {fd : FuncData} {ps : List Str} {sp : Sp} (F : FnOk P w K mg base CX0 k f fd ps sp) (b : Binds K fd ps []) : FnR P w K mg base CX0 k f sp := (FnOk.raw (dvs := []) F b .nil).imp fun vs H Q E h => by
  show sp (vs ++ []) H Q E
  rw [List.append_nil]
  exact h
/-! a property's getter -/
def gtA (K : PySem.W.Frag) (C : Addr) (m : Str) : Addr := match PySem.W.recIn K (He.ma K C m) "property" with
  | some (.ref g :: _) => g
  | _ => 0
def fdAt (K : PySem.W.Frag) (g : Addr) : Option FuncData := match K.lookup g with
  | some ⟨_, _, .func fd, _⟩ => some fd
  | _ => none
def propObs (x m : Str) (K : PySem.W.Frag) : SupV := (fdAt K (gtA K (He.ga K x) m)).map fun fd => (fd.name, fd.qualname, fd.params, fd.body, fd.scope, fd.globals, fd.closure.map (·.1), fd.defaults, fd.builtins)
def propVal (m q : Str) (st : Stmt) : SupV := some (m, q, defArgs st, .stmts (defBody st), defScope st, mainGlobals, [], .none, builtinsNs)
def propB (K : PySem.W.Frag) (C : Addr) (m q : Str) : Bool := He.eqO (PySem.W.findIn K (.ref C) m) (some (some (.ref (He.ma K C m)))) && (He.eqO (PySem.W.specialIn K (.ref (He.ma K C m)) "__get__") (some (some (.builtin "property.__get__"))) && (decide (PySem.W.takesIn K (.ref (He.ma K C m)) = some true) && ((match PySem.W.recIn K (He.ma K C m) "property" with
  | some (.ref _ :: _) => true
  | _ => false) && (PySem.W.keepIn K (.ref (gtA K C m)) && (match fdAt K (gtA K C m) with
  | some fd => PySem.W.codeIn K fd.code q && (He.dflB K fd.defaults [] && He.kwdB K fd.kwdefaults [])
  | none => false)))))
theorem prop_of {K : PySem.W.Frag} {x m q : Str} {st : Stmt} (h1 : propObs x m K = propVal m q st) (h2 : propB K (He.ga K x) m q = true) : ∃ fd : FuncData, PropOf K (He.ga K x) m (He.ma K (He.ga K x) m) (gtA K (He.ga K x) m) ∧ FunD K m q (defArgs st) (defBody st) (defScope st) [] [] (gtA K (He.ga K x) m) fd := by
  obtain ⟨g0, h2⟩ := He.ba h2
  obtain ⟨g1, h2⟩ := He.ba h2
  obtain ⟨g2, h2⟩ := He.ba h2
  obtain ⟨g3, h2⟩ := He.ba h2
  obtain ⟨g4, g5⟩ := He.ba h2
  have P : PropOf K (He.ga K x) m (He.ma K (He.ga K x) m) (gtA K (He.ga K x) m) := by
    refine ⟨He.eqO_ok g0, He.eqO_ok g1, of_decide_eq_true g2, ?_⟩
    unfold gtA
    split at g3
    · next g rest e =>
      rw [e]
      exact ⟨rest, rfl⟩
    · cases g3
  unfold propObs at h1
  cases e : fdAt K (gtA K (He.ga K x) m) with
  | none =>
    rw [e] at h1
    cases h1
  | some fd =>
    rw [e] at h1 g5
    have lk : ∃ oc od osl, K.lookup (gtA K (He.ga K x) m) = some ⟨oc, od, .func fd, osl⟩ := by
      unfold fdAt at e
      split at e
      · next oc od fd' osl l =>
        cases e
        exact ⟨_, _, _, l⟩
      · cases e
    obtain ⟨oc, od, osl, lk⟩ := lk
    obtain ⟨n1, n2, n3, n4, n5, n6, n7, n8, n9, n10, n11, n12, n13, n14, n15⟩ := fd
    have h1 : (some (n1, n2, n3, n4, n5, n6, n7.map (·.1), n8, n15) : SupV) = propVal m q st := h1
    unfold propVal at h1
    simp only [Option.some.injEq, Prod.mk.injEq] at h1
    obtain ⟨a1, a2, a3, a4, a5, a6, a7, a8, a9⟩ := h1
    have a7 : n7 = [] := List.map_eq_nil_iff.mp a7
    subst a1 a2 a3 a4 a5 a6 a7 a8 a9
    obtain ⟨k1, k2⟩ := He.ba (show (PySem.W.codeIn K n13 n2 && (He.dflB K .none [] && He.kwdB K n9 [])) = true from g5)
    obtain ⟨k3, k4⟩ := He.ba k2
    exact ⟨_, P, ⟨oc, od, _, n9, n10, n11, n12, n13, n14, osl, rfl, lk, k1, He.dflB_ok k3, He.kwdB_ok k4⟩, g4⟩
end Z
set_option Elab.async false
set_option linter.all false
set_option maxRecDepth 100000
set_option maxHeartbeats 4000000
namespace Z
open PySem PySem.Spec PyProof.Rows L2
/-! ### a op b by the class's own method -/
structure Bin2 (P : Program) (w : World) (K : PySem.W.Frag) (mg : Str → Option Value) (base : Heap) (k : Nat) (C : Addr) (m : Str) (sp : Sp) : Prop where
  ex : ∃ (f : Addr) (fd : FuncData) (ps : List Str), FnOk P w K mg base CX0 k f fd ps sp ∧ PySem.W.findIn K (.ref C) m = some (some (.ref f)) ∧ PySem.W.isFn K (.ref f) = true ∧ Binds K fd ps [] ∧ PySem.W.selfFirst K C = true
def rBin (C : Addr) (sp : Sp) : R2 := fun x y H Q => ∃ a b dx dy fs gs, x = .ref a ∧ y = .ref b ∧ H a = some (.ins C dx fs) ∧ H b = some (.ins C dy gs) ∧ sp [.ref a, .ref b] H (fun v H' => ∃ p, v = .ref p ∧ Q v H') E0
theorem op_bin {X : Cx} {k j : Nat} {C : Addr} {sp : Sp} {op : Operator} (c : Bin2 X.prog X.w X.K X.mg X.base k C (PySem.dunder op.info.2) sp) (hr : Room j X.A) (hk : k ≤ j) : OpR X (binaryOp op) (rBin C sp) := by
  intro pins s σ H x y v u Q I rx ry hq
  obtain ⟨f, fd, ps, F, hs, hf, hb, sf⟩ := c.ex
  obtain ⟨a, b, dx, dy, fs, gs, rfl, rfl, ha, hb', q⟩ := hq
  cases rx
  cases ry
  obtain ⟨mA, J, _⟩ := ins_get I.hok ha
  obtain ⟨mB, J', _⟩ := ins_get I.hok hb'
  obtain ⟨od, J, _⟩ := J.look
  obtain ⟨od', J', _⟩ := J'.look
  obtain ⟨m, hF⟩ := I.fr
  refine PySem.W.binop_K hF I.ok.mod.kin J J'.type sf hs hf ?_
  have r2 : Vals [V.ref a, V.ref b] [Value.ref a, Value.ref b] := .cons rfl (.cons rfl .nil)
  refine thn (run_fn (dvs := []) F (hr.mono hk) hb .nil pass0 I r2 q) fun r s' z => ?_
  obtain ⟨v, H', I', rv, p, rfl, q'⟩ := z
  cases rv
  exact ⟨.ref p, H', I', rfl, q'⟩
/-! ### a op n, n an int, by the class's own method, which may raise -/
structure BinI (P : Program) (w : World) (K : PySem.W.Frag) (mg : Str → Option Value) (base : Heap) (k : Nat) (C : Addr) (op : Operator) (sp : Sp) : Prop where
  ex : ∃ (f : Addr) (fd : FuncData) (ps : List Str) (fo ro : Option Value), FnOk P w K mg base (L2N.CX P w) k f fd ps sp ∧ PySem.W.findIn K (.ref C) (PySem.dunder op.info.2) = some (some (.ref f)) ∧ PySem.W.isFn K (.ref f) = true ∧ Binds K fd ps [] ∧ PySem.W.selfFirst K C = true ∧
    PySem.W.findIn K (.ref C) (dunderR op.info.2) = some none ∧ PySem.W.findIn K (.type "int") (PySem.dunder op.info.2) = some fo ∧ PySem.W.findIn K (.type "int") (dunderR op.info.2) = some ro ∧ PySem.W.subIn K (.type "int") (.ref C) = some false
def tOpE (C : Addr) (sp : Sp) (E : L2.St → XK) (ta tb : TE) : TE := fun σ H Q => ta σ H fun x H1 => tb σ H1 fun y H2 => ∃ a n dx fs, x = .ref a ∧ y = .int n ∧ H2 a = some (.ins C dx fs) ∧ sp [.ref a, .int n] H2 (fun v H' => ∃ p, v = .ref p ∧ Q v H') (E σ)
theorem pe_opE {X : Cx} {k j : Nat} {C : Addr} {sp : Sp} {op : Operator} {E : L2.St → XK} {a b : Expr} {ta tb : TE} {pos : Pos} (c : BinI X.prog X.w X.K X.mg X.base k C op sp) (hx : ∀ σ, PassesAt (L2N.CX X.prog X.w) X σ (E σ)) (hr : Room j X.A) (hk : k ≤ j) (ha : PE X a ta) (hb : PE X b tb) : PE X (.BinOp a op b pos) (tOpE C sp E ta tb) := by
  obtain ⟨f, fd, ps, fo, ro, F, hs, hf, hbi, sf, hr0, h1, h2, hsub⟩ := c.ex
  refine ⟨fun pins s σ H Q I h => ?_⟩
  refine wpAny_BinOp (binT ha hb I h fun v u s2 x y H2 I2 rx ry q => ?_)
  obtain ⟨a, n, dx, fs, rfl, rfl, ea, q⟩ := q
  cases rx
  obtain ⟨tk, rfl⟩ := ry
  obtain ⟨mA, J, _⟩ := ins_get I2.hok ea
  obtain ⟨od, J, _⟩ := J.look
  obtain ⟨m, hF⟩ := I2.fr
  refine PySem.W.ksp_binT (T := "int") (fo := fo) (ro := ro) (rc := none) hF I2.ok.mod.kin J rfl sf hs hf hr0 (.inl rfl) h1 h2 hsub ?_
  refine thn (wpAny_call (run_atE (vs := [.ref a, .int n]) (us := [.ref a, .int n tk]) F hbi (hx σ) (hr.mono hk) I2 (.cons rfl (.cons ⟨_, rfl⟩ .nil)) q)) fun r s' z => ?_
  obtain ⟨v, H', I', rv, p, rfl, q'⟩ := z
  cases rv
  exact ⟨.ref p, H', I', rfl, q'⟩
end Z
set_option Elab.async false
set_option linter.all false
namespace Dy
/-! ### day functions: the mathematics -/
/-- the value of the rule with these days -/
def dv (ds : List Int) (d : Int) : Int := ds.getD (d % (ds.length : Int)).toNat 0 + (ds.length : Int) * (d / (ds.length : Int))
def Per (F : Int → Int) (s : Int) : Prop := ∀ d, F (d + s) = F d + s
theorem Per.mul {F : Int → Int} {s : Int} (h : Per F s) : ∀ (n : Nat) (d : Int), F (d + n * s) = F d + n * s
  | 0, d => by
    rw [show ((0 : Nat) : Int) * s = 0 by simp]
    simp
  | n + 1, d => by
    have e : ((n + 1 : Nat) : Int) * s = n * s + s := by
      rw [Int.natCast_add, Int.add_mul]
      simp
    rw [e, ← Int.add_assoc, h, h.mul n d]
    omega
theorem Per.imul {F : Int → Int} {s : Int} (h : Per F s) (n : Int) (d : Int) : F (d + n * s) = F d + n * s := by
  rcases Int.le_total 0 n with c | c
  · obtain ⟨m, rfl⟩ := Int.eq_ofNat_of_zero_le c
    exact h.mul m d
  · obtain ⟨m, e⟩ := Int.eq_ofNat_of_zero_le (show 0 ≤ -n by omega)
    have e : n = -(m : Int) := by omega
    subst e
    have := h.mul m (d + -(m : Int) * s)
    rw [show d + -(m : Int) * s + m * s = d by rw [Int.neg_mul]; omega] at this
    rw [this]
    rw [Int.neg_mul]
    omega
theorem Per.sub {F : Int → Int} {s t : Int} (h : Per F s) (k : Per F t) : Per F (s - t) := fun d => by
  have h1 := h (d - t)
  have h2 := k (d - t)
  rw [show d - t + t = d by omega] at h2
  rw [show d + (s - t) = d - t + s by omega, h1]
  omega
/-- a list that tells the values of F from 0 on -/
structure Of (F : Int → Int) (ds : List Int) : Prop where
  pos : 0 < ds.length
  per : Per F (ds.length : Int)
  at_ : ∀ i, i < ds.length → ds.getD i 0 = F (i : Int)
theorem Of.dv {F : Int → Int} {ds : List Int} (h : Of F ds) (d : Int) : dv ds d = F d := by
  unfold Dy.dv
  have hn : 0 < (ds.length : Int) := by have := h.pos; omega
  have h1 := Int.emod_nonneg d (show (ds.length : Int) ≠ 0 by omega)
  have h2 := Int.emod_lt_of_pos d hn
  rw [h.at_ _ (by omega), Int.toNat_of_nonneg h1]
  have h3 := h.per.imul (d / (ds.length : Int)) (d % (ds.length : Int))
  have h4 := Int.emod_add_mul_ediv d (ds.length : Int)
  rw [show d % (ds.length : Int) + d / (ds.length : Int) * (ds.length : Int) = d by rw [Int.mul_comm (d / _)]; exact h4] at h3
  rw [h3, Int.mul_comm (d / _)]
theorem of_dv {ds : List Int} (h : 0 < ds.length) : Of (dv ds) ds := by
  refine ⟨h, fun d => ?_, fun i hi => ?_⟩
  · unfold dv
    rw [Int.add_emod_right, Int.add_ediv_of_dvd_right (Int.dvd_refl _), Int.ediv_self (by omega), Int.mul_add]
    omega
  · unfold dv
    rw [Int.emod_eq_of_lt (by omega) (by omega), Int.ediv_eq_zero_of_lt (by omega) (by omega)]
    simp
/-- the least period -/
structure Lp (F : Int → Int) (p : Nat) : Prop where
  pos : 0 < p
  per : Per F (p : Int)
  least : ∀ s : Nat, 0 < s → Per F (s : Int) → p ≤ s
theorem Lp.uniq {F : Int → Int} {p q : Nat} (a : Lp F p) (b : Lp F q) : p = q := by
  have h1 := a.least q b.pos b.per
  have h2 := b.least p a.pos a.per
  omega
theorem Lp.dvd {F : Int → Int} {p n : Nat} (a : Lp F p) (h : Per F (n : Int)) : n % p = 0 := by
  have hm : Per F ((n % p : Nat) : Int) := by
    have h1 : Per F (((n / p : Nat) : Int) * (p : Int)) := fun d => a.per.mul (n / p) d
    have h2 := h.sub h1
    have e : (n : Int) - ((n / p : Nat) : Int) * (p : Int) = ((n % p : Nat) : Int) := by
      have := Nat.div_add_mod n p
      have h3 : (n : Int) = ((p * (n / p) + n % p : Nat) : Int) := by rw [this]
      rw [Int.natCast_add, Int.natCast_mul, Int.mul_comm] at h3
      omega
    rw [e] at h2
    exact h2
  rcases Nat.eq_zero_or_pos (n % p) with c | c
  · exact c
  · have := a.least _ c hm
    have := Nat.mod_lt n a.pos
    omega
/-- seen on one stretch of n days -/
theorem per_of {F : Int → Int} {n : Nat} {s : Int} (hn : 0 < n) (h : Per F (n : Int)) (k : ∀ i : Nat, i < n → F ((i : Int) + s) = F (i : Int) + s) : Per F s := fun d => by
  have hn2 : 0 < (n : Int) := by omega
  have h1 := Int.emod_nonneg d (show (n : Int) ≠ 0 by omega)
  have h2 := Int.emod_lt_of_pos d hn2
  have h4 := Int.emod_add_mul_ediv d (n : Int)
  obtain ⟨i, ei⟩ := Int.eq_ofNat_of_zero_le h1
  have hi : i < n := by omega
  have e1 : d = (i : Int) + d / n * n := by rw [← ei, Int.mul_comm (d / _)]; exact h4.symm
  have a1 := h.imul (d / n) (i : Int)
  have a2 := h.imul (d / n) ((i : Int) + s)
  rw [← e1] at a1
  rw [show (i : Int) + s + d / n * n = d + s by omega] at a2
  rw [a2, a1, k i hi]
  omega
/-- the program's test: s divides n, and the days behind s are those before, s later -/
def Blk (ds : List Int) (s : Nat) : Prop := ds.length % s = 0 ∧ ∀ i, s ≤ i → i < ds.length → ds.getD i 0 = ds.getD (i - s) 0 + s
theorem blk_per {F : Int → Int} {ds : List Int} {s : Nat} (h : Of F ds) (hs : 0 < s) (b : Blk ds s) : Per F (s : Int) := by
  obtain ⟨b1, b2⟩ := b
  obtain ⟨q, hq⟩ := Nat.dvd_of_mod_eq_zero b1
  have hp := h.pos
  -- within the list
  have st : ∀ i : Nat, i + s < ds.length → F ((i : Int) + s) = F (i : Int) + s := fun i hi => by
    have := b2 (i + s) (by omega) hi
    rw [h.at_ _ hi, show i + s - s = i by omega, h.at_ i (by omega)] at this
    rw [← this]
    congr 1
  have ch : ∀ (k i : Nat), i + k * s < ds.length → F ((i : Int) + k * s) = F (i : Int) + k * s := by
    intro k
    induction k with
    | zero =>
      intro i _
      simp
    | succ k ih =>
      intro i hi
      have e : (k + 1) * s = k * s + s := by rw [Nat.add_mul, Nat.one_mul]
      rw [e] at hi
      have h1 := ih i (by omega)
      have h2 := st (i + k * s) (by omega)
      have e2 : ((k + 1 : Nat) : Int) * (s : Int) = k * s + s := by
        rw [Int.natCast_add, Int.add_mul]
        simp
      rw [e2, ← Int.add_assoc]
      rw [show ((i + k * s : Nat) : Int) = (i : Int) + k * s by rw [Int.natCast_add, Int.natCast_mul]] at h2
      rw [h2, h1]
      omega
  refine per_of hp h.per (fun i hi => ?_)
  by_cases c : i + s < ds.length
  · exact st i c
  · -- the last block
    have q1 : 0 < q := by
      rcases Nat.eq_zero_or_pos q with z | z
      · rw [z, Nat.mul_zero] at hq
        omega
      · exact z
    obtain ⟨q', rfl⟩ : ∃ q', q = q' + 1 := ⟨q - 1, by omega⟩
    have e : s * (q' + 1) = q' * s + s := by rw [Nat.mul_add, Nat.mul_one, Nat.mul_comm]
    rw [e] at hq
    obtain ⟨j, hj⟩ : ∃ j : Nat, i = j + q' * s := ⟨i - q' * s, by omega⟩
    have a1 := ch q' j (by omega)
    have a2 := h.per (j : Int)
    have e3 : (ds.length : Int) = (q' : Int) * s + s := by rw [hq, Int.natCast_add, Int.natCast_mul]
    rw [e3] at a2
    have e4 : (i : Int) = (j : Int) + q' * s := by rw [hj, Int.natCast_add, Int.natCast_mul]
    rw [e4, a1]
    rw [Int.add_assoc, a2]
    omega
theorem lp_blk {F : Int → Int} {ds : List Int} {p : Nat} (h : Of F ds) (l : Lp F p) : Blk ds p := by
  refine ⟨l.dvd h.per, fun i hi hn => ?_⟩
  rw [h.at_ i hn, h.at_ (i - p) (by omega)]
  have := l.per ((i - p : Nat) : Int)
  rw [← this]
  congr 1
  omega
/-- the first size below n that passes a test that means «a period» -/
theorem first_lp {F : Int → Int} {n s : Nat} (T : Nat → Prop) (hn : 0 < n) (h : Per F (n : Int)) (hT : ∀ k, 0 < k → T k → Per F (k : Int)) (hL : ∀ p, Lp F p → p < n → T p) (hs : 0 < s) (hsn : s ≤ n) (h1 : ∀ k, 0 < k → k < s → ¬ T k) (h2 : s < n → T s) : Lp F s := by
  -- the least period exists
  have ex : ∃ p, Lp F p := by
    have key : ∀ m : Nat, ∀ k : Nat, k ≤ m → 0 < k → Per F (k : Int) → ∃ p, Lp F p := by
      intro m
      induction m with
      | zero => intro k a b; omega
      | succ m ih =>
        intro k a b c
        by_cases z : ∃ j : Nat, 0 < j ∧ j < k ∧ Per F (j : Int)
        · obtain ⟨j, j1, j2, j3⟩ := z
          exact ih j (by omega) j1 j3
        · refine ⟨k, b, c, fun j j1 j2 => ?_⟩
          apply Decidable.byContradiction
          intro w
          exact z ⟨j, j1, by omega, j2⟩
    exact key n n (Nat.le_refl _) hn h
  obtain ⟨p, hp⟩ := ex
  have pn := hp.least n hn h
  have e : p = s := by
    by_cases c : p < s
    · exact absurd (hL p hp (by omega)) (h1 p hp.pos c)
    · by_cases d : s < n
      · have := hp.least s hs (hT s hs (h2 d))
        omega
      · omega
  rw [← e]
  exact hp
theorem Of.take {F : Int → Int} {ds : List Int} {p : Nat} (h : Of F ds) (l : Lp F p) : p ≤ ds.length ∧ (ds.take p).length = p ∧ Of F (ds.take p) := by
  have hp := l.least ds.length h.pos h.per
  have e : (ds.take p).length = p := by
    rw [List.length_take]
    omega
  refine ⟨hp, e, ?_, ?_, ?_⟩
  · rw [e]
    exact l.pos
  · rw [e]
    exact l.per
  · intro i hi
    rw [e] at hi
    rw [← h.at_ i (by omega), List.getD_eq_getElem?_getD, List.getD_eq_getElem?_getD, List.getElem?_take_of_lt hi]
/-! ### what makes a day rule -/
/-- the first index at which the days fall; 0 if the end is too late or there are none -/
def asc (ds : List Int) : Nat → Prop := fun i => ¬ ds.getD i 0 < ds.getD (i - 1) 0
def faultF (ds : List Int) : Nat → Nat → Option Nat
  | 0, _ => none
  | m + 1, i => if ds.getD i 0 < ds.getD (i - 1) 0 then some i else faultF ds m (i + 1)
/-- what check_days says -/
def fault (ds : List Int) : Option Nat := match faultF ds (ds.length - 1) 1 with
  | some i => some i
  | none => if ds.length = 0 ∨ ds.getD 0 0 + ds.length < ds.getD (ds.length - 1) 0 then some 0 else none
end Dy
set_option Elab.async false
set_option linter.all false
namespace Dy
/-! ### day functions: iterates, adjoints -/
def Mon (F : Int → Int) : Prop := ∀ d, F d ≤ F (d + 1)
theorem Mon.add {F : Int → Int} (h : Mon F) (d : Int) : ∀ n : Nat, F d ≤ F (d + n)
  | 0 => by simp
  | n + 1 => by
    have h1 := h.add d n
    have h2 := h (d + n)
    rw [show d + ((n + 1 : Nat) : Int) = d + n + 1 by omega]
    omega
theorem Mon.le {F : Int → Int} (h : Mon F) {a b : Int} (c : a ≤ b) : F a ≤ F b := by
  have := h.add a (b - a).toNat
  rw [show a + ((b - a).toNat : Int) = b by omega] at this
  exact this
def it (F : Int → Int) : Nat → Int → Int
  | 0, d => d
  | n + 1, d => F (it F n d)
theorem it_add (F : Int → Int) (a b : Nat) (d : Int) : it F (a + b) d = it F b (it F a d) := by
  induction b with
  | zero => rfl
  | succ b ih => rw [← Nat.add_assoc]; show F (it F (a + b) d) = F (it F b (it F a d)); rw [ih]
theorem it_succ (F : Int → Int) (n : Nat) (d : Int) : it F (n + 1) d = it F n (F d) := by
  rw [Nat.add_comm, it_add]
  rfl
theorem it_mul (F : Int → Int) (a b : Nat) (d : Int) : it F (a * b) d = it (it F a) b d := by
  induction b with
  | zero => rfl
  | succ b ih => rw [Nat.mul_succ, it_add, ih]; rfl
theorem Mon.it {F : Int → Int} (h : Mon F) : ∀ n, Mon (it F n)
  | 0 => fun d => by show d ≤ d + 1; omega
  | n + 1 => fun d => h.le (h.it n d)
theorem Per.it {F : Int → Int} {s : Int} (h : Per F s) : ∀ n, Per (it F n) s
  | 0 => fun d => rfl
  | n + 1 => fun d => by
    show F (Dy.it F n (d + s)) = F (Dy.it F n d) + s
    rw [h.it n d, h]
theorem Mon.comp {F G : Int → Int} (f : Mon F) (g : Mon G) : Mon fun d => G (F d) := fun d => g.le (f d)
theorem Per.comp {F G : Int → Int} {s : Int} (f : Per F s) (g : Per G s) : Per (fun d => G (F d)) s := fun d => by
  show G (F (d + s)) = G (F d) + s
  rw [f, g]
theorem Mon.max {F G : Int → Int} (f : Mon F) (g : Mon G) : Mon fun d => max (F d) (G d) := fun d => by
  have := f d
  have := g d
  show Max.max _ _ ≤ Max.max _ _
  omega
theorem Mon.min {F G : Int → Int} (f : Mon F) (g : Mon G) : Mon fun d => min (F d) (G d) := fun d => by
  have := f d
  have := g d
  show Min.min _ _ ≤ Min.min _ _
  omega
theorem Per.max {F G : Int → Int} {s : Int} (f : Per F s) (g : Per G s) : Per (fun d => max (F d) (G d)) s := fun d => by
  show Max.max (F (d + s)) (G (d + s)) = Max.max _ _ + s
  rw [f, g]
  omega
theorem Per.min {F G : Int → Int} {s : Int} (f : Per F s) (g : Per G s) : Per (fun d => min (F d) (G d)) s := fun d => by
  show Min.min (F (d + s)) (G (d + s)) = Min.min _ _ + s
  rw [f, g]
  omega
theorem Per.dvd {F : Int → Int} {s n : Nat} (h : Per F (s : Int)) (d : n % s = 0) : Per F (n : Int) := fun x => by
  have e := h.mul (n / s) x
  have h2 := Nat.div_add_mod n s
  have e2 : ((n / s : Nat) : Int) * (s : Int) = n := by
    rw [← Int.natCast_mul]
    congr 1
    rw [Nat.mul_comm]
    omega
  rw [e2] at e
  exact e
/-- the values of F from 0 on make a list that is a rule -/
theorem of_congr {F G : Int → Int} {ds : List Int} (o : Of F ds) (h : ∀ d, F d = G d) : Of G ds := by
  have : F = G := funext h
  rw [← this]
  exact o
theorem of_range {F : Int → Int} {n : Nat} (hn : 0 < n) (h : Per F (n : Int)) : Of F ((List.range n).map fun (i : Nat) => F (i : Int)) := by
  have l : ((List.range n).map fun (i : Nat) => F (i : Int)).length = n := by rw [List.length_map, List.length_range]
  refine ⟨by omega, by rw [l]; exact h, fun i hi => ?_⟩
  rw [l] at hi
  rw [List.getD_eq_getElem?_getD, List.getElem?_map, List.getElem?_range hi]
  rfl
theorem Of.eq {F : Int → Int} {ds es : List Int} (a : Of F ds) (b : Of F es) (l : ds.length = es.length) : ds = es := by
  apply List.ext_getElem l
  intro i h1 h2
  have e1 := a.at_ i h1
  have e2 := b.at_ i h2
  rw [List.getD_eq_getElem?_getD, List.getElem?_eq_getElem h1] at e1
  rw [List.getD_eq_getElem?_getD, List.getElem?_eq_getElem h2] at e2
  exact e1.trans e2.symm
/-! adjoints -/
def Lat (F L : Int → Int) : Prop := ∀ d l, F d ≤ l ↔ d ≤ L l
def Soo (F S : Int → Int) : Prop := ∀ d l, l ≤ F d ↔ S l ≤ d
theorem Lat.uniq {F L M : Int → Int} (a : Lat F L) (b : Lat F M) (l : Int) : L l = M l := by
  have h1 := (b (L l) l).mp ((a (L l) l).mpr (Int.le_refl _))
  have h2 := (a (M l) l).mp ((b (M l) l).mpr (Int.le_refl _))
  omega
theorem Soo.uniq {F L M : Int → Int} (a : Soo F L) (b : Soo F M) (l : Int) : L l = M l := by
  have h1 := (b (L l) l).mp ((a (L l) l).mpr (Int.le_refl _))
  have h2 := (a (M l) l).mp ((b (M l) l).mpr (Int.le_refl _))
  omega
theorem Lat.soo {F L : Int → Int} (a : Lat F L) : Soo F fun l => L (l - 1) + 1 := fun d l => by
  have := a d (l - 1)
  show l ≤ F d ↔ L (l - 1) + 1 ≤ d
  omega
theorem Soo.lat {F S : Int → Int} (a : Soo F S) : Lat F fun l => S (l + 1) - 1 := fun d l => by
  have := a d (l + 1)
  show F d ≤ l ↔ d ≤ S (l + 1) - 1
  omega
theorem Lat.flip {F L : Int → Int} (a : Lat F L) : Soo L F := fun d l => (a l d).symm
theorem Soo.flip {F S : Int → Int} (a : Soo F S) : Lat S F := fun d l => (a l d).symm
theorem Lat.mon {F L : Int → Int} (a : Lat F L) : Mon L := fun l => (a _ _).mp (by
  have := (a (L l) l).mpr (Int.le_refl _)
  omega)
theorem Soo.mon {F L : Int → Int} (a : Soo F L) : Mon L := fun l => (a _ _).mp (by
  have := (a (L (l + 1)) (l + 1)).mpr (Int.le_refl _)
  omega)
theorem Lat.per {F L : Int → Int} {s : Int} (a : Lat F L) (h : Per F s) : Per L s := fun l => by
  have h1 : L l + s ≤ L (l + s) := (a _ _).mp (by
    rw [h]
    have := (a (L l) l).mpr (Int.le_refl _)
    omega)
  have h2 : L (l + s) - s ≤ L l := (a _ _).mp (by
    have := (a (L (l + s)) (l + s)).mpr (Int.le_refl _)
    have e := h (L (l + s) - s)
    rw [show L (l + s) - s + s = L (l + s) by omega] at e
    omega)
  omega
theorem Soo.per {F L : Int → Int} {s : Int} (a : Soo F L) (h : Per F s) : Per L s := fun l => by
  have := a.lat.per h (l - 1)
  have this : L (l - 1 + s + 1) - 1 = L (l - 1 + 1) - 1 + s := this
  rw [show l - 1 + s + 1 = l + s by omega, show l - 1 + 1 = l by omega] at this
  omega
theorem Lat.comp {F G L M : Int → Int} (a : Lat F L) (b : Lat G M) : Lat (fun d => G (F d)) fun l => L (M l) := fun d l => (b _ _).trans (a _ _)
theorem Soo.comp {F G L M : Int → Int} (a : Soo F L) (b : Soo G M) : Soo (fun d => G (F d)) fun l => L (M l) := fun d l => (b _ _).trans (a _ _)
theorem Lat.it {F L : Int → Int} (a : Lat F L) : ∀ n, Lat (it F n) (it L n)
  | 0 => fun _ _ => Iff.rfl
  | n + 1 => fun d l => by
    rw [it_succ L]
    exact (a _ _).trans (a.it n _ _)
theorem Soo.it {F L : Int → Int} (a : Soo F L) : ∀ n, Soo (it F n) (it L n)
  | 0 => fun _ _ => Iff.rfl
  | n + 1 => fun d l => by
    rw [it_succ L]
    exact (a _ _).trans (a.it n _ _)
theorem lat_max {F G L M : Int → Int} (a : Lat F L) (b : Lat G M) : Lat (fun d => max (F d) (G d)) fun l => min (L l) (M l) := fun d l => by
  have := a d l
  have := b d l
  show Max.max (F d) (G d) ≤ l ↔ d ≤ Min.min (L l) (M l)
  omega
theorem lat_min {F G L M : Int → Int} (a : Lat F L) (b : Lat G M) : Lat (fun d => min (F d) (G d)) fun l => max (L l) (M l) := fun d l => by
  have := a d l
  have := b d l
  show Min.min (F d) (G d) ≤ l ↔ d ≤ Max.max (L l) (M l)
  omega
theorem soo_max {F G L M : Int → Int} (a : Soo F L) (b : Soo G M) : Soo (fun d => max (F d) (G d)) fun l => min (L l) (M l) := fun d l => by
  have := a d l
  have := b d l
  show l ≤ Max.max (F d) (G d) ↔ Min.min (L l) (M l) ≤ d
  omega
theorem soo_min {F G L M : Int → Int} (a : Soo F L) (b : Soo G M) : Soo (fun d => min (F d) (G d)) fun l => max (L l) (M l) := fun d l => by
  have := a d l
  have := b d l
  show l ≤ Min.min (F d) (G d) ↔ Max.max (L l) (M l) ≤ d
  omega
/-! rings -/
/-- two of n + 1 numbers below n are alike -/
theorem pigeon : ∀ (n : Nat) (f : Nat → Nat), (∀ i, i ≤ n → f i < n) → ∃ i j, i < j ∧ j ≤ n ∧ f i = f j
  | 0, f, h => absurd (h 0 (Nat.le_refl _)) (Nat.not_lt_zero _)
  | n + 1, f, h => by
    by_cases c : ∃ i, i ≤ n ∧ f i = f (n + 1)
    · obtain ⟨i, h1, h2⟩ := c
      exact ⟨i, n + 1, by omega, Nat.le_refl _, h2⟩
    · -- f (n + 1) changed with n
      have g1 : ∀ i, i ≤ n → (if f i = n then f (n + 1) else f i) < n := fun i hi => by
        have h1 := h i (by omega)
        have h2 := h (n + 1) (Nat.le_refl _)
        have h3 : f i ≠ f (n + 1) := fun z => c ⟨i, hi, z⟩
        split <;> omega
      obtain ⟨i, j, a, b, e⟩ := pigeon n (fun i => if f i = n then f (n + 1) else f i) g1
      refine ⟨i, j, a, by omega, ?_⟩
      have h3 : f i ≠ f (n + 1) := fun z => c ⟨i, by omega, z⟩
      have h4 : f j ≠ f (n + 1) := fun z => c ⟨j, by omega, z⟩
      split at e <;> split at e <;> omega
/-- day d comes back after u uses, g later -/
def Rg (F : Int → Int) (n : Nat) (d : Int) (u : Nat) (g : Int) : Prop := it F u d = d + g ∧ g % (n : Int) = 0
theorem ring_ex {F : Int → Int} {n : Nat} (hn : 0 < n) (h : Per F (n : Int)) : ∃ (d u : Nat), d < n ∧ 0 < u ∧ u ≤ n ∧ (it F u d - d) % (n : Int) = 0 := by
  have hn2 : (0 : Int) < n := by omega
  have nn : ∀ x : Int, 0 ≤ x % (n : Int) := fun x => Int.emod_nonneg x (by omega)
  have lt : ∀ x : Int, x % (n : Int) < n := fun x => Int.emod_lt_of_pos x hn2
  obtain ⟨i, j, a, b, e⟩ := pigeon n (fun i => (it F i 0 % (n : Int)).toNat) (fun i _ => by
    have := nn (it F i 0)
    have := lt (it F i 0)
    show (it F i 0 % (n : Int)).toNat < n
    omega)
  have e : it F i 0 % (n : Int) = it F j 0 % (n : Int) := by
    have h1 := nn (it F i 0)
    have h2 := nn (it F j 0)
    have e : (it F i 0 % (n : Int)).toNat = (it F j 0 % (n : Int)).toNat := e
    omega
  refine ⟨(it F i 0 % (n : Int)).toNat, j - i, ?_, by omega, by omega, ?_⟩
  · have := nn (it F i 0)
    have := lt (it F i 0)
    omega
  · rw [Int.toNat_of_nonneg (nn _)]
    have hq := Int.emod_add_mul_ediv (it F i 0) (n : Int)
    have hx := (h.it (j - i)).imul (it F i 0 / (n : Int)) (it F i 0 % (n : Int))
    rw [show it F i 0 % (n : Int) + it F i 0 / (n : Int) * (n : Int) = it F i 0 by rw [Int.mul_comm (it F i 0 / _)]; exact hq, ← it_add, show i + (j - i) = j by omega] at hx
    have h3 : it F (j - i) (it F i 0 % (n : Int)) - it F i 0 % (n : Int) = it F j 0 - it F i 0 := by
      rw [Int.mul_comm] at hx
      omega
    rw [h3, Int.sub_emod, e, Int.sub_self]
    rfl
/-- all gains lie within n - 1 -/
theorem gains {G : Int → Int} {n : Nat} (hn : 0 < n) (m : Mon G) (h : Per G (n : Int)) (d e : Int) : (G d - d) - (G e - e) < n := by
  have hn2 : (0 : Int) < n := by omega
  -- e moved to [d, d + n)
  have key : ∀ c : Int, d ≤ c → c < d + n → (G d - d) - (G c - c) < n := fun c h1 h2 => by
    have := m.le h1
    omega
  have h1 := Int.emod_nonneg (e - d) (show (n : Int) ≠ 0 by omega)
  have h2 := Int.emod_lt_of_pos (e - d) hn2
  have h3 := Int.emod_add_mul_ediv (e - d) (n : Int)
  have h4 := h.imul ((e - d) / (n : Int)) (d + (e - d) % (n : Int))
  have h5 := key (d + (e - d) % (n : Int)) (by omega) (by omega)
  rw [Int.mul_comm ((e - d) / _), show d + (e - d) % (n : Int) + (n : Int) * ((e - d) / (n : Int)) = e by omega] at h4
  omega
theorem gains_sum {G : Int → Int} {n : Nat} (hn : 0 < n) (m : Mon G) (h : Per G (n : Int)) (d e : Int) : ∀ k : Nat, k * (G d - d) - (it G k e - e) ≤ k * ((n : Int) - 1) ∧ -(k * ((n : Int) - 1)) ≤ k * (G d - d) - (it G k e - e)
  | 0 => by
    show ((0 : Nat) : Int) * _ - (e - e) ≤ ((0 : Nat) : Int) * _ ∧ _ ≤ ((0 : Nat) : Int) * _ - (e - e)
    simp
  | k + 1 => by
    have h1 := gains_sum hn m h d e k
    have h2 := gains hn m h d (it G k e)
    have h3 := gains hn m h (it G k e) d
    have e1 : ((k + 1 : Nat) : Int) * (G d - d) = k * (G d - d) + (G d - d) := by
      rw [Int.natCast_add, Int.add_mul]
      simp
    have e2 : ((k + 1 : Nat) : Int) * ((n : Int) - 1) = k * ((n : Int) - 1) + ((n : Int) - 1) := by
      rw [Int.natCast_add, Int.add_mul]
      simp
    rw [e1, e2]
    show k * (G d - d) + (G d - d) - (G (it G k e) - e) ≤ _ ∧ _ ≤ k * (G d - d) + (G d - d) - (G (it G k e) - e)
    generalize (k : Int) * ((n : Int) - 1) = y at *
    generalize (k : Int) * (G d - d) = x at *
    omega
theorem Rg.many {F : Int → Int} {n u : Nat} {d g : Int} (h : Per F (n : Int)) (r : Rg F n d u g) : ∀ k : Nat, it F (k * u) d = d + k * g
  | 0 => by
    rw [Nat.zero_mul]
    show d = _
    simp
  | k + 1 => by
    have hg : g = g / (n : Int) * (n : Int) := by
      have := Int.emod_add_mul_ediv g (n : Int)
      rw [r.2, Int.mul_comm] at this
      omega
    have e1 : ((k + 1 : Nat) : Int) * g = g + k * g := by
      rw [Int.natCast_add, Int.add_mul]
      simp [Int.add_comm]
    rw [Nat.add_mul, Nat.one_mul, Nat.add_comm, it_add, r.1]
    have h2 := (h.it (k * u)).imul (g / (n : Int)) d
    rw [← hg] at h2
    rw [h2, r.many h k, e1]
    omega
/-- how far uses and gain may be from the ring's pace -/
theorem pace {F : Int → Int} {n u m : Nat} {d g x : Int} (hn : 0 < n) (mo : Mon F) (h : Per F (n : Int)) (hu : 0 < u) (r : Rg F n d u g) : -((u : Int) * n) < u * (it F m x - x) - m * g ∧ u * (it F m x - x) - m * g < (u : Int) * n := by
  have h1 := gains_sum hn (mo.it m) (h.it m) x d u
  rw [← it_mul, r.many h m] at h1
  have e : (u : Int) * ((n : Int) - 1) = u * n - u := by
    rw [Int.mul_sub]
    simp
  rw [e] at h1
  generalize (u : Int) * (it F m x - x) = a at *
  generalize (u : Int) * (n : Int) = b at *
  generalize (m : Int) * g = c at *
  omega
/-- small multiples all along: none -/
theorem bound_zero {a c : Int} (h : ∀ k : Nat, (k : Int) * a < c) : a ≤ 0 := by
  apply Decidable.byContradiction
  intro z
  have h1 := h (c.toNat + 1)
  have h2 : ((c.toNat + 1 : Nat) : Int) * 1 ≤ ((c.toNat + 1 : Nat) : Int) * a := Int.mul_le_mul_of_nonneg_left (by omega) (by omega)
  omega
/-- one pace alone -/
theorem pace_one {F : Int → Int} {n u v : Nat} {d e g k : Int} (hn : 0 < n) (mo : Mon F) (h : Per F (n : Int)) (hu : 0 < u) (r : Rg F n d u g) (s : Rg F n e v k) : (u : Int) * k = v * g := by
  have key : ∀ j : Nat, -((u : Int) * n) < (j : Int) * (u * k - v * g) ∧ (j : Int) * (u * k - v * g) < (u : Int) * n := fun j => by
    have h1 := pace (m := j * v) (x := e) hn mo h hu r
    rw [s.many h j, show e + j * k - e = j * k by omega] at h1
    have e1 : (j : Int) * (u * k - v * g) = u * (j * k) - ((j * v : Nat) : Int) * g := by
      rw [Int.mul_sub, Int.natCast_mul, Int.mul_left_comm, Int.mul_assoc]
    rw [e1]
    exact h1
  have a1 := bound_zero (fun j => (key j).2)
  have a2 := bound_zero (a := -(u * k - v * g)) (c := u * n) (fun j => by
    have := (key j).1
    rw [Int.mul_neg]
    omega)
  omega
/-- the adjoint's pace -/
theorem pace_lat {F L : Int → Int} {n u v : Nat} {d e g k : Int} (hn : 0 < n) (mo : Mon F) (h : Per F (n : Int)) (a : Lat F L) (hu : 0 < u) (hv : 0 < v) (r : Rg F n d u g) (s : Rg L n e v k) : (u : Int) * k = -(v * g) := by
  have hL := a.per h
  have mL := a.mon
  -- both after j * u * v uses
  have key : ∀ j : Nat, (j : Int) * (-(u * k + v * g)) < (v : Int) * n + (v + 1) ∧ (j : Int) * (u * k + v * g) < (v : Int) * n + (v + 1) := fun j => by
    have h1 : it F (j * (u * v)) d = d + j * (v * g) := by
      have := r.many h (j * v)
      rw [Int.natCast_mul, Int.mul_assoc, show j * v * u = j * (u * v) by rw [Nat.mul_assoc, Nat.mul_comm v u]] at this
      exact this
    have h3 := ((a.it (j * (u * v))) d (d + j * (v * g))).mp (by rw [h1]; exact Int.le_refl _)
    have h4 : ¬ d ≤ it L (j * (u * v)) (d + j * (v * g) - 1) := fun z => by
      have := ((a.it (j * (u * v))) d (d + j * (v * g) - 1)).mpr z
      rw [h1] at this
      omega
    have p1 := pace (m := j * (u * v)) (x := d + j * (v * g)) hn mL hL hv s
    have p2 := pace (m := j * (u * v)) (x := d + j * (v * g) - 1) hn mL hL hv s
    have e1 : ((j * (u * v) : Nat) : Int) * k = v * (j * (u * k)) := by
      rw [Int.natCast_mul, Int.natCast_mul]
      rw [Int.mul_assoc, Int.mul_comm (u : Int) (v : Int), Int.mul_assoc, Int.mul_left_comm]
    rw [e1, ← Int.mul_sub] at p1 p2
    have e2 : (v : Int) * n + (v + 1) = v * (n + 1) + 1 := by rw [Int.mul_add]; omega
    have hv2 : (0 : Int) < v := by omega
    have q1 : it L (j * (u * v)) (d + j * (v * g)) - (d + j * (v * g)) - j * (u * k) < n := Int.lt_of_mul_lt_mul_left p1.2 (by omega)
    have q2 : -(n : Int) < it L (j * (u * v)) (d + j * (v * g) - 1) - (d + j * (v * g) - 1) - j * (u * k) := Int.lt_of_mul_lt_mul_left (a := (v : Int)) (by rw [Int.mul_neg]; exact p2.1) (by omega)
    have e3 : (j : Int) * (u * k + v * g) = j * (u * k) + j * (v * g) := Int.mul_add ..
    have e4 : (j : Int) * (-(u * k + v * g)) = -(j * (u * k) + j * (v * g)) := by rw [Int.mul_neg, e3]
    have e5 : (n : Int) ≤ v * n := by
      have := Int.mul_le_mul_of_nonneg_right (show (1 : Int) ≤ v by omega) (show (0 : Int) ≤ n by omega)
      omega
    rw [e3, e4]
    omega
  have a1 := bound_zero (fun j => (key j).1)
  have a2 := bound_zero (fun j => (key j).2)
  omega
end Dy
set_option Elab.async false
set_option linter.all false
namespace Dy
/-- a list of days that makes a rule -/
structure Gd (ds : List Int) : Prop where
  pos : 0 < ds.length
  asc : ∀ i, i + 1 < ds.length → ds.getD i 0 ≤ ds.getD (i + 1) 0
  fin : ds.getD (ds.length - 1) 0 ≤ ds.getD 0 0 + ds.length
theorem faultF_none {ds : List Int} : ∀ (m i : Nat), faultF ds m i = none ↔ ∀ k, i ≤ k → k < i + m → ¬ ds.getD k 0 < ds.getD (k - 1) 0
  | 0, i => ⟨fun _ k h1 h2 => by omega, fun _ => rfl⟩
  | m + 1, i => by
    have e : faultF ds (m + 1) i = if ds.getD i 0 < ds.getD (i - 1) 0 then some i else faultF ds m (i + 1) := rfl
    rw [e]
    by_cases c : ds.getD i 0 < ds.getD (i - 1) 0
    · rw [if_pos c]
      exact ⟨(fun z => by cases z), fun z => absurd c (z i (Nat.le_refl _) (by omega))⟩
    · rw [if_neg c, faultF_none m (i + 1)]
      constructor
      · intro z k h1 h2
        by_cases d : k = i
        · rw [d]
          exact c
        · exact z k (by omega) (by omega)
      · intro z k h1 h2
        exact z k (by omega) (by omega)
theorem Gd.fault {ds : List Int} (g : Gd ds) : Dy.fault ds = none := by
  have h : faultF ds (ds.length - 1) 1 = none := (faultF_none _ _).mpr fun k h1 h2 => by
    have := g.asc (k - 1) (by omega)
    rw [show k - 1 + 1 = k by omega] at this
    omega
  unfold Dy.fault
  rw [h]
  dsimp only
  rw [if_neg]
  have h1 := g.pos
  have h2 := g.fin
  omega
theorem fault_gd {ds : List Int} (h : fault ds = none) : Gd ds := by
  unfold fault at h
  cases e : faultF ds (ds.length - 1) 1 with
  | some i =>
    rw [e] at h
    cases h
  | none =>
    rw [e] at h
    dsimp only at h
    have e := (faultF_none _ _).mp e
    by_cases c : ds.length = 0 ∨ ds.getD 0 0 + ds.length < ds.getD (ds.length - 1) 0
    · rw [if_pos c] at h
      cases h
    · refine ⟨by omega, fun i hi => ?_, by omega⟩
      have := e (i + 1) (by omega) (by omega)
      rw [show i + 1 - 1 = i by omega] at this
      omega
theorem Gd.of {F : Int → Int} {es : List Int} (o : Of F es) (m : Mon F) : Gd es := by
  have hp := o.pos
  refine ⟨hp, fun i hi => ?_, ?_⟩
  · rw [o.at_ i (by omega), o.at_ (i + 1) hi]
    exact m i
  · rw [o.at_ 0 hp, o.at_ _ (show es.length - 1 < es.length by omega)]
    have h1 := m.le (show ((es.length - 1 : Nat) : Int) ≤ 0 + es.length by omega)
    have h2 := o.per 0
    rw [h2] at h1
    exact h1
theorem Mon.dv {ds : List Int} (g : Gd ds) : Mon (Dy.dv ds) := fun d => by
  have := g.asc
  have hp := g.pos
  have hn : 0 < (ds.length : Int) := by omega
  have h1 := Int.emod_nonneg d (show (ds.length : Int) ≠ 0 by omega)
  have h2 := Int.emod_lt_of_pos d hn
  have h3 := Int.emod_add_mul_ediv d (ds.length : Int)
  by_cases c : d % (ds.length : Int) + 1 < ds.length
  · have e1 : (d + 1) % (ds.length : Int) = d % (ds.length : Int) + 1 := by
      rw [Int.add_emod, Int.emod_eq_of_lt (a := 1) (by omega) (by omega), Int.emod_eq_of_lt (by omega) c]
    have e2 : (d + 1) / (ds.length : Int) = d / (ds.length : Int) := by
      have h4 := Int.emod_add_mul_ediv (d + 1) (ds.length : Int)
      rw [e1] at h4
      have h5 : (ds.length : Int) * ((d + 1) / (ds.length : Int)) = (ds.length : Int) * (d / (ds.length : Int)) := by omega
      exact Int.eq_of_mul_eq_mul_left (by omega) h5
    unfold Dy.dv
    rw [e1, e2]
    have := g.asc (d % (ds.length : Int)).toNat (by omega)
    rw [show (d % (ds.length : Int) + 1).toNat = (d % (ds.length : Int)).toNat + 1 by omega]
    omega
  · have e0 : d % (ds.length : Int) = ds.length - 1 := by omega
    have hper := (of_dv hp).per
    have e1 : d + 1 = 0 + (d / (ds.length : Int) + 1) * (ds.length : Int) := by
      rw [Int.add_mul, Int.one_mul, Int.mul_comm (d / _)]
      omega
    have e2 := hper.imul (d / (ds.length : Int) + 1) 0
    rw [← e1] at e2
    have e3 : Dy.dv ds 0 = ds.getD 0 0 := ((of_dv hp).at_ 0 hp).symm
    rw [e2, e3]
    unfold Dy.dv
    rw [e0, show ((ds.length : Int) - 1).toNat = ds.length - 1 by omega]
    have := g.fin
    rw [Int.add_mul, Int.one_mul, Int.mul_comm (ds.length : Int)]
    omega
theorem Gd.near {ds : List Int} (g : Gd ds) : ∀ i, i < ds.length → ds.getD 0 0 ≤ ds.getD i 0 ∧ ds.getD i 0 ≤ ds.getD 0 0 + ds.length := by
  have up : ∀ i j, i + j < ds.length → ds.getD i 0 ≤ ds.getD (i + j) 0 := by
    intro i j
    induction j with
    | zero => intro _; exact Int.le_refl _
    | succ j ih =>
      intro h
      have h1 := ih (by omega)
      have h2 := g.asc (i + j) (by omega)
      rw [show i + (j + 1) = i + j + 1 by omega]
      omega
  intro i hi
  have h1 := up 0 i (by omega)
  have h2 := up i (ds.length - 1 - i) (by omega)
  rw [show i + (ds.length - 1 - i) = ds.length - 1 by omega] at h2
  rw [Nat.zero_add] at h1
  have := g.fin
  omega
theorem it_near {F : Int → Int} {B : Nat} (h : ∀ d, (F d - d).natAbs ≤ B) : ∀ (k : Nat) (d : Int), (it F k d - d).natAbs ≤ k * B
  | 0, d => by
    show (d - d).natAbs ≤ _
    rw [Int.sub_self]
    exact Nat.zero_le _
  | k + 1, d => by
    have h1 := it_near h k d
    have h2 := h (it F k d)
    have e : (k + 1) * B = k * B + B := by rw [Nat.add_mul, Nat.one_mul]
    rw [e]
    show (F (it F k d) - d).natAbs ≤ _
    generalize k * B = z at *
    omega
theorem dv_near {ds : List Int} {B : Nat} (hp : 0 < ds.length) (h : ∀ i, i < ds.length → (ds.getD i 0).natAbs ≤ B) (d : Int) : (dv ds d - d).natAbs ≤ B + ds.length := by
  have hn : 0 < (ds.length : Int) := by omega
  have h1 := Int.emod_nonneg d (show (ds.length : Int) ≠ 0 by omega)
  have h2 := Int.emod_lt_of_pos d hn
  have h3 := Int.emod_add_mul_ediv d (ds.length : Int)
  have h4 := h (d % (ds.length : Int)).toNat (by omega)
  unfold Dy.dv
  generalize (ds.length : Int) * (d / (ds.length : Int)) = y at *
  generalize ds.getD (d % (ds.length : Int)).toNat 0 = x at *
  omega
/-- from a repetition of rests the end is found at once -/
theorem it_jump {F : Int → Int} {n u k c : Nat} {d : Int} (h : Per F (n : Int)) (huk : u < k) (hkc : k ≤ c) (hr : it F u d % (n : Int) = it F k d % (n : Int)) : it F c d = it F ((c - k) % (k - u)) (it F k d + (it F k d - it F u d) * (((c - k) / (k - u) : Nat) : Int)) := by
  have r : Rg F n (it F u d) (k - u) (it F k d - it F u d) := by
    refine ⟨?_, ?_⟩
    · rw [← it_add, show u + (k - u) = k by omega]
      omega
    · rw [Int.sub_emod, hr, Int.sub_self]
      rfl
  have e1 := r.many h ((c - k) / (k - u) + 1)
  have e2 : c = u + ((c - k) / (k - u) + 1) * (k - u) + (c - k) % (k - u) := by
    have := Nat.div_add_mod (c - k) (k - u)
    have e3 : ((c - k) / (k - u) + 1) * (k - u) = (k - u) * ((c - k) / (k - u)) + (k - u) := by rw [Nat.add_mul, Nat.one_mul, Nat.mul_comm]
    omega
  have e4 : it F c d = it F ((c - k) % (k - u)) (it F (((c - k) / (k - u) + 1) * (k - u)) (it F u d)) := by
    rw [← it_add, ← it_add]
    congr 1
    omega
  rw [e4, e1]
  congr 1
  rw [Int.natCast_add, Int.add_mul, Int.mul_comm (((c - k) / (k - u) : Nat) : Int)]
  generalize (it F k d - it F u d) * (((c - k) / (k - u) : Nat) : Int) = z
  omega
theorem natAbs_two {x : Int} {B : Nat} (h : x.natAbs ≤ B) : -(B : Int) ≤ x ∧ x ≤ B := by omega
end Dy
set_option Elab.async false
set_option linter.all false
set_option maxRecDepth 100000
set_option maxHeartbeats 4000000
namespace Z
open PySem PySem.Spec PyProof.Rows L2
/-! ### comprehensions that give ints, over a list of ints and over a range -/
theorem lc_ofs {K : PySem.W.Frag} {J : It} {D : Addr} {n : Nat} {H0 : Hp} {i : Nat} {te : TE} {vs : List Nat} {σ : L2.St} {Qd : Hp → Prop} (g : Nat → Int) (xv : Nat → V) (hn : n ≤ 1000000) (nD : H0 D = none)
    (hgo : ∀ k H1, k < n → Same H0 H1 → J.go k H1) (hst : ∀ H1, Same H0 H1 → J.stop n H1) (hy : ∀ k H1 x H2, k < n → Same H0 H1 → J.yld k H1 x H2 → H2 = H1 ∧ x = xv k)
    (hw : ∀ k, wipe ((wipe σ vs).set i (some (xv k))) vs = wipe σ vs)
    (ht : ∀ k H1 (Q : VK), k < n → Same H0 H1 → (∀ H2, Same H1 H2 → Q (.int (g k)) H2) → te ((wipe σ vs).set i (some (xv k))) H1 Q)
    (hd : ∀ H1, Same H0 H1 → H1 D = some (.lst (((List.range n).map g).map V.int)) → Qd H1) : lcW J (gName i) tYes te vs σ D Qd H0 := by
  refine lc_gen (n := n) (fun k H1 => Same H0 H1 ∧ H1 D = some (.lst (((List.range k).map g).map V.int))) ⟨same_new nD, upd_same⟩ (fun k H1 hk p => hgo k H1 hk p.1) (fun H1 p => hst H1 p.1) ?_ (fun H1 p => hd H1 p.1 p.2)
  rintro k H1 x H2 hk ⟨s, e⟩ y
  obtain ⟨rfl, rfl⟩ := hy k H1 x H2 hk s y
  refine ⟨hw k, ?_⟩
  refine ht k _ _ hk s (fun H3 s3 => ⟨_, s3 _ _ e, ?_, Z.Same.mut (s.trans s3) nD, ?_⟩)
  · rw [List.length_map, List.length_map, List.length_range]
    exact Nat.lt_of_lt_of_le hk (Nat.le_trans hn (by decide))
  · rw [upd_same, List.range_succ, List.map_append, List.map_append]
    rfl
theorem lc_rng {K : PySem.W.Frag} {lo : Int} {D : Addr} {n : Nat} {H0 : Hp} {i : Nat} {te : TE} {vs : List Nat} {σ : L2.St} {Qd : Hp → Prop} (g : Nat → Int) (hn : n ≤ 1000000) (nD : H0 D = none) (hw : ∀ k : Nat, wipe ((wipe σ vs).set i (some (.int (lo + k)))) vs = wipe σ vs)
    (ht : ∀ (k : Nat) H1 (Q : VK), k < n → Same H0 H1 → (∀ H2, Same H1 H2 → Q (.int (g k)) H2) → te ((wipe σ vs).set i (some (.int (lo + k)))) H1 Q)
    (hd : ∀ H1, Same H0 H1 → H1 D = some (.lst (((List.range n).map g).map V.int)) → Qd H1) : lcW (Itr lo n) (gName i) tYes te vs σ D Qd H0 :=
  lc_ofs (K := K) g (fun k => .int (lo + k)) hn nD (fun k H1 hk _ => hk) (fun H1 _ => Nat.le_refl _) (fun k H1 x H2 _ _ y => y) hw ht hd
theorem lc_lst {K : PySem.W.Frag} {a D : Addr} {xs : List Int} {H0 : Hp} {i : Nat} {te : TE} {vs : List Nat} {σ : L2.St} {Qd : Hp → Prop} (hS : SqL K H0 a (xs.map V.int)) (g : Int → Int) (hn : xs.length ≤ 1000000) (nD : H0 D = none) (hw : ∀ x : Int, wipe ((wipe σ vs).set i (some (.int x))) vs = wipe σ vs)
    (ht : ∀ x H1 (Q : VK), x ∈ xs → Same H0 H1 → (∀ H2, Same H1 H2 → Q (.int (g x)) H2) → te ((wipe σ vs).set i (some (.int x))) H1 Q)
    (hd : ∀ H1, Same H0 H1 → H1 D = some (.lst ((xs.map g).map V.int)) → Qd H1) : lcW (Itl K a) (gName i) tYes te vs σ D Qd H0 := by
  have ex : ∀ k, k < xs.length → (xs.map V.int)[k]? = some (.int (xs.getD k 0)) := fun k hk => by
    rw [List.getElem?_map, List.getD_eq_getElem?_getD, List.getElem?_eq_getElem hk]
    rfl
  refine lc_ofs (K := K) (n := xs.length) (fun k => g (xs.getD k 0)) (fun k => .int (xs.getD k 0)) hn nD (fun k H1 hk s => ⟨_, _, s.seq hS, ex k hk⟩) (fun H1 s => ⟨_, s.seq hS, by rw [List.length_map]; exact Nat.le_refl _⟩) (fun k H1 x H2 hk s y => ⟨y.1, Option.some.inj ((y.2 _ (s.seq hS)).symm.trans (ex k hk))⟩) (fun k => hw _) (fun k H1 Q hk s q => ht _ H1 Q ?_ s q) (fun H1 s e => hd H1 s ?_)
  · rw [List.getD_eq_getElem?_getD, List.getElem?_eq_getElem hk]
    exact List.getElem_mem hk
  · rw [e]
    congr 2
    congr 1
    apply List.ext_getElem
    · rw [List.length_map, List.length_map, List.length_range]
    · intro k h1 h2
      rw [List.length_map] at h2
      rw [List.getElem_map, List.getElem_map, List.getElem_range, List.getD_eq_getElem?_getD, List.getElem?_eq_getElem h2]
      rfl
/-- for x in xs, ints -/
theorem for_lst {K : PySem.W.Frag} {a : Addr} {xs : List Int} {H0 H : Hp} {i : Nat} {tb : TS} {D : Ends} {σ : L2.St} (hS : SqL K H0 a (xs.map V.int)) (Pv : Nat → L2.St → Hp → Prop) (h0 : Pv 0 σ H) (hq : ∀ k σ H1, Pv k σ H1 → Same H0 H1)
    (hs : ∀ (k : Nat) (x : Int) (σ : L2.St) (H1 : Hp), xs[k]? = some x → Pv k σ H1 → tb { D with nx := Pv (k + 1), ct := Pv (k + 1), bk := D.nx } (σ.set i (some (.int x))) H1)
    (hd : ∀ σ H1, Pv xs.length σ H1 → D.nx σ H1) : forW (Itl K a) (gName i) tb D σ H := by
  have ex : ∀ k, k < xs.length → (xs.map V.int)[k]? = some (.int (xs.getD k 0)) := fun k hk => by
    rw [List.getElem?_map, List.getD_eq_getElem?_getD, List.getElem?_eq_getElem hk]
    rfl
  refine for_gen (n := xs.length) Pv h0 (fun k σ H1 hk p => ⟨_, _, (hq k σ H1 p).seq hS, ex k hk⟩) (fun σ H1 p => ⟨_, (hq _ σ H1 p).seq hS, by rw [List.length_map]; exact Nat.le_refl _⟩) ?_ hd
  intro k σ H1 x H2 hk p y
  obtain ⟨rfl, e⟩ := y
  have e2 := Option.some.inj ((e _ ((hq k σ _ p).seq hS)).symm.trans (ex k hk))
  subst e2
  refine hs k _ σ _ ?_ p
  rw [List.getD_eq_getElem?_getD, List.getElem?_eq_getElem hk]
  rfl
/-- for x in xs, any values -/
theorem for_vs {K : PySem.W.Frag} {a : Addr} {xs : List V} {H0 H : Hp} {i : Nat} {tb : TS} {D : Ends} {σ : L2.St} (hS : SqL K H0 a xs) (Pv : Nat → L2.St → Hp → Prop) (h0 : Pv 0 σ H) (hq : ∀ k σ H1, Pv k σ H1 → Same H0 H1)
    (hs : ∀ (k : Nat) (x : V) (σ : L2.St) (H1 : Hp), xs[k]? = some x → Pv k σ H1 → tb { D with nx := Pv (k + 1), ct := Pv (k + 1), bk := D.nx } (σ.set i (some x)) H1)
    (hd : ∀ σ H1, Pv xs.length σ H1 → D.nx σ H1) : forW (Itl K a) (gName i) tb D σ H := by
  refine for_gen (n := xs.length) Pv h0 (fun k σ H1 hk p => ⟨_, _, (hq k σ H1 p).seq hS, List.getElem?_eq_getElem hk⟩) (fun σ H1 p => ⟨_, (hq _ σ H1 p).seq hS, Nat.le_refl _⟩) ?_ hd
  intro k σ H1 x H2 hk p y
  obtain ⟨rfl, e⟩ := y
  exact hs k x σ _ (e _ ((hq k σ _ p).seq hS)) p
theorem pe_fld_K {X : Cx} {K : PySem.W.Frag} {e : Expr} {f : Str} {pos : Pos} {ta : TE} (h : X.K = K) (he : PE X e ta) (hb : attributeBase e f X.env (eval e X.env) = eval e X.env) : PE X (.Attribute e f pos) (tFld K ta f) := by
  subst h
  exact pe_fld he hb
/-! ### reads -/
theorem at_nat {xs : List Int} {i : Int} (h0 : 0 ≤ i) (h1 : i < xs.length) : atI (xs.map V.int) i = some (.int (xs.getD i.toNat 0)) := by
  have hk : i.toNat < xs.length := by omega
  rw [show i = ((i.toNat : Nat) : Int) by omega, List.getD_eq_getElem?_getD, Int.toNat_natCast, List.getElem?_eq_getElem hk]
  exact at_map (List.getElem?_eq_getElem hk)
theorem rd_at {K : PySem.W.Frag} {H : Hp} {a : Addr} {xs : List Int} {i : Int} {R : V → Prop} (h : SqL K H a (xs.map V.int)) (h0 : 0 ≤ i) (h1 : i < xs.length) (q : R (.int (xs.getD i.toNat 0))) : ∃ a' ys j v, V.ref a = .ref a' ∧ V.int i = .int j ∧ SqL K H a' ys ∧ atI ys j = some v ∧ R v := ⟨a, _, i, _, rfl, rfl, h, at_nat h0 h1, q⟩
theorem rd_atT {K : PySem.W.Frag} {H : Hp} {a : Addr} {xs : List Int} {i : Int} {R : V → Prop} (h : SqT K H a (xs.map V.int)) (h0 : 0 ≤ i) (h1 : i < xs.length) (q : R (.int (xs.getD i.toNat 0))) : ∃ a' ys j v, V.ref a = .ref a' ∧ V.int i = .int j ∧ SqT K H a' ys ∧ atI ys j = some v ∧ R v := ⟨a, _, i, _, rfl, rfl, h, at_nat h0 h1, q⟩
end Z
set_option Elab.async false
set_option linter.all false
set_option maxRecDepth 100000
set_option maxHeartbeats 4000000
namespace Z
open PySem PySem.Spec PyProof.Rows L2
/-! ### enumerate(x) of one argument: x a list, a tuple or a text -/
theorem enum_new1 {v : Value} {o : Obj} {G : Heap → Prop} (B : Begins v o G) :
    Meets (Builtin.«enumerate.__new__» ⟨[.type "enumerate", v], []⟩) (fun _ R s => G s.heap ∧
      R (.ok (.ret (.ref (s.heap.push o).objs.size))) { s with heap := (s.heap.push o).push { cls := .type "enumerate", data := .fields #[.none, .bool false, .ref s.heap.objs.size, rawInt 0, .none, .none] } }) :=
  .of_wp fun prog w A R s h => by
    obtain ⟨hp, gl, dd, tok, oo⟩ := s
    obtain ⟨g1, h⟩ := h
    have hsub := sub_enumerate
    have step : ∀ {A' : Around} {E : Value → Shared → Prop} {Q : Value → Shared → Prop}, Q (.ref hp.objs.size) ⟨hp.push o, gl, dd, tok, oo⟩ → wpAny (model prog w) A' (pyIter v) Q E ⟨hp, gl, dd, tok, oo⟩ := fun z => B.iter prog w _ _ ⟨hp, gl, dd, tok, oo⟩ _ g1 z
    wp_walk using step
    refine wpAny_stack_any fun _ => wpAny_pure ?_
    split
    · rename_i cc _ _ _ _ _
      cases (cc == Value.type "enumerate") <;>
        (wp_walk using step
         exact ⟨_, rfl, h⟩)
    · wp_walk using step
      exact ⟨_, rfl, h⟩
section
variable {prog : Program} {w : World} {A : Around} {E : Value → Shared → Prop} {s : Shared}
theorem enum_begins1 {v : Value} {o : Obj} {G : Heap → Prop} {Q : Value → Shared → Prop} (B : Begins v o G) (g : G s.heap)
    (h : ∀ h', IsEnum h' (s.heap.objs.size + 1) s.heap.objs.size 0 .none → h'.get? s.heap.objs.size = some o → (∀ b ob, s.heap.get? b = some ob → h'.get? b = some ob) → Q (.ref (s.heap.objs.size + 1)) { s with heap := h' }) :
    wpAny (model prog w) A (call (.type "enumerate") [v]) Q E s := by
  refine callType_new F.called_enumerate (by decide) (F.typeCall_enumerate_1 v) (F.newCall_enumerate_1 v) (fun ob => F.args_object_init_2 ob _) F.entry_enumerate_new (enum_new1 B) ⟨g, ?_⟩
  have sz : (s.heap.push o).objs.size = s.heap.objs.size + 1 := Heap.size_push ..
  show _ ∧ _
  rw [sz]
  have ie : IsEnum ((s.heap.push o).push { cls := .type "enumerate", data := .fields #[.none, .bool false, .ref s.heap.objs.size, rawInt 0, .none, .none] }) (s.heap.objs.size + 1) s.heap.objs.size 0 .none := by
    have z := Heap.get?_push_size (s.heap.push o) (o := { cls := .type "enumerate", data := .fields #[.none, .bool false, .ref s.heap.objs.size, rawInt 0, .none, .none] }) rfl
    rw [sz] at z
    exact z
  exact ⟨⟨_, ie, rfl⟩, h _ ie (Heap.get?_push_of_some _ (Heap.get?_push_size _ B.free)) fun b ob z => Heap.get?_push_of_some _ (Heap.get?_push_of_some _ z)⟩
end
/-- pairs of a turn's number and its item -/
def ItEM (p : Bool) (K : PySem.W.Frag) (a : Addr) : It :=
  ⟨fun i H => ∃ (xs : List V) (x : V), SqK p K H a xs ∧ xs[i]? = some x,
   fun i H v H' => ∃ T x, v = .ref T ∧ H T = none ∧ H' = upd H T (.tup [.int (i : Nat), x]) ∧ (∀ xs, SqK p K H a xs → xs[i]? = some x),
   fun i H => ∃ xs : List V, SqK p K H a xs ∧ xs.length = i⟩
def ItES (z : Str) : It :=
  ⟨fun i _ => i < z.cps.size,
   fun i H v H' => ∃ T c, v = .ref T ∧ H T = none ∧ H' = upd H T (.tup [.int (i : Nat), .str ⟨#[c]⟩]) ∧ z.cps[i]? = some c,
   fun i _ => z.cps.size = i⟩
theorem enum_item {X : Cx} {pins : List (Addr × Obj)} {σ : L2.St} {H : Hp} {s : Shared} {e it : Addr} {fp : List Addr} {n i : Nat} {Pi : Nat → Value → Prop} {Si : Nat → Heap → Prop} {old : Value} {elts : List Expr} {kk : Nat} {tpos : Pos} {E : Value → Shared → Prop}
    (I : Inv X pins σ H s) (hf : ∀ b ∈ [e, it], FpOk X pins H b) (D : Draws X.prog X.w X.A.in1 it fp n Pi Si) (he : IsEnum s.heap e it ((i : Nat) : Int) old) (st : Si i s.heap) (lt : i < n) (ne : e ≠ it) (ef : e ∉ fp)
    (x : V) (ru : ∀ v, Pi i v → L2.RelV x v) :
    wpAny (model X.prog X.w) X.A (pyNext (.ref e)) (fun r s1 => ∃ u, r = some u ∧ wpAny (model X.prog X.w) X.A (letOwnedTupleGo (.Tuple elts kk tpos) (.ref e) u) (fun _ s2 => ∃ T, u = .ref T ∧ H T = none ∧ Inv X pins σ (upd H T (.tup [.int (i : Nat), x])) s2 ∧ (∃ o, IsEnum s2.heap e it ((i + 1 : Nat) : Int) o) ∧ Si (i + 1) s2.heap ∧ ∀ b ∈ [e, it], upd H T (.tup [.int (i : Nat), x]) b = none) E s1) E s := by
  have el : e < s.heap.objs.size := Heap.lt_size he
  have il : it < s.heap.objs.size := by
    obtain ⟨_, z⟩ := D.live _ _ st
    exact Heap.lt_size z
  refine wpAny_pyNext_enum_itemC D he st lt ne ef fun v g tk pv go st' gT gs gk => ?_
  refine ⟨_, rfl, wpAny_letOwnedTupleGo_enum (s := { s with heap := g, toks := tk + 1 }) go fun g2 ge sb => ?_⟩
  have gT2 : g2.get? s.heap.objs.size = some { cls := .type "tuple", data := .seq #[.int i tk, v] } := (sb.2 _ (Nat.ne_of_gt el)).trans gT
  have nw : ObjOk X.prog X.w (upd H s.heap.objs.size (.tup [.int (i : Nat), x])) g2 s.heap.objs.size (.tup [.int (i : Nat), x]) := ⟨by show 2 ≤ sizeLine; decide, [.int i tk, v], .cons ⟨tk, rfl⟩ (.cons (ru v pv) .nil), ⟨_, gT2, rfl, _, rfl⟩⟩
  have I1 : Inv X pins σ (upd H s.heap.objs.size (.tup [.int (i : Nat), x])) { s with heap := g2, toks := tk + 1 } :=
    I.turnedNew (t' := tk + 1) (ch := [e, it]) (fun b ob nb z => (sb.2 b (fun w => nb (by simp [w]))).trans (gk b ob (fun w => nb (by simp [w])) (fun w => nb (by simp [w])) z)) hf (Nat.le_refl _) nw
  refine ⟨_, rfl, I.hok.fresh (Nat.le_refl _), I1, ⟨v, ?_⟩, D.frame _ _ _ st' fun b hb o z => (sb.2 b fun w => ef (w ▸ hb)).trans z, fun b hb => ?_⟩
  · rw [show ((i + 1 : Nat) : Int) = (i : Int) + 1 by omega]
    exact ge
  · have lb : b < s.heap.objs.size := by
      rcases (show b = e ∨ b = it by simpa using hb) with z | z
      · rw [z]
        exact el
      · rw [z]
        exact il
    rw [upd_ne (Nat.ne_of_lt lb)]
    exact (hf b hb).1
theorem enum_done {X : Cx} {pins : List (Addr × Obj)} {σ : L2.St} {H : Hp} {s : Shared} {e it : Addr} {fp : List Addr} {n : Nat} {Pi : Nat → Value → Prop} {Si : Nat → Heap → Prop} {old : Value} {c : Int} {E : Value → Shared → Prop}
    (I : Inv X pins σ H s) (hf : ∀ b ∈ [e, it], FpOk X pins H b) (D : Draws X.prog X.w X.A.in1 it fp n Pi Si) (he : IsEnum s.heap e it c old) (st : Si n s.heap) :
    wpAny (model X.prog X.w) X.A (pyNext (.ref e)) (fun r s1 => r = none ∧ Inv X pins σ H s1) E s := by
  obtain ⟨f0, f1, f2, f3, f4, f5⟩ := hf it (by simp)
  exact wpAny_pyNext_enum_endD D he st fun g gk => ⟨rfl, I.turned (t' := s.toks) (fun b o hb z => gk b o hb z) f0 f1 f3 f4 f5⟩
theorem turn_enumM {p : Bool} {P : Program} {w : World} {K : PySem.W.Frag} {elts : List Expr} {kk : Nat} {tpos : Pos} (a e it : Addr) (ea : e ≠ a) (ia : a ≠ it) :
    Turn P w K (.Tuple elts kk tpos) (ItEM p K a) [e, it] e (fun i h => (∃ old, IsEnum h e it ((i : Nat) : Int) old) ∧ ItK p h it a i ∧ e ≠ it) where
  mem := by simp
  obj := fun i h st b hb => by
    obtain ⟨⟨old, he⟩, hi, _⟩ := st
    rcases (show b = e ∨ b = it by simpa using hb) with z | z
    · rw [z]
      exact ⟨_, he, fun v q => nomatch q⟩
    · rw [z]
      exact hi.obj
  keep := fun i h h' st k => by
    obtain ⟨⟨old, he⟩, hi, ne⟩ := st
    exact ⟨⟨old, k e (by simp) _ he⟩, hi.at' (fun o z => k it (by simp) o z), ne⟩
  item := by
    intro X hP hw hK hc i pins s σ H E I hf st hg
    subst hP hw hK
    obtain ⟨⟨old, he⟩, hi, ne⟩ := st
    obtain ⟨xs, x, qx, ex⟩ := hg
    obtain ⟨us, rx, kx, _⟩ := sqk_is I qx
    obtain ⟨u, eu, ru⟩ := rx.get ex
    have lu : i < us.toArray.size := by simpa using (List.getElem?_eq_some_iff.mp eu).1
    have hh : X.A.in1.handled = none := I.ok.hd hc
    have key : ∀ v, us.toArray[i]? = some v → L2.RelV x v := fun v pv => by
      have t1 : us.toArray[i]? = some u := by simpa using eu
      have t2 : u = v := Option.some.inj (t1.symm.trans pv)
      exact t2 ▸ ru
    refine thn (enum_item (elts := elts) (kk := kk) (tpos := tpos) (E := E) I hf (drawsK p hh it a ia us.toArray) he ⟨hi, kx⟩ lu ne (by simp [ne, ea]) x key) fun r s1 hr => ?_
    obtain ⟨v, er, hv⟩ := hr
    refine ⟨v, er, thn hv fun _ s2 z => ?_⟩
    obtain ⟨T, eT, nT, I2, ie, si, fr⟩ := z
    subst eT
    exact ⟨.ref T, _, I2, rfl, ⟨T, x, rfl, nT, rfl, fun l hl => by rw [sqk_inj I hl qx]; exact ex⟩, ⟨ie, si.1, ne⟩, fr⟩
  done := by
    intro X hP hw hK hc i pins s σ H E I hf st hg
    subst hP hw hK
    obtain ⟨⟨old, he⟩, hi, ne⟩ := st
    obtain ⟨xs, qx, el⟩ := hg
    obtain ⟨us, rx, kx, _⟩ := sqk_is I qx
    have lx := rx.length
    have hh : X.A.in1.handled = none := I.ok.hd hc
    have hn : us.toArray.size = i := by
      rw [List.size_toArray]
      omega
    exact enum_done I hf (drawsK p hh it a ia us.toArray) he (by rw [hn]; exact ⟨hi, kx⟩)
  self := fun A i s Q E st h => by
    obtain ⟨⟨_, he⟩, _⟩ := st
    exact wpAny_pyIter_enum he h
def iEnumM (K : PySem.W.Frag) (ta : TA) : TI := fun σ H R => ta σ H fun vs H1 => ∃ p a xs, vs = [.ref a] ∧ SqK p K H1 a xs ∧ R (ItEM p K a) H1
theorem pi_enumM {X : Cx} {e : Expr} {ta : TA} {p pos tpos : Pos} {elts : List Expr} {kk : Nat} (hg : Gl X "enumerate") (hm : X.mg "enumerate" = none) (ha : PA X [e] ta) (hs : starEach [e] X.env = [(false, eval e X.env)] := by rfl) :
    PI X (.Tuple elts kk tpos) (.Call (.Name "enumerate" p) [e] [] pos) (iEnumM X.K ta) := by
  constructor
  intro pins s σ H R I h
  refine Call_ (ld_blt I hg hm PyProof.Rows.boot_enumerate (PyProof.Rows.callWith_type1 (thn (ha.run pos pins s σ H _ I h) fun us s1 ⟨vs, H1, I1, r1, q1⟩ => ?_) hs rfl))
  obtain ⟨k1, a, xs, ex, qx, q⟩ := q1
  subst ex
  cases r1 with
  | cons r rr =>
    cases rr
    cases r
    obtain ⟨i1, _, p1, lt1⟩ := sqk_is I1 qx
    obtain ⟨o1, G1, B1, g1, w1⟩ := begK p1
    refine enum_begins1 B1 g1 fun h' he e1 hk => wpAny_pyIter_enum he ?_
    have I2 : Inv X pins σ H1 { s1 with heap := h' } := I1.kept (t' := s1.toks) hk
    refine ⟨s1.heap.objs.size + 1, [s1.heap.objs.size + 1, s1.heap.objs.size], _, _, H1, rfl, I2, turn_enumM a (s1.heap.objs.size + 1) s1.heap.objs.size (Nat.ne_of_gt (Nat.lt_succ_of_lt lt1)) (Nat.ne_of_lt lt1), ⟨⟨.none, he⟩, w1 _ _ e1, Nat.succ_ne_self _⟩, fun b hb => ?_, q⟩
    have lb : s1.heap.objs.size ≤ b := by
      rcases (show b = s1.heap.objs.size + 1 ∨ b = s1.heap.objs.size by simpa using hb) with z | z
      · rw [z]
        exact Nat.le_add_right _ _
      · rw [z]
        exact Nat.le_refl _
    exact I1.fpOk lb (I1.hok.fresh lb)
/-! over a text -/
theorem drawsS {prog : Program} {w : World} {A : Around} (hh : A.handled = none) (it : Addr) (z : Str) (t : Tok) :
    Draws prog w A it [it] z.cps.size (fun i v => ∃ c u, z.cps[i]? = some c ∧ v = .str ⟨#[c]⟩ u) (fun i h => h.IsStrIter it (strIterType z) z t i) := by
  unfold strIterType
  cases z.cps.all (· < 128)
  · exact Draws.strWide hh it z t
  · exact Draws.strAscii hh it z t
theorem turn_enumS {P : Program} {w : World} {K : PySem.W.Frag} {elts : List Expr} {kk : Nat} {tpos : Pos} (z : Str) (t : Tok) (e it : Addr) :
    Turn P w K (.Tuple elts kk tpos) (ItES z) [e, it] e (fun i h => (∃ old, IsEnum h e it ((i : Nat) : Int) old) ∧ h.IsStrIter it (strIterType z) z t i ∧ e ≠ it) where
  mem := by simp
  obj := fun i h st b hb => by
    obtain ⟨⟨old, he⟩, ⟨o, eo, _, d⟩, _⟩ := st
    rcases (show b = e ∨ b = it by simpa using hb) with y | y
    · rw [y]
      exact ⟨_, he, fun v q => nomatch q⟩
    · rw [y]
      exact ⟨o, eo, fun v q => by rw [d] at q; cases q⟩
  keep := fun i h h' st k => by
    obtain ⟨⟨old, he⟩, ⟨o, eo, r⟩, ne⟩ := st
    exact ⟨⟨old, k e (by simp) _ he⟩, ⟨o, k it (by simp) o eo, r⟩, ne⟩
  item := by
    intro X hP hw hK hc i pins s σ H E I hf st hg
    subst hP hw hK
    obtain ⟨⟨old, he⟩, hi, ne⟩ := st
    have lt : i < z.cps.size := hg
    have hh : X.A.in1.handled = none := I.ok.hd hc
    have ec : z.cps[i]? = some z.cps[i] := Array.getElem?_eq_getElem lt
    refine thn (enum_item (elts := elts) (kk := kk) (tpos := tpos) (E := E) I hf (drawsS hh it z t) he hi lt ne (by simp [ne]) (.str ⟨#[z.cps[i]]⟩) (fun v pv => ?_)) fun r s1 hr => ?_
    · obtain ⟨c, u, e1, e2⟩ := pv
      rw [ec] at e1
      cases e1
      subst e2
      exact ⟨u, rfl⟩
    obtain ⟨v, er, hv⟩ := hr
    refine ⟨v, er, thn hv fun _ s2 y => ?_⟩
    obtain ⟨T, eT, nT, I2, ie, si, fr⟩ := y
    subst eT
    exact ⟨.ref T, _, I2, rfl, ⟨T, _, rfl, nT, rfl, ec⟩, ⟨ie, si, ne⟩, fr⟩
  done := by
    intro X hP hw hK hc i pins s σ H E I hf st hg
    subst hP hw hK
    obtain ⟨⟨old, he⟩, hi, ne⟩ := st
    have el : z.cps.size = i := hg
    have hh : X.A.in1.handled = none := I.ok.hd hc
    exact enum_done I hf (drawsS hh it z t) he (by rw [el]; exact hi)
  self := fun A i s Q E st h => by
    obtain ⟨⟨_, he⟩, _⟩ := st
    exact wpAny_pyIter_enum he h
def iEnumS (ta : TA) : TI := fun σ H R => ta σ H fun vs H1 => ∃ z, vs = [.str z] ∧ R (ItES z) H1
theorem pi_enumS {X : Cx} {e : Expr} {ta : TA} {p pos tpos : Pos} {elts : List Expr} {kk : Nat} (hg : Gl X "enumerate") (hm : X.mg "enumerate" = none) (ha : PA X [e] ta) (hs : starEach [e] X.env = [(false, eval e X.env)] := by rfl) :
    PI X (.Tuple elts kk tpos) (.Call (.Name "enumerate" p) [e] [] pos) (iEnumS ta) := by
  constructor
  intro pins s σ H R I h
  refine Call_ (ld_blt I hg hm PyProof.Rows.boot_enumerate (PyProof.Rows.callWith_type1 (thn (ha.run pos pins s σ H _ I h) fun us s1 ⟨vs, H1, I1, r1, q1⟩ => ?_) hs rfl))
  obtain ⟨z, ex, q⟩ := q1
  subst ex
  cases r1 with
  | cons r rr =>
    cases rr
    obtain ⟨t, rfl⟩ := r
    refine enum_begins1 (begins_text z t) trivial fun h' he e1 hk => wpAny_pyIter_enum he ?_
    have I2 : Inv X pins σ H1 { s1 with heap := h' } := I1.kept (t' := s1.toks) hk
    refine ⟨s1.heap.objs.size + 1, [s1.heap.objs.size + 1, s1.heap.objs.size], _, _, H1, rfl, I2, turn_enumS z t (s1.heap.objs.size + 1) s1.heap.objs.size, ⟨⟨.none, he⟩, ⟨_, e1, rfl, rfl⟩, Nat.succ_ne_self _⟩, fun b hb => ?_, q⟩
    have lb : s1.heap.objs.size ≤ b := by
      rcases (show b = s1.heap.objs.size + 1 ∨ b = s1.heap.objs.size by simpa using hb) with y | y
      · rw [y]
        exact Nat.le_add_right _ _
      · rw [y]
        exact Nat.le_refl _
    exact I1.fpOk lb (I1.hok.fresh lb)
end Z
set_option Elab.async false
set_option linter.all false
set_option maxRecDepth 100000
set_option maxHeartbeats 4000000
namespace Z
open PySem PySem.Spec PyProof.Rows L2
/-! ### walks over a list (true) or a tuple (false) -/
inductive SeqOr (A B : Prop) : Prop
  | l : A → SeqOr A B
  | r : B → SeqOr A B
def iSeq (K : PySem.W.Frag) (tl : TE) : TI := fun σ H R => SeqOr (iList K tl σ H R) (iTup K tl σ H R)
theorem pi_sq {X : Cx} {tg l : Expr} {tl : TE} (he : PE X l tl) : PI X tg l (iSeq X.K tl) := by
  constructor
  intro pins s σ H R I h
  rcases h with h | h
  · exact (pi_list he).run pins s σ H R I h
  · exact (pi_tup he).run pins s σ H R I h
theorem pi_sq_K {X : Cx} {K : PySem.W.Frag} {tg l : Expr} {tl : TE} (h : X.K = K) (he : PE X l tl) : PI X tg l (iSeq K tl) := by
  subst h
  exact pi_sq he
theorem pi_list_K {X : Cx} {K : PySem.W.Frag} {tg l : Expr} {tl : TE} (h : X.K = K) (he : PE X l tl) : PI X tg l (iList K tl) := by
  subst h
  exact pi_list he
theorem pi_tup_K {X : Cx} {K : PySem.W.Frag} {tg l : Expr} {tl : TE} (h : X.K = K) (he : PE X l tl) : PI X tg l (iTup K tl) := by
  subst h
  exact pi_tup he
def ItQ (b : Bool) (K : PySem.W.Frag) (a : Addr) : It := match b with
  | true => Itl K a
  | false => Itt K a
theorem itq_go {b : Bool} {K : PySem.W.Frag} {H : Hp} {a : Addr} {xs : List V} {i : Nat} {x : V} (h : SqK b K H a xs) (e : xs[i]? = some x) : (ItQ b K a).go i H := by
  cases b <;> exact ⟨_, _, h, e⟩
theorem itq_stop {b : Bool} {K : PySem.W.Frag} {H : Hp} {a : Addr} {xs : List V} {i : Nat} (h : SqK b K H a xs) (e : xs.length ≤ i) : (ItQ b K a).stop i H := by
  cases b <;> exact ⟨_, h, e⟩
theorem itq_yld {b : Bool} {K : PySem.W.Frag} {H H' : Hp} {a : Addr} {xs : List V} {i : Nat} {x : V} (h : SqK b K H a xs) (y : (ItQ b K a).yld i H x H') : H' = H ∧ xs[i]? = some x := by
  cases b <;> exact ⟨y.1, y.2 _ h⟩
theorem rd_sq {b : Bool} {K : PySem.W.Frag} {σ : L2.St} {H : Hp} {i : Nat} {a : Addr} {xs : List V} {R : It → Hp → Prop} (e : σ[i]? = some (some (.ref a))) (h : SqK b K H a xs) (r : R (ItQ b K a) H) : iSeq K (tVar i) σ H R := by
  cases b
  · exact .r ⟨_, e, a, rfl, ⟨xs, h⟩, r⟩
  · exact .l ⟨_, e, a, rfl, ⟨xs, h⟩, r⟩
theorem lc_sq {b : Bool} {K : PySem.W.Frag} {a D : Addr} {xs : List Int} {H0 : Hp} {i : Nat} {te : TE} {vs : List Nat} {σ : L2.St} {Qd : Hp → Prop} (hS : SqK b K H0 a (xs.map V.int)) (g : Int → Int) (hn : xs.length ≤ 1000000) (nD : H0 D = none) (hw : ∀ x : Int, wipe ((wipe σ vs).set i (some (.int x))) vs = wipe σ vs)
    (ht : ∀ x H1 (Q : VK), x ∈ xs → Same H0 H1 → (∀ H2, Same H1 H2 → Q (.int (g x)) H2) → te ((wipe σ vs).set i (some (.int x))) H1 Q)
    (hd : ∀ H1, Same H0 H1 → H1 D = some (.lst ((xs.map g).map V.int)) → Qd H1) : lcW (ItQ b K a) (gName i) tYes te vs σ D Qd H0 := by
  have ex : ∀ k, k < xs.length → (xs.map V.int)[k]? = some (.int (xs.getD k 0)) := fun k hk => by
    rw [List.getElem?_map, List.getD_eq_getElem?_getD, List.getElem?_eq_getElem hk]
    rfl
  refine lc_ofs (K := K) (n := xs.length) (fun k => g (xs.getD k 0)) (fun k => .int (xs.getD k 0)) hn nD (fun k H1 hk s => itq_go (Z.Same.sqK s hS) (ex k hk)) (fun H1 s => itq_stop (Z.Same.sqK s hS) (by rw [List.length_map]; exact Nat.le_refl _)) (fun k H1 x H2 hk s y => ?_) (fun k => hw _) (fun k H1 Q hk s q => ht _ H1 Q ?_ s q) (fun H1 s e => hd H1 s ?_)
  · obtain ⟨e1, e2⟩ := itq_yld (Z.Same.sqK s hS) y
    exact ⟨e1, Option.some.inj (e2.symm.trans (ex k hk))⟩
  · rw [List.getD_eq_getElem?_getD, List.getElem?_eq_getElem hk]
    exact List.getElem_mem hk
  · rw [e]
    congr 2
    congr 1
    apply List.ext_getElem
    · rw [List.length_map, List.length_map, List.length_range]
    · intro k h1 h2
      rw [List.length_map] at h2
      rw [List.getElem_map, List.getElem_map, List.getElem_range, List.getD_eq_getElem?_getD, List.getElem?_eq_getElem h2]
      rfl
/-- for x in xs, any values -/
theorem for_sq {b : Bool} {K : PySem.W.Frag} {a : Addr} {xs : List V} {H0 H : Hp} {i : Nat} {tb : TS} {D : Ends} {σ : L2.St} (hS : SqK b K H0 a xs) (Pv : Nat → L2.St → Hp → Prop) (h0 : Pv 0 σ H) (hq : ∀ k σ H1, Pv k σ H1 → Same H0 H1)
    (hs : ∀ (k : Nat) (x : V) (σ : L2.St) (H1 : Hp), xs[k]? = some x → Pv k σ H1 → tb { D with nx := Pv (k + 1), ct := Pv (k + 1), bk := D.nx } (σ.set i (some x)) H1)
    (hd : ∀ σ H1, Pv xs.length σ H1 → D.nx σ H1) : forW (ItQ b K a) (gName i) tb D σ H := by
  refine for_gen (n := xs.length) Pv h0 (fun k σ H1 hk p => itq_go (Z.Same.sqK (hq k σ H1 p) hS) (List.getElem?_eq_getElem hk)) (fun σ H1 p => itq_stop (Z.Same.sqK (hq _ σ H1 p) hS) (Nat.le_refl _)) ?_ hd
  intro k σ H1 x H2 hk p y
  obtain ⟨rfl, e⟩ := itq_yld (Z.Same.sqK (hq k σ H1 p) hS) y
  exact hs k x σ _ e p
/-- for i, x in enumerate(xs) -/
theorem for_enum {b : Bool} {K : PySem.W.Frag} {a : Addr} {xs : List V} {H0 H : Hp} {i j : Nat} {tb : TS} {D : Ends} {σ : L2.St} (hS : SqK b K H0 a xs) (Pv : Nat → L2.St → Hp → Prop) (h0 : Pv 0 σ H) (hq : ∀ k σ H1, Pv k σ H1 → Same H0 H1)
    (hs : ∀ (k : Nat) (x : V) (σ : L2.St) (H1 H2 : Hp), xs[k]? = some x → Pv k σ H1 → Same H1 H2 → tb { D with nx := Pv (k + 1), ct := Pv (k + 1), bk := D.nx } ((σ.set i (some (.int (k : Nat)))).set j (some x)) H2)
    (hd : ∀ σ H1, Pv xs.length σ H1 → D.nx σ H1) : forW (ItEM b K a) (gTup K 2 (gCons (gName i) (gCons (gName j) gNil))) tb D σ H := by
  refine for_gen (n := xs.length) Pv h0 (fun k σ H1 hk p => ⟨xs, _, Z.Same.sqK (hq k σ H1 p) hS, List.getElem?_eq_getElem hk⟩) (fun σ H1 p => ⟨xs, Z.Same.sqK (hq _ σ H1 p) hS, rfl⟩) ?_ hd
  intro k σ H1 x H2 hk p y
  obtain ⟨T, z, rfl, nT, rfl, e⟩ := y
  exact ⟨T, _, rfl, SqT.of upd_same, rfl, _, _, rfl, _, _, rfl, rfl, hs k z σ H1 _ (e _ (Z.Same.sqK (hq k σ H1 p) hS)) p (same_new nT)⟩
/-- for i, c in enumerate(text) -/
theorem for_enumS {K : PySem.W.Frag} {z : Str} {H : Hp} {i j : Nat} {tb : TS} {D : Ends} {σ : L2.St} (Pv : Nat → L2.St → Hp → Prop) (h0 : Pv 0 σ H)
    (hs : ∀ (k : Nat) (c : Nat) (σ : L2.St) (H1 H2 : Hp), z.cps[k]? = some c → Pv k σ H1 → Same H1 H2 → tb { D with nx := Pv (k + 1), ct := Pv (k + 1), bk := D.nx } ((σ.set i (some (.int (k : Nat)))).set j (some (.str ⟨#[c]⟩))) H2)
    (hd : ∀ σ H1, Pv z.cps.size σ H1 → D.nx σ H1) : forW (ItES z) (gTup K 2 (gCons (gName i) (gCons (gName j) gNil))) tb D σ H := by
  refine for_gen (n := z.cps.size) Pv h0 (fun k σ H1 hk p => hk) (fun σ H1 p => rfl) ?_ hd
  intro k σ H1 x H2 hk p y
  obtain ⟨T, c, rfl, nT, rfl, e⟩ := y
  exact ⟨T, _, rfl, SqT.of upd_same, rfl, _, _, rfl, _, _, rfl, rfl, hs k c σ H1 _ e p (same_new nT)⟩
/-! ### built-ins within a comprehension's block -/
theorem cr_min_K {X : Cx} {K : PySem.W.Frag} (h : X.K = K) (hc : X.calm = true) : CallR X (.builtin "min") (rMin K) := by
  subst h
  exact cr_min hc
theorem cr_max_K {X : Cx} {K : PySem.W.Frag} (h : X.K = K) (hc : X.calm = true) : CallR X (.builtin "max") (rMax K) := by
  subst h
  exact cr_max hc
theorem cr_sum_K {X : Cx} {K : PySem.W.Frag} (h : X.K = K) (hc : X.calm = true) : CallR X (.builtin "sum") (rSum K) := by
  subst h
  exact cr_sum hc
theorem cr_all_K {X : Cx} {K : PySem.W.Frag} (h : X.K = K) (hc : X.calm = true) : CallR X (.builtin "all") (rAll K) := by
  subst h
  exact cr_all hc
theorem cr_any_K {X : Cx} {K : PySem.W.Frag} (h : X.K = K) (hc : X.calm = true) : CallR X (.builtin "any") (rAny K) := by
  subst h
  exact cr_any hc
/-! ### comprehensions with a test, any values -/
def fltL (kb : Nat → Bool) (g : Nat → V) (n : Nat) : List V := ((List.range n).filter kb).map g
theorem flt_succ (kb : Nat → Bool) (g : Nat → V) (n : Nat) : fltL kb g (n + 1) = fltL kb g n ++ (if kb n then [g n] else []) := by
  unfold fltL
  rw [List.range_succ, List.filter_append, List.map_append]
  cases e : kb n <;> simp [e]
theorem flt_len (kb : Nat → Bool) (g : Nat → V) (n : Nat) : (fltL kb g n).length ≤ n := by
  unfold fltL
  rw [List.length_map]
  exact Nat.le_trans (List.length_filter_le ..) (by rw [List.length_range]; exact Nat.le_refl _)
theorem lc_flt {J : It} {D : Addr} {n : Nat} {H0 : Hp} {i : Nat} {tt : TT} {te : TE} {vs : List Nat} {σ : L2.St} {Qd : Hp → Prop} (xv : Nat → V) (kb : Nat → Bool) (g : Nat → V) (hn : n ≤ 1000000) (nD : H0 D = none)
    (hgo : ∀ k H1, k < n → Same H0 H1 → J.go k H1) (hst : ∀ H1, Same H0 H1 → J.stop n H1) (hy : ∀ k H1 x H2, k < n → Same H0 H1 → J.yld k H1 x H2 → Same H1 H2 ∧ x = xv k)
    (hw : ∀ k, wipe ((wipe σ vs).set i (some (xv k))) vs = wipe σ vs)
    (hb : ∀ k H1 (Q : Bool → Hp → Prop), k < n → Same H0 H1 → (∀ H2, Same H1 H2 → Q (kb k) H2) → tt ((wipe σ vs).set i (some (xv k))) H1 Q)
    (ht : ∀ k H1 (Q : VK), k < n → kb k = true → Same H0 H1 → (∀ H2, Same H1 H2 → Q (g k) H2) → te ((wipe σ vs).set i (some (xv k))) H1 Q)
    (hd : ∀ H1, Same H0 H1 → H1 D = some (.lst (fltL kb g n)) → Qd H1) : lcW J (gName i) tt te vs σ D Qd H0 := by
  refine lc_gen (n := n) (fun k H1 => Same H0 H1 ∧ H1 D = some (.lst (fltL kb g k))) ⟨same_new nD, upd_same⟩ (fun k H1 hk p => hgo k H1 hk p.1) (fun H1 p => hst H1 p.1) ?_ (fun H1 p => hd H1 p.1 p.2)
  rintro k H1 x H2 hk ⟨s, e⟩ y
  obtain ⟨s2, rfl⟩ := hy k H1 x H2 hk s y
  refine ⟨hw k, ?_⟩
  refine hb k _ _ hk (s.trans s2) (fun H3 s3 => ?_)
  cases eb : kb k
  · rw [if_neg (by decide)]
    refine ⟨s.trans (s2.trans s3), ?_⟩
    rw [flt_succ, eb]
    simpa using s3 _ _ (s2 _ _ e)
  · rw [if_pos rfl]
    refine ht k _ _ hk eb (s.trans (s2.trans s3)) (fun H4 s4 => ⟨_, s4 _ _ (s3 _ _ (s2 _ _ e)), ?_, Z.Same.mut (s.trans (s2.trans (s3.trans s4))) nD, ?_⟩)
    · exact Nat.lt_of_le_of_lt (flt_len kb g k) (Nat.lt_of_lt_of_le hk (Nat.le_trans hn (by decide)))
    · rw [upd_same, flt_succ, eb]
      rfl
end Z
set_option pp.maxSteps 700
set_option Elab.async false
set_option linter.all false
set_option maxRecDepth 100000
set_option maxHeartbeats 4000000
namespace Z
open Dy
open PySem PySem.Spec PyProof.Rows L2
open C8 (pss_cut tCut)
local macro_rules | `(tactic| walk_at "num") => `(tactic| first | rfl | omega | decide | exact Nat.le_of_lt (small1000 (by simp)) | exact ⟨by omega, by omega⟩ | exact ⟨by omega, by omega, by omega⟩ | exact ⟨by decide, by decide, by decide⟩ | exact Or.inl ⟨by omega, by omega⟩ | exact Or.inr ⟨by omega, by omega⟩)
local macro_rules | `(tactic| walk_at "go") => `(tactic| repeat (first | refine ⟨_, rfl, ?_⟩ | refine ⟨_, _, rfl, rfl, ?_⟩ | refine ⟨_, _, rfl, ?_⟩ | (refine ⟨_, _, rfl, rfl, ?_, ?_⟩; focus walk_at "num") | refine Or.inl ⟨_, rfl, ?_⟩ | refine ⟨_, _, _, _, rfl, rfl, (by assumption), (by rfl), ?_⟩ | refine ⟨_, _, _, _, _, rfl, (by assumption), (by assumption), (by assumption), (by rfl), ?_⟩ | refine ⟨rfl, ?_⟩ | (refine And.intro ?_ ?_; focus walk_at "num")))
abbrev s_check_days : Stmt := topS 8
abbrev N_check_days : List Str := ["days", "at"]
abbrev P_check_days : List Str := ["days"]
theorem sc_check_days : FnScope N_check_days P_check_days (defScope s_check_days) := ⟨rfl, rfl, rfl, by decide +kernel, rfl, by decide +kernel, by decide +kernel⟩
abbrev s_least_period : Stmt := topS 9
abbrev N_least_period : List Str := ["days", "many", "size", "at"]
abbrev P_least_period : List Str := ["days"]
theorem sc_least_period : FnScope N_least_period P_least_period (defScope s_least_period) := ⟨rfl, rfl, rfl, by decide +kernel, rfl, by decide +kernel, by decide +kernel⟩
abbrev s_day_at : Stmt := topS 10
abbrev N_day_at : List Str := ["days", "day", "begin"]
abbrev P_day_at : List Str := ["days", "day"]
theorem sc_day_at : FnScope N_day_at P_day_at (defScope s_day_at) := ⟨rfl, rfl, rfl, by decide +kernel, rfl, by decide +kernel, by decide +kernel⟩
abbrev s_DayRule___init__ : Stmt := inClass (topS 14) 0
abbrev N_DayRule___init__ : List Str := ["self", "days"]
abbrev P_DayRule___init__ : List Str := ["self", "days"]
theorem sc_DayRule___init__ : FnScope N_DayRule___init__ P_DayRule___init__ (defScope s_DayRule___init__) := ⟨rfl, rfl, rfl, by decide +kernel, rfl, by decide +kernel, by decide +kernel⟩
abbrev s_DayRule_period : Stmt := inClass (topS 14) 1
abbrev N_DayRule_period : List Str := ["self"]
abbrev P_DayRule_period : List Str := ["self"]
theorem sc_DayRule_period : FnScope N_DayRule_period P_DayRule_period (defScope s_DayRule_period) := ⟨rfl, rfl, rfl, by decide +kernel, rfl, by decide +kernel, by decide +kernel⟩
abbrev s_DayRule___call__ : Stmt := inClass (topS 14) 2
abbrev N_DayRule___call__ : List Str := ["self", "day"]
abbrev P_DayRule___call__ : List Str := ["self", "day"]
theorem sc_DayRule___call__ : FnScope N_DayRule___call__ P_DayRule___call__ (defScope s_DayRule___call__) := ⟨rfl, rfl, rfl, by decide +kernel, rfl, by decide +kernel, by decide +kernel⟩
abbrev s_DayRule___eq__ : Stmt := inClass (topS 14) 3
abbrev N_DayRule___eq__ : List Str := ["self", "other"]
abbrev P_DayRule___eq__ : List Str := ["self", "other"]
theorem sc_DayRule___eq__ : FnScope N_DayRule___eq__ P_DayRule___eq__ (defScope s_DayRule___eq__) := ⟨rfl, rfl, rfl, by decide +kernel, rfl, by decide +kernel, by decide +kernel⟩
abbrev FnM (K : PySem.W.Frag) (x q : Str) (st : Stmt) (f : Addr) (fd : FuncData) : Prop := FunD K x q (defArgs st) (defBody st) (defScope st) [] [] f fd
theorem relv_ref {a : Addr} : L2.RelV (.ref a) (.ref a) := rfl
theorem SqK.or {b : Bool} {K : PySem.W.Frag} {H : Hp} {a : Addr} {xs : List V} (h : SqK b K H a xs) : SqL K H a xs ∨ SqT K H a xs := by
  cases b
  · exact .inr h
  · exact .inl h
/-- an if that only guards, and what it tells -/
theorem cut_fact {p : Prop} {t u : TS} {D : Ends} {σ : L2.St} {H : Hp} (h : t { D with nx := fun σ' H' => σ' = σ ∧ H' = H ∧ p } σ H) (h2 : p → u D σ H) : C8.tCut t u D σ H := ⟨_, h, fun σ' H' z => by
  obtain ⟨rfl, rfl, hp⟩ := z
  exact h2 hp⟩
/-- days[i], a list or a tuple of ints -/
theorem ixd {b : Bool} {K : PySem.W.Frag} {H : Hp} {a : Addr} {ds : List Int} {i : Int} {j : Nat} {Q : VK} (h : SqK b K H a (ds.map V.int)) (hj : j < ds.length) (hi : i = (j : Int)) (q : Q (.int (ds.getD j 0)) H) : rIx K (.ref a) (.int i) H Q := by
  have e : atI (ds.map V.int) i = some (.int (ds.getD j 0)) := by
    rw [hi, List.getD_eq_getElem?_getD, List.getElem?_eq_getElem hj]
    exact at_map (List.getElem?_eq_getElem hj)
  cases b
  · exact .inr (.inl ⟨a, _, _, _, rfl, rfl, h, e, q⟩)
  · exact .inl ⟨a, _, _, _, rfl, rfl, h, e, q⟩
theorem ixl {b : Bool} {K : PySem.W.Frag} {H : Hp} {a : Addr} {ds : List Int} {Q : VK} (h : SqK b K H a (ds.map V.int)) (hj : 0 < ds.length) (q : Q (.int (ds.getD (ds.length - 1) 0)) H) : rIx K (.ref a) (.int (-1)) H Q := by
  have e : atI (ds.map V.int) (-1) = some (.int (ds.getD (ds.length - 1) 0)) := by
    rcases List.eq_nil_or_concat ds with rfl | ⟨r, x, e⟩
    · cases hj
    · have e : ds = r ++ [x] := by rw [e]; simp
      subst e
      rw [List.map_append]
      rw [show ((r ++ [x]).getD ((r ++ [x]).length - 1) 0) = x by simp [List.getD_eq_getElem?_getD]]
      exact atI_last _ _
  cases b
  · exact .inr (.inl ⟨a, _, _, _, rfl, rfl, h, e, q⟩)
  · exact .inl ⟨a, _, _, _, rfl, rfl, h, e, q⟩
section
variable {P : Program} {w : World} {K : PySem.W.Frag} {mg : Str → Option Value} {base : Heap} {f C CD : Addr} {fd : FuncData}
/-! ### check_days -/
def spCheck (CD : Addr) (K : PySem.W.Frag) : Sp := fun vs H Q E => ∃ (b : Bool) (a : Addr) (ds : List Int), vs = [.ref a] ∧ SqK b K H a (ds.map V.int) ∧ ds.length ≤ 100000 ∧ (fault ds = none → Q .non H) ∧ ∀ i, fault ds = some i → ∀ d, H d = none → E (.ref CD) (some d) (upd H d (.xd [("at", .int (i : Int))]))
theorem ok_check_days (F : FnP K "check_days" s_check_days f fd) (m_len : mg "len" = none) (m_range : mg "range" = none) (x_BadDays : Exn P w K mg base "BadDays" CD "at") : FnOk P w K mg base (L2N.CX P w) 3 f fd P_check_days (spCheck CD K) := by
  refine F.ok sc_check_days (fun vs H Q E h => ?_) (fun cdv A outer s H vs Q E hr h => ?_)
  · obtain ⟨b, a, ds, rfl, _⟩ := h
    rfl
  · obtain ⟨b, a, ds, rfl, hS, hl, q, qe⟩ := h
    have tk := takes_fn (P := P) (w := w) (K := K) (mg := mg) (base := base) (N := N_check_days) (qual := "check_days") (scope := defScope s_check_days) (f := f) (cd := cdv) (A := A) (outer := outer) (s := s) (H := H) (E := E)
    refine ⟨_, (pss_cut (ps_for (passes_of rfl) rfl (pi_range2 (by rfl) m_range (pa_cons pe_int (pa_cons (pe_callB call_len_seq (by rfl) m_len PySem.boot_len (pa_cons (pv 0) pa_nil)) pa_nil))) (pg_name (i := 1) sc_check_days.nd rfl (by first | exact .inl rfl | exact .inr rfl))
        (pss_one (ps_if (pt_cmpR op_lt (pe_ix ix_seq (pv 0) (pv 1) (fun _ _ => rfl)) (pe_ix ix_seq (pv 0) (pe_op op_sub (pv 1) pe_int) (fun _ _ => rfl)) (nomark _)) (pss_one (ps_exn rfl tk x_BadDays hr (by decide) (by rfl) (pa_cons (pv 1) pa_nil))) pss_nil)))
      (pss_one (ps_if (PW.pt (pw_or (pt_cmpR op_eq (pe_callB call_len_seq (by rfl) m_len PySem.boot_len (pa_cons (pv 0) pa_nil)) pe_int (nomark _)) (pw_or1 (pt_cmpR op_gt (pe_ix ix_seq (pv 0) (pe_un un_neg pe_int) (fun _ _ => rfl)) (pe_op op_add (pe_ix ix_seq (pv 0) pe_int (fun _ _ => rfl)) (pe_callB call_len_seq (by rfl) m_len PySem.boot_len (pa_cons (pv 0) pa_nil))) (nomark _))))) (pss_one (ps_exn rfl tk x_BadDays hr (by decide) (by rfl) (pa_cons pe_int pa_nil))) pss_nil))), ?_⟩
    refine ⟨fun σ' H' => H' = H ∧ faultF ds (ds.length - 1) 1 = none ∧ ∃ v1 : Option V, σ' = [some (.ref a), v1], ?_, ?_⟩
    · walk_at "go"
      refine ⟨a, _, rfl, hS.or, ?_⟩
      rw [List.length_map]
      walk_at "go"
      refine for_gen (n := ds.length - 1) (fun i σ H1 => H1 = H ∧ faultF ds (ds.length - 1) 1 = faultF ds (ds.length - 1 - i) (1 + i) ∧ ∃ v1 : Option V, σ = [some (.ref a), v1]) ⟨rfl, rfl, none, rfl⟩ ?_ ?_ ?_ ?_
      · intro i σ H1 hi _
        show i < ((ds.length : Int) - 1).toNat
        omega
      · intro σ H1 _
        show ((ds.length : Int) - 1).toNat ≤ ds.length - 1
        omega
      · rintro i σ H1 x H' hi ⟨rfl, e, v1, rfl⟩ ⟨rfl, rfl⟩
        walk_at "go"
        refine ixd hS (j := 1 + i) (by omega) (by omega) ?_
        walk_at "go"
        refine ixd hS (j := i) (by omega) (by omega) ?_
        rw [show ds.length - 1 - i = (ds.length - 1 - (i + 1)) + 1 by omega] at e
        have e : faultF ds (ds.length - 1) 1 = if ds.getD (1 + i) 0 < ds.getD (1 + i - 1) 0 then some (1 + i) else faultF ds (ds.length - 1 - (i + 1)) (1 + i + 1) := e
        rw [show 1 + i - 1 = i by omega] at e
        walk_at "go"
        refine ite2 (fun c => ?_) (fun c => ?_)
        · have c := of_decide_eq_true c
          rw [if_pos c] at e
          walk_at "go"
          have hf : fault ds = some (1 + i) := by
            unfold fault
            rw [e]
          have z := qe _ hf
          rw [show ((1 + i : Nat) : Int) = 1 + (i : Int) by omega] at z
          exact mkx_of z
        · have c : ¬ ds.getD (1 + i) 0 < ds.getD i 0 := fun z => c (decide_eq_true z)
          rw [if_neg c] at e
          exact ⟨rfl, e, _, rfl⟩
      · rintro σ H1 ⟨rfl, e, v1, rfl⟩
        rw [Nat.sub_self] at e
        exact ⟨rfl, e, _, rfl⟩
    rintro σ' H1 ⟨e1, ef, v1, rfl⟩
    rw [e1]
    clear e1 H1
    have hf : fault ds = if ds.length = 0 ∨ ds.getD 0 0 + ds.length < ds.getD (ds.length - 1) 0 then some 0 else none := by
      unfold fault
      rw [ef]
    walk_at "go"
    refine ⟨a, _, rfl, hS.or, ?_⟩
    rw [List.length_map]
    walk_at "go"
    refine ite2 (fun c => ?_) (fun c => ?_)
    · have c : ds.length = 0 := by
        have := V.int.inj (of_decide_eq_true c)
        omega
      rw [if_pos (.inl c)] at hf
      walk_at "go"
      exact (mkx_of (qe _ hf)).2
    · have c : ¬ ds.length = 0 := fun z => c (decide_eq_true (by rw [z]; rfl))
      walk_at "go"
      refine ixl hS (by omega) ?_
      walk_at "go"
      refine ixd hS (j := 0) (by omega) rfl ?_
      walk_at "go"
      refine ⟨a, _, rfl, hS.or, ?_⟩
      rw [List.length_map]
      walk_at "go"
      refine ite2 (fun c2 => ?_) (fun c2 => ?_)
      · have c2 := of_decide_eq_true c2
        rw [if_pos (.inr c2)] at hf
        walk_at "go"
        exact (mkx_of (qe _ hf)).2
      · have c2 : ¬ ds.getD (ds.length - 1) 0 > ds.getD 0 0 + ds.length := fun z => c2 (decide_eq_true z)
        rw [if_neg (by omega)] at hf
        exact q hf
/-! ### day_at -/
def spDayAt (K : PySem.W.Frag) : Sp := fun vs H Q _ => ∃ (b : Bool) (a : Addr) (ds : List Int) (d : Int), vs = [.ref a, .int d] ∧ SqK b K H a (ds.map V.int) ∧ 0 < ds.length ∧ ds.length ≤ 100000 ∧ Q (.int (dv ds d)) H
theorem ok_day_at (F : FnP K "day_at" s_day_at f fd) (m_len : mg "len" = none) : FnOk P w K mg base CX0 1 f fd P_day_at (spDayAt K) := by
  refine F.ok sc_day_at (fun vs H Q E h => ?_) (fun cdv A outer s H vs Q E hr h => ?_)
  · obtain ⟨b, a, ds, d, rfl, _⟩ := h
    rfl
  · obtain ⟨b, a, ds, d, rfl, hS, hp, hl, q⟩ := h
    refine ⟨_, PSs.nox (pss_cons (ps_set (i := 2) sc_day_at.nd rfl (by first | exact .inl rfl | exact .inr rfl) (pe_op op_mul (pe_callB call_len_seq (by rfl) m_len PySem.boot_len (pa_cons (pv 0) pa_nil)) (pe_op op_fdiv (pv 1) (pe_callB call_len_seq (by rfl) m_len PySem.boot_len (pa_cons (pv 0) pa_nil)))))
      (pss_one (ps_ret (pe_op op_add (pe_ix ix_seq (pv 0) (pe_op op_sub (pv 1) (pv 2)) (fun _ _ => rfl)) (pv 2))))), ?_⟩
    walk_at "go"
    refine ⟨a, _, rfl, hS.or, ?_⟩
    rw [List.length_map]
    walk_at "go"
    refine ⟨a, _, rfl, hS.or, ?_⟩
    rw [List.length_map]
    walk_at "go"
    have hn : 0 < (ds.length : Int) := by omega
    have h1 := Int.emod_nonneg d (show (ds.length : Int) ≠ 0 by omega)
    have h2 := Int.emod_lt_of_pos d hn
    refine ixd hS (j := (d % (ds.length : Int)).toNat) (by omega) ?_ ?_
    · rw [Int.toNat_of_nonneg h1, Int.emod_def]
    walk_at "go"
    exact q
/-! ### least_period -/
def spLeast (K : PySem.W.Frag) : Sp := fun vs H Q _ => ∃ (b : Bool) (a : Addr) (ds : List Int), vs = [.ref a] ∧ SqK b K H a (ds.map V.int) ∧ 0 < ds.length ∧ ds.length ≤ 100000 ∧ ∀ (p : Nat) H', Same H H' → Lp (dv ds) p → Q (.int (p : Int)) H'
theorem ok_least_period (F : FnP K "least_period" s_least_period f fd) (m_len : mg "len" = none) (m_range : mg "range" = none) (m_all : mg "all" = none) : FnOk P w K mg base CX0 1 f fd P_least_period (spLeast K) := by
  refine F.ok sc_least_period (fun vs H Q E h => ?_) (fun cdv A outer s H vs Q E hr h => ?_)
  · obtain ⟨b, a, ds, rfl, _⟩ := h
    rfl
  · obtain ⟨b, a, ds, rfl, hS, hp, hl, q⟩ := h
    refine ⟨_, PSs.nox (pss_cons (ps_set (i := 1) sc_least_period.nd rfl (by first | exact .inl rfl | exact .inr rfl) (pe_callB call_len_seq (by rfl) m_len PySem.boot_len (pa_cons (pv 0) pa_nil)))
      (pss_cons (ps_for PassesOwn.never rfl (pi_range2 (by rfl) m_range (pa_cons pe_int (pa_cons (pv 1) pa_nil))) (pg_name (i := 2) sc_least_period.nd rfl (by first | exact .inl rfl | exact .inr rfl))
        (pss_one (ps_if (PW.pt (pw_and (pt_cmpR op_eq (pe_op op_mod (pv 1) (pv 2)) pe_int (nomark _)) (pw_and1 (pt_val (pe_callB (cr_all rfl) (by rfl) m_all (by decide +kernel) (pa_cons (pe_lc (own := [("at", 3)]) (g := (gName 3)) (tt := tYes) (by rfl) sc_least_period.nd (pi_range2 (by rfl) m_range (pa_cons (pv 2) (pa_cons (pv 1) pa_nil))) (blkOk_by (own := [("at", 3)]) (N := N_least_period) (sc := defScope s_least_period) (by decide +kernel)) (fun _ _ _ _ _ => (pg_name (i := 3) sc_least_period.nd rfl (by first | exact .inl rfl | exact .inr rfl))) (fun _ _ _ _ _ => pts_nil) (fun _ _ _ _ _ => (pe_cmpR op_eq (pe_ix (ix_seq_K (K := K) rfl) (pv 0) (pv 3) (fun _ _ => rfl)) (pe_op op_add (pe_ix (ix_seq_K (K := K) rfl) (pv 0) (pe_op op_sub (pv 3) (pv 2)) (fun _ _ => rfl)) (pv 2)) (nomark _)))) pa_nil)))))) (pss_one (ps_ret (pv 2))) pss_nil)))
      (pss_one (ps_ret (pv 1))))), ?_⟩
    walk_at "go"
    refine ⟨a, _, rfl, hS.or, ?_⟩
    rw [List.length_map]
    walk_at "go"
    have of := of_dv hp
    refine for_gen (n := ds.length - 1) (fun i σ H1 => Same H H1 ∧ (∀ k, 0 < k → k < 1 + i → ¬ Blk ds k) ∧ ∃ v2 v3 : Option V, σ = [some (.ref a), some (.int (ds.length : Int)), v2, v3]) ⟨Same.refl _, (fun k h1 h2 => by omega), none, none, rfl⟩ ?_ ?_ ?_ ?_
    · intro i σ H1 hi _
      show i < ((ds.length : Int) - 1).toNat
      omega
    · intro σ H1 _
      show ((ds.length : Int) - 1).toNat ≤ ds.length - 1
      omega
    · rintro i σ H1 x H' hi ⟨s1, hk, v2, v3, rfl⟩ ⟨rfl, rfl⟩
      have hS1 := Z.Same.sqK s1 hS
      have em : ((ds.length : Int) % (1 + (i : Int))) = ((ds.length % (1 + i) : Nat) : Int) := by
        rw [Int.natCast_emod, Int.natCast_add]
        rfl
      have go : ¬ Blk ds (1 + i) → ∀ k, 0 < k → k < 1 + (i + 1) → ¬ Blk ds k := fun z k h1 h2 => by
        by_cases c : k = 1 + i
        · rw [c]
          exact z
        · exact hk k h1 (by omega)
      walk_at "go"
      refine ite2 (fun c => ?_) (fun c => ?_)
      · have c : ds.length % (1 + i) = 0 := by
          have h := V.int.inj (of_decide_eq_true c)
          rw [em] at h
          omega
        walk_at "go"
        intro D nD
        have fB : ∀ k, ((List.range k).map fun t => decide (V.int (ds.getD (1 + i + t) 0) = V.int (ds.getD t 0 + (1 + (i : Int))))).length = k := fun k => by rw [List.length_map, List.length_range]
        refine lc_gen (n := ds.length - (1 + i)) (fun k H2 => Same H' H2 ∧ H2 D = some (.lst (((List.range k).map fun t => decide (V.int (ds.getD (1 + i + t) 0) = V.int (ds.getD t 0 + (1 + (i : Int))))).map V.bl))) ⟨same_new nD, upd_same⟩ ?_ ?_ ?_ ?_
        · intro k H2 hk2 _
          show k < ((ds.length : Int) - (1 + (i : Int))).toNat
          omega
        · intro H2 _
          show ((ds.length : Int) - (1 + (i : Int))).toNat ≤ ds.length - (1 + i)
          omega
        · rintro k H2 x H3 hk2 ⟨s2, eD⟩ ⟨rfl, rfl⟩
          have hS2 := Z.Same.sqK s2 hS1
          walk_at "go"
          refine ixd hS2 (j := 1 + i + k) (by omega) (by omega) ?_
          walk_at "go"
          refine ixd hS2 (j := k) (by omega) (by omega) ?_
          walk_at "go"
          refine ⟨_, eD, ?_, Z.Same.mut s2 nD, ?_⟩
          · rw [List.length_map, fB]
            exact Nat.lt_of_le_of_lt (show k ≤ 100000 by omega) (by decide)
          · rw [upd_same, List.range_succ, List.map_append, List.map_append]
            rfl
        rintro H2 ⟨s2, eD⟩
        walk_at "go"
        refine ⟨D, _, rfl, SqL.of eD, ?_⟩
        have eb : (((List.range (ds.length - (1 + i))).map fun t => decide (V.int (ds.getD (1 + i + t) 0) = V.int (ds.getD t 0 + (1 + (i : Int))))).all id) = true ↔ Blk ds (1 + i) := by
          rw [List.all_eq_true]
          constructor
          · intro h
            refine ⟨c, fun j h1 h2 => ?_⟩
            have := h _ (List.mem_map.mpr ⟨j - (1 + i), List.mem_range.mpr (by omega), rfl⟩)
            have := V.int.inj (of_decide_eq_true this)
            rw [show 1 + i + (j - (1 + i)) = j by omega] at this
            rw [this]
            congr 1
          · rintro ⟨_, h⟩ x hx
            obtain ⟨t, ht, rfl⟩ := List.mem_map.mp hx
            have ht := List.mem_range.mp ht
            have := h (1 + i + t) (by omega) (by omega)
            rw [show 1 + i + t - (1 + i) = t by omega] at this
            refine decide_eq_true ?_
            rw [this]
            congr 1
        walk_at "go"
        refine ite2 (fun c2 => ?_) (fun c2 => ?_)
        · have c2 := eb.mp c2
          walk_at "go"
          have z := q (1 + i) H2 (s1.trans s2) (first_lp (Blk ds) hp of.per (fun k h1 h2 => blk_per of h1 h2) (fun p l _ => lp_blk of l) (by omega) (by omega) hk (fun _ => c2))
          rw [show ((1 + i : Nat) : Int) = 1 + (i : Int) by omega] at z
          exact z
        · exact ⟨s1.trans s2, go (fun z => c2 (eb.mpr z)), _, _, rfl⟩
      · have c : ¬ ds.length % (1 + i) = 0 := fun z => c (decide_eq_true (show V.int ((ds.length : Int) % (1 + (i : Int))) = V.int 0 by rw [em, z]; rfl))
        exact ⟨s1, go (fun z => c z.1), _, _, rfl⟩
    · rintro σ H1 ⟨s1, hk, v2, v3, rfl⟩
      walk_at "go"
      refine q _ _ s1 (first_lp (Blk ds) hp of.per (fun k h1 h2 => blk_per of h1 h2) (fun p l _ => lp_blk of l) hp (Nat.le_refl _) (fun k h1 h2 => hk k h1 (by omega)) (fun z => by omega))
end
end Z
set_option pp.maxSteps 700
set_option Elab.async false
set_option linter.all false
set_option maxRecDepth 100000
set_option maxHeartbeats 4000000
namespace Z
open Dy
open PySem PySem.Spec PyProof.Rows L2
open C8 (pss_cut tCut)
local macro_rules | `(tactic| walk_at "num") => `(tactic| first | rfl | omega | decide | exact Nat.le_of_lt (small1000 (by simp)) | exact ⟨by omega, by omega⟩ | exact ⟨by omega, by omega, by omega⟩ | exact ⟨by decide, by decide, by decide⟩ | exact Or.inl ⟨by omega, by omega⟩ | exact Or.inr ⟨by omega, by omega⟩)
local macro_rules | `(tactic| walk_at "go") => `(tactic| repeat (first | refine ⟨_, rfl, ?_⟩ | refine ⟨_, _, rfl, rfl, ?_⟩ | refine ⟨_, _, rfl, ?_⟩ | (refine ⟨_, _, rfl, rfl, ?_, ?_⟩; focus walk_at "num") | refine Or.inl ⟨_, rfl, ?_⟩ | refine ⟨_, _, _, _, rfl, rfl, (by assumption), (by rfl), ?_⟩ | refine ⟨_, _, _, _, _, rfl, (by assumption), (by assumption), (by assumption), (by rfl), ?_⟩ | refine ⟨rfl, ?_⟩ | (refine And.intro ?_ ?_; focus walk_at "num")))
theorem sIx_hi {n p : Nat} (h : p ≤ n) : HT.sIx n n (some (p : Int)) = p := by
  rw [HT.sIx_nat]
  omega
theorem cut_take {ds : List Int} {p : Nat} (h : p ≤ ds.length) : cutV (ds.map V.int) none (some (p : Int)) = (ds.take p).map V.int := by
  unfold cutV
  rw [List.length_map, sIx_hi h]
  show ((ds.map V.int).drop 0).take (p - 0) = _
  rw [List.drop_zero, Nat.sub_zero, List.map_take]
def bO (b : Bool) (xs : List V) : HO := match b with
  | true => .lst xs
  | false => .tup xs
theorem bO_sq {b : Bool} {K : PySem.W.Frag} {H : Hp} {a : Addr} {xs : List V} (h : H a = some (bO b xs)) : SqK b K H a xs := by
  cases b
  · exact .inl (.inl h)
  · exact .inl (.inl h)
def RuleAt (C : Addr) (K : PySem.W.Frag) (H : Hp) (n : Addr) (ds : List Int) : Prop := ∃ dx t, H n = some (.ins C dx [("days", .ref t)]) ∧ H t = some (.tup (ds.map V.int))
theorem RuleAt.mono {C : Addr} {K : PySem.W.Frag} {H H' : Hp} {n : Addr} {ds : List Int} (s : Same H H') (h : RuleAt C K H n ds) : RuleAt C K H' n ds := by
  obtain ⟨dx, t, e, h2⟩ := h
  exact ⟨dx, t, s _ _ e, s _ _ h2⟩
theorem sqT_ins {K : PySem.W.Frag} {H H' : Hp} {n C dx a : Addr} {fs : List (Str × V)} {xs : List V} (s : SB n H H') (hn : H n = some (.ins C dx fs)) (h : SqT K H a xs) : SqT K H' a xs := by
  have ne : ∀ {o : HO}, H a = some o → (∀ C dx fs, o ≠ .ins C dx fs) → a ≠ n := fun e z w => by
    rw [w, hn] at e
    exact z _ _ _ (Option.some.inj e).symm
  rcases h with (h | ⟨o, h⟩) | h
  · exact .inl (.inl (s _ _ (ne h fun _ _ _ => nofun) h))
  · exact .inl (.inr ⟨o, s _ _ (ne h fun _ _ _ => nofun) h⟩)
  · exact .inr h
section
variable {P : Program} {w : World} {K : PySem.W.Frag} {mg : Str → Option Value} {base : Heap} {f C CD : Addr} {fd : FuncData}
def spInit (C CD : Addr) (K : PySem.W.Frag) : Sp := fun vs H Q E => ∃ (b : Bool) (n dx a : Addr) (ds : List Int), vs = [.ref n, .ref a] ∧ H n = some (.ins C dx []) ∧ H a = some (bO b (ds.map V.int)) ∧ ds.length ≤ 100000 ∧
  (fault ds = none → ∀ (p : Nat) H', SB n H H' → Lp (dv ds) p → RuleAt C K H' n (ds.take p) → Q .non H') ∧ ∀ i, fault ds = some i → ∀ d, H d = none → E (.ref CD) (some d) (upd H d (.xd [("at", .int (i : Int))]))
theorem fault_pos {ds : List Int} (h : fault ds = none) : 0 < ds.length := by
  cases ds with
  | nil => cases h
  | cons x r => exact Nat.succ_pos _
theorem ok_init (F : FnM K "__init__" "DayRule.__init__" s_DayRule___init__ f fd) (cls : Cls K C) (n_days : NoAttr K C "days") (m_tuple : mg "tuple" = none) (c_check_days : CalX P w K mg base 3 "check_days" (spCheck CD K)) (c_least_period : Cal P w K mg base 1 "least_period" (spLeast K)) : FnOk P w K mg base (L2N.CX P w) 4 f fd P_DayRule___init__ (spInit C CD K) := by
  refine F.ok sc_DayRule___init__ (fun vs H Q E h => ?_) (fun cdv A outer s H vs Q E hr h => ?_)
  · obtain ⟨b, n, dx, a, ds, rfl, _⟩ := h
    rfl
  · obtain ⟨b, n, dx, a, ds, rfl, hn, hA, hl, q, qe⟩ := h
    have hS : SqK b K H a (ds.map V.int) := bO_sq hA
    have tk := takes_fn (P := P) (w := w) (K := K) (mg := mg) (base := base) (N := N_DayRule___init__) (qual := "DayRule.__init__") (scope := defScope s_DayRule___init__) (f := f) (cd := cdv) (A := A) (outer := outer) (s := s) (H := H) (E := E)
    refine ⟨_, (pss_cons (ps_expr (pe_clE c_check_days (fun σ => L2N.passAt tk σ) hr (by decide) (by rfl) (pa_cons (pv 1) pa_nil)))
      (pss_one (ps_fld (pv 0) (pe_callTy call_tuple_of (by rfl) m_tuple (by decide +kernel) (pa_cons (pe_slice (sl_list.or sl_tupA) (pv 1) po_none (po_some (pe_cl c_least_period hr (by decide) (by rfl) (pa_cons (pv 1) pa_nil)))) pa_nil)) rfl))), ?_⟩
    walk_at "go"
    refine ⟨b, a, ds, rfl, hS, hl, fun hf => ?_, qe⟩
    have hp := fault_pos hf
    have q := q hf
    walk_at "go"
    refine ⟨b, a, ds, rfl, hS, hp, hl, fun p H1 s1 lp => ?_⟩
    have hS1 := Z.Same.sqK s1 hS
    have hn1 := s1 _ _ hn
    obtain ⟨hpl, ltk, oft⟩ := (of_dv hp).take lp
    -- what is left, the tuple at t
    have fin : ∀ (t : Addr) (H2 : Hp), Same H1 H2 → H2 t = some (.tup ((ds.take p).map V.int)) → Q .non (upd H2 n (.ins C dx [("days", .ref t)])) := by
      intro t H2 s2 hT
      have hn2 := s2 _ _ hn1
      have sb : SB n H2 (upd H2 n (.ins C dx [("days", .ref t)])) := SB.upd (Z.Same.sb (Same.refl _))
      have ne : t ≠ n := fun z => by
        rw [z, hn2] at hT
        cases hT
      exact q p _ ((Z.Same.sb (s1.trans s2)).trans sb) lp ⟨dx, t, upd_same, by rw [upd_ne ne]; exact hT⟩
    walk_at "go"
    cases b with
    | true =>
      refine .inl ⟨a, _, rfl, hS1, fun l nl => ?_⟩
      rw [cut_take hpl]
      have s2 := same_new (o := .lst ((ds.take p).map V.int)) nl
      walk_at "go"
      refine ⟨l, _, rfl, .inl ⟨SqL.of upd_same, fun t nt => ?_⟩⟩
      have s3 := same_new (o := .tup ((ds.take p).map V.int)) nt
      walk_at "go"
      refine ⟨n, C, dx, _, rfl, s3 _ _ (s2 _ _ hn1), cls, n_days, by decide, ?_⟩
      exact fin t _ (s2.trans s3) upd_same
    | false =>
      refine .inr ⟨a, _, rfl, hS1, fun hw => ?_, fun hw l nl => ?_⟩
      · have e : p = ds.length := by
          have := hw.2
          rw [List.length_map, sIx_hi hpl] at this
          exact this
        walk_at "go"
        refine ⟨a, _, rfl, .inr ⟨hS1, ?_⟩⟩
        walk_at "go"
        refine ⟨n, C, dx, _, rfl, hn1, cls, n_days, by decide, ?_⟩
        exact fin a _ (Same.refl _) (by rw [e, List.take_length]; exact s1 _ _ hA)
      · rw [cut_take hpl]
        have s2 := same_new (o := .tup ((ds.take p).map V.int)) nl
        walk_at "go"
        refine ⟨l, _, rfl, .inr ⟨.inl (.inl upd_same), ?_⟩⟩
        walk_at "go"
        refine ⟨n, C, dx, _, rfl, s2 _ _ hn1, cls, n_days, by decide, ?_⟩
        exact fin l _ s2 upd_same
/-! ### period, a call, == -/
def spPeriod (C : Addr) (K : PySem.W.Frag) : Sp := fun vs H Q _ => ∃ (n : Addr) (ds : List Int), vs = [.ref n] ∧ RuleAt C K H n ds ∧ Q (.int (ds.length : Int)) H
theorem ok_period (F : FnM K "period" "DayRule.period" s_DayRule_period f fd) (cls : Cls K C) (n_days : NoAttr K C "days") (m_len : mg "len" = none) : FnOk P w K mg base CX0 1 f fd P_DayRule_period (spPeriod C K) := by
  refine F.ok sc_DayRule_period (fun vs H Q E h => ?_) (fun cdv A outer s H vs Q E hr h => ?_)
  · obtain ⟨n, ds, rfl, _⟩ := h
    rfl
  · obtain ⟨n, ds, rfl, ⟨dx, t, hn, hT⟩, q⟩ := h
    refine ⟨_, PSs.nox (pss_one (ps_ret (pe_callB call_len_seq (by rfl) m_len PySem.boot_len (pa_cons (pe_fld (pv 0) rfl) pa_nil)))), ?_⟩
    walk_at "go"
    refine ⟨t, _, rfl, .inr (SqT.of hT), ?_⟩
    rw [List.length_map]
    exact q
def spCallR (C : Addr) (K : PySem.W.Frag) : Sp := fun vs H Q _ => ∃ (n : Addr) (ds : List Int) (d : Int), vs = [.ref n, .int d] ∧ RuleAt C K H n ds ∧ 0 < ds.length ∧ ds.length ≤ 100000 ∧ Q (.int (dv ds d)) H
theorem ok_call (F : FnM K "__call__" "DayRule.__call__" s_DayRule___call__ f fd) (cls : Cls K C) (n_days : NoAttr K C "days") (c_day_at : Cal P w K mg base 1 "day_at" (spDayAt K)) : FnOk P w K mg base CX0 2 f fd P_DayRule___call__ (spCallR C K) := by
  refine F.ok sc_DayRule___call__ (fun vs H Q E h => ?_) (fun cdv A outer s H vs Q E hr h => ?_)
  · obtain ⟨n, ds, d, rfl, _⟩ := h
    rfl
  · obtain ⟨n, ds, d, rfl, ⟨dx, t, hn, hT⟩, hp, hl, q⟩ := h
    refine ⟨_, PSs.nox (pss_one (ps_ret (pe_cl c_day_at hr (by decide) (by rfl) (pa_cons (pe_fld (pv 0) rfl) (pa_cons (pv 1) pa_nil))))), ?_⟩
    walk_at "go"
    exact ⟨false, t, ds, d, rfl, SqT.of hT, hp, hl, q⟩
theorem eqv_ints (b : Bool) (ns ms : List Int) : PyData.eqv (intsD b ns) (intsD b ms) = decide (ns = ms) := by
  cases b
  · show PyData.eqv (.tuple _) (.tuple _) = _
    rw [PyData.eqv, PySem.W.ked_eqvAll]
  · show PyData.eqv (.list _) (.list _) = _
    rw [PyData.eqv, PySem.W.ked_eqvAll]
def spEqR (C : Addr) (K : PySem.W.Frag) : Sp := fun vs H Q _ => ∃ (n m : Addr) (ds es : List Int), vs = [.ref n, .ref m] ∧ RuleAt C K H n ds ∧ RuleAt C K H m es ∧ Q (.bl (decide (ds = es))) H
theorem ok_eq (F : FnM K "__eq__" "DayRule.__eq__" s_DayRule___eq__ f fd) (isC : C8.InsC K C) (m_isinstance : mg "isinstance" = none) (g_DayRule : mg "DayRule" = some (.ref C)) (cls : Cls K C) (n_days : NoAttr K C "days") : FnOk P w K mg base CX0 1 f fd P_DayRule___eq__ (spEqR C K) := by
  refine F.ok sc_DayRule___eq__ (fun vs H Q E h => ?_) (fun cdv A outer s H vs Q E hr h => ?_)
  · obtain ⟨n, m, ds, es, rfl, _⟩ := h
    rfl
  · obtain ⟨n, m, ds, es, rfl, ⟨dx, t, hn, hT⟩, ⟨dy, u, hm, hU⟩, q⟩ := h
    refine ⟨_, PSs.nox (pss_one (ps_ret (pe_and (pe_callB (C8.call_isC isC) (by rfl) m_isinstance (by decide +kernel) (pa_cons (pv 1) (pa_cons (pe_glob (by rfl) g_DayRule relv_ref) pa_nil))) (pe_one (pe_cmpR (op_eqD hr.units) (pe_fld (pv 0) rfl) (pe_fld (pv 1) rfl) (nomark _)))))), ?_⟩
    walk_at "go"
    refine ⟨m, dy, _, rfl, hm, ?_⟩
    walk_at "go"
    refine ⟨_, _, dp_ints (b := false) (SqT.of hT), dp_ints (b := false) (SqT.of hU), shaped_ints _ _, shaped_ints _ _, ?_⟩
    rw [eqv_ints]
    exact q
end
end Z
set_option pp.maxSteps 700
set_option Elab.async false
set_option linter.all false
set_option maxRecDepth 100000
set_option maxHeartbeats 4000000
namespace Z
open Dy
open PySem PySem.Spec PyProof.Rows L2
open C8 (pss_cut tCut)
local macro_rules | `(tactic| walk_at "num") => `(tactic| first | rfl | omega | decide | exact Nat.le_of_lt (small1000 (by simp)) | exact ⟨by omega, by omega⟩ | exact ⟨by omega, by omega, by omega⟩ | exact ⟨by decide, by decide, by decide⟩ | exact Or.inl ⟨by omega, by omega⟩ | exact Or.inr ⟨by omega, by omega⟩)
local macro_rules | `(tactic| walk_at "go") => `(tactic| repeat (first | refine ⟨_, rfl, ?_⟩ | refine ⟨_, _, rfl, rfl, ?_⟩ | refine ⟨_, _, rfl, ?_⟩ | (refine ⟨_, _, rfl, rfl, ?_, ?_⟩; focus walk_at "num") | refine Or.inl ⟨_, rfl, ?_⟩ | refine ⟨_, _, _, _, rfl, rfl, (by assumption), (by rfl), ?_⟩ | refine ⟨_, _, _, _, _, rfl, (by assumption), (by assumption), (by assumption), (by rfl), ?_⟩ | refine ⟨rfl, ?_⟩ | (refine And.intro ?_ ?_; focus walk_at "num")))
abbrev s_whole : Stmt := topS 23
abbrev N_whole : List Str := ["_law_found"]
abbrev P_whole : List Str := ["_law_found"]
theorem sc_whole : FnScope N_whole P_whole (defScope s_whole) := ⟨rfl, rfl, rfl, by decide +kernel, rfl, by decide +kernel, by decide +kernel⟩
abbrev s_same : Stmt := topS 24
abbrev N_same : List Str := ["_law_found", "_law_due"]
abbrev P_same : List Str := ["_law_found", "_law_due"]
theorem sc_same : FnScope N_same P_same (defScope s_same) := ⟨rfl, rfl, rfl, by decide +kernel, rfl, by decide +kernel, by decide +kernel⟩
abbrev s_row_is : Stmt := topS 25
abbrev N_row_is : List Str := ["_law_found", "_law_due", "_law_k"]
abbrev P_row_is : List Str := ["_law_found", "_law_due"]
theorem sc_row_is : FnScope N_row_is P_row_is (defScope s_row_is) := ⟨rfl, rfl, rfl, by decide +kernel, rfl, by decide +kernel, by decide +kernel⟩
abbrev s_value : Stmt := topS 37
abbrev N_value : List Str := ["_law_days_here", "_law_day", "_law_turns"]
abbrev P_value : List Str := ["_law_days_here", "_law_day"]
theorem sc_value : FnScope N_value P_value (defScope s_value) := ⟨rfl, rfl, rfl, by decide +kernel, rfl, by decide +kernel, by decide +kernel⟩
abbrev s_repeats : Stmt := topS 38
abbrev N_repeats : List Str := ["_law_days_here", "_law_size_here", "_law_day"]
abbrev P_repeats : List Str := ["_law_days_here", "_law_size_here"]
theorem sc_repeats : FnScope N_repeats P_repeats (defScope s_repeats) := ⟨rfl, rfl, rfl, by decide +kernel, rfl, by decide +kernel, by decide +kernel⟩
abbrev s_least : Stmt := topS 39
abbrev N_least : List Str := ["_law_days_here", "_law_size_here"]
abbrev P_least : List Str := ["_law_days_here"]
theorem sc_least : FnScope N_least P_least (defScope s_least) := ⟨rfl, rfl, rfl, by decide +kernel, rfl, by decide +kernel, by decide +kernel⟩
section
variable {P : Program} {w : World} {K : PySem.W.Frag} {mg : Str → Option Value} {base : Heap} {f C CD : Addr} {fd : FuncData}
def spWhole : Sp := fun vs H Q _ => ∃ x : Int, vs = [.int x] ∧ Q (.bl true) H
theorem ok_whole (F : FnP K "_law_whole" s_whole f fd) (m_isinstance : mg "isinstance" = none) (m_int : mg "int" = none) (m_bool : mg "bool" = none) : FnOk P w K mg base CX0 1 f fd P_whole spWhole := by
  refine F.ok sc_whole (fun vs H Q E h => ?_) (fun cdv A outer s H vs Q E hr h => ?_)
  · obtain ⟨x, rfl, _⟩ := h
    rfl
  · obtain ⟨x, rfl, q⟩ := h
    refine ⟨_, PSs.nox (pss_one (ps_ret (pe_and (pe_callB call_isi (by rfl) m_isinstance (by decide +kernel) (pa_cons (pv 0) (pa_cons (pe_bltn (v := .ty "int") (by rfl) m_int (by decide +kernel) rfl) pa_nil))) (pe_one (pe_not (pe_callB call_isi (by rfl) m_isinstance (by decide +kernel) (pa_cons (pv 0) (pa_cons (pe_bltn (v := .ty "bool") (by rfl) m_bool (by decide +kernel) rfl) pa_nil)))))))), ?_⟩
    walk_at "go"
    refine isi (c := "int") (b := true) (.int x) (by decide +kernel) ?_
    walk_at "go"
    refine isi (c := "bool") (b := false) (.int x) (by decide +kernel) ?_
    walk_at "go"
    exact q
def spSame : Sp := fun vs H Q _ => ∃ x : Int, vs = [.int x, .int x] ∧ Q (.bl true) H
theorem ok_same (F : FnP K "_law_same" s_same f fd) (c_whole : Cal P w K mg base 1 "_law_whole" spWhole) : FnOk P w K mg base CX0 2 f fd P_same spSame := by
  refine F.ok sc_same (fun vs H Q E h => ?_) (fun cdv A outer s H vs Q E hr h => ?_)
  · obtain ⟨x, rfl, _⟩ := h
    rfl
  · obtain ⟨x, rfl, q⟩ := h
    refine ⟨_, PSs.nox (pss_one (ps_ret (pe_and (pe_cl c_whole hr (by decide) (by rfl) (pa_cons (pv 0) pa_nil)) (pe_one (pe_cmpR op_eq (pv 0) (pv 1) (nomark _)))))), ?_⟩
    walk_at "go"
    rw [decide_eq_true rfl]
    exact q
theorem okh_whole (F : FnP K "_law_whole" s_whole f fd) (m_isinstance : mg "isinstance" = none) (m_int : mg "int" = none) (m_bool : mg "bool" = none) : L2H.FnH P w K mg base CX0 1 f fd P_whole spWhole := by
  refine fund_okH F sc_whole (fun vs H Q E h => ?_) (fun cdv A outer s H vs Q E p hp hr h => ?_)
  · obtain ⟨x, rfl, _⟩ := h
    rfl
  · obtain ⟨x, rfl, q⟩ := h
    refine ⟨_, (pss_one (ps_ret (pe_and (pe_callB call_isi (by rfl) m_isinstance (by decide +kernel) (pa_cons (pv 0) (pa_cons (pe_bltn (v := .ty "int") (by rfl) m_int (by decide +kernel) rfl) pa_nil))) (pe_one (pe_not (pe_callB call_isi (by rfl) m_isinstance (by decide +kernel) (pa_cons (pv 0) (pa_cons (pe_bltn (v := .ty "bool") (by rfl) m_bool (by decide +kernel) rfl) pa_nil)))))))), ?_⟩
    walk_at "go"
    refine isi (c := "int") (b := true) (.int x) (by decide +kernel) ?_
    walk_at "go"
    refine isi (c := "bool") (b := false) (.int x) (by decide +kernel) ?_
    walk_at "go"
    exact q
theorem okh_same (F : FnP K "_law_same" s_same f fd) (ch_whole : CalH P w K mg base 1 "_law_whole" spWhole) : L2H.FnH P w K mg base CX0 2 f fd P_same spSame := by
  refine fund_okH F sc_same (fun vs H Q E h => ?_) (fun cdv A outer s H vs Q E p hp hr h => ?_)
  · obtain ⟨x, rfl, _⟩ := h
    rfl
  · obtain ⟨x, rfl, q⟩ := h
    refine ⟨_, (pss_one (ps_ret (pe_and (pe_clH ch_whole hr (by decide) (hotC_fn hp) (by rfl) (pa_cons (pv 0) pa_nil)) (pe_one (pe_cmpR op_eq (pv 0) (pv 1) (nomark _)))))), ?_⟩
    walk_at "go"
    rw [decide_eq_true rfl]
    exact q
def spRow (K : PySem.W.Frag) : Sp := fun vs H Q _ => ∃ (t l : Addr) (ds : List Int), vs = [.ref t, .ref l] ∧ H t = some (.tup (ds.map V.int)) ∧ SqL K H l (ds.map V.int) ∧ ds.length ≤ 100000 ∧ Q (.bl true) H
theorem ok_row_is (F : FnP K "_law_row_is" s_row_is f fd) (m_isinstance : mg "isinstance" = none) (m_tuple : mg "tuple" = none) (m_len : mg "len" = none) (m_range : mg "range" = none) (c_same : Cal P w K mg base 2 "_law_same" spSame) : FnOk P w K mg base CX0 3 f fd P_row_is (spRow K) := by
  refine F.ok sc_row_is (fun vs H Q E h => ?_) (fun cdv A outer s H vs Q E hr h => ?_)
  · obtain ⟨t, l, ds, rfl, _⟩ := h
    rfl
  · obtain ⟨t, l, ds, rfl, hT, hL, hl, q⟩ := h
    refine ⟨_, PSs.nox (pss_cons (ps_if (PW.pt (pw_or (pt_not (pt_val (pe_callB call_isi (by rfl) m_isinstance (by decide +kernel) (pa_cons (pv 0) (pa_cons (pe_bltn (v := .ty "tuple") (by rfl) m_tuple (by decide +kernel) rfl) pa_nil))))) (pw_or1 (pt_cmpR op_ne (pe_callB call_len_seq (by rfl) m_len PySem.boot_len (pa_cons (pv 0) pa_nil)) (pe_callB call_len_seq (by rfl) m_len PySem.boot_len (pa_cons (pv 1) pa_nil)) (nomark _))))) (pss_one (ps_ret pe_bl)) pss_nil)
      (pss_cons (ps_for PassesOwn.never rfl (pi_range1 (by rfl) m_range (pa_cons (pe_callB call_len_seq (by rfl) m_len PySem.boot_len (pa_cons (pv 1) pa_nil)) pa_nil)) (pg_name (i := 2) sc_row_is.nd rfl (by first | exact .inl rfl | exact .inr rfl))
        (pss_one (ps_if (pt_not (pt_val (pe_cl c_same hr (by decide) (by rfl) (pa_cons (pe_ix ix_tup (pv 0) (pv 2) (fun _ _ => rfl)) (pa_cons (pe_ix ix_list (pv 1) (pv 2) (fun _ _ => rfl)) pa_nil))))) (pss_one (ps_ret pe_bl)) pss_nil)))
      (pss_one (ps_ret pe_bl)))), ?_⟩
    walk_at "go"
    refine isi (c := "tuple") (b := true) (.tup hT) (by decide +kernel) ?_
    walk_at "go"
    refine ⟨t, _, rfl, .inr (SqT.of hT), ?_⟩
    walk_at "go"
    refine ⟨l, _, rfl, .inl hL, ?_⟩
    walk_at "go"
    refine ite2 (fun e => ?_) (fun e => ?_)
    · simp at e
    walk_at "go"
    refine ⟨l, _, rfl, .inl hL, ?_⟩
    rw [List.length_map]
    walk_at "go"
    refine for_gen (n := ds.length) (fun i σ H1 => H1 = H ∧ ∃ v2 : Option V, σ = [some (.ref t), some (.ref l), v2]) ⟨rfl, none, rfl⟩ ?_ ?_ ?_ ?_
    · intro i σ H1 hi _
      show i < ((ds.length : Int)).toNat
      omega
    · intro σ H1 _
      show ((ds.length : Int)).toNat ≤ ds.length
      omega
    · rintro i σ H1 x H' hi ⟨rfl, v2, rfl⟩ ⟨rfl, rfl⟩
      have e : atI (ds.map V.int) (0 + (i : Int)) = some (.int ds[i]) := at_of (j := i) (by omega) (by rw [List.getElem?_map, List.getElem?_eq_getElem hi]; rfl)
      walk_at "go"
      refine ⟨t, _, _, _, rfl, rfl, SqT.of hT, e, ?_⟩
      walk_at "go"
      refine ⟨l, _, _, _, rfl, rfl, hL, e, ?_⟩
      walk_at "go"
      exact ⟨_, rfl⟩
    · rintro σ H1 ⟨rfl, v2, rfl⟩
      walk_at "go"
      exact q
def spValue (K : PySem.W.Frag) : Sp := fun vs H Q _ => ∃ (a : Addr) (ds : List Int) (d : Int), vs = [.ref a, .int d] ∧ SqL K H a (ds.map V.int) ∧ 0 < ds.length ∧ ds.length ≤ 100000 ∧ Q (.int (dv ds d)) H
theorem ok_value (F : FnP K "_law_value" s_value f fd) (m_len : mg "len" = none) (m_int : mg "int" = none) : FnOk P w K mg base CX0 1 f fd P_value (spValue K) := by
  refine F.ok sc_value (fun vs H Q E h => ?_) (fun cdv A outer s H vs Q E hr h => ?_)
  · obtain ⟨a, ds, d, rfl, _⟩ := h
    rfl
  · obtain ⟨a, ds, d, rfl, hS, hp, hl, q⟩ := h
    refine ⟨_, PSs.nox (pss_cons (ps_set (i := 2) sc_value.nd rfl (by first | exact .inl rfl | exact .inr rfl) (pe_op op_fdiv (pe_callTy call_int1 (by rfl) m_int (by decide +kernel) (pa_cons (pv 1) pa_nil)) (pe_callB call_len_seq (by rfl) m_len PySem.boot_len (pa_cons (pv 0) pa_nil))))
      (pss_one (ps_ret (pe_op op_add (pe_ix ix_list (pv 0) (pe_op op_mod (pe_callTy call_int1 (by rfl) m_int (by decide +kernel) (pa_cons (pv 1) pa_nil)) (pe_callB call_len_seq (by rfl) m_len PySem.boot_len (pa_cons (pv 0) pa_nil))) (fun _ _ => rfl)) (pe_op op_mul (pe_callB call_len_seq (by rfl) m_len PySem.boot_len (pa_cons (pv 0) pa_nil)) (pv 2)))))), ?_⟩
    have hn : 0 < (ds.length : Int) := by omega
    have h1 := Int.emod_nonneg d (show (ds.length : Int) ≠ 0 by omega)
    have h2 := Int.emod_lt_of_pos d hn
    have e : atI (ds.map V.int) (d % (ds.length : Int)) = some (.int (ds.getD (d % (ds.length : Int)).toNat 0)) := by
      have hj : (d % (ds.length : Int)).toNat < ds.length := by omega
      rw [← Int.toNat_of_nonneg h1, List.getD_eq_getElem?_getD, Int.toNat_natCast, List.getElem?_eq_getElem hj]
      exact at_map (List.getElem?_eq_getElem hj)
    walk_at "go"
    refine ⟨a, _, rfl, .inl hS, ?_⟩
    rw [List.length_map]
    walk_at "go"
    refine ⟨a, _, rfl, .inl hS, ?_⟩
    rw [List.length_map]
    walk_at "go"
    refine ⟨a, _, _, _, rfl, rfl, hS, e, ?_⟩
    walk_at "go"
    refine ⟨a, _, rfl, .inl hS, ?_⟩
    rw [List.length_map]
    walk_at "go"
    exact q
def spRepeats (K : PySem.W.Frag) : Sp := fun vs H Q _ => ∃ (a : Addr) (ds : List Int) (s : Nat), vs = [.ref a, .int (s : Int)] ∧ SqL K H a (ds.map V.int) ∧ 0 < ds.length ∧ ds.length ≤ 100000 ∧ (Per (dv ds) (s : Int) → Q (.bl true) H) ∧ (¬ Per (dv ds) (s : Int) → Q (.bl false) H)
theorem ok_repeats (F : FnP K "_law_repeats" s_repeats f fd) (m_len : mg "len" = none) (m_range : mg "range" = none) (c_value : Cal P w K mg base 1 "_law_value" (spValue K)) : FnOk P w K mg base CX0 2 f fd P_repeats (spRepeats K) := by
  refine F.ok sc_repeats (fun vs H Q E h => ?_) (fun cdv A outer s H vs Q E hr h => ?_)
  · obtain ⟨a, ds, s, rfl, _⟩ := h
    rfl
  · obtain ⟨a, ds, sz, rfl, hS, hp, hl, q1, q2⟩ := h
    refine ⟨_, PSs.nox (pss_cons (ps_for PassesOwn.never rfl (pi_range1 (by rfl) m_range (pa_cons (pe_callB call_len_seq (by rfl) m_len PySem.boot_len (pa_cons (pv 0) pa_nil)) pa_nil)) (pg_name (i := 2) sc_repeats.nd rfl (by first | exact .inl rfl | exact .inr rfl))
        (pss_one (ps_if (pt_cmpR op_ne (pe_cl c_value hr (by decide) (by rfl) (pa_cons (pv 0) (pa_cons (pe_op op_add (pv 2) (pv 1)) pa_nil))) (pe_op op_add (pe_cl c_value hr (by decide) (by rfl) (pa_cons (pv 0) (pa_cons (pv 2) pa_nil))) (pv 1)) (nomark _)) (pss_one (ps_ret pe_bl)) pss_nil)))
      (pss_one (ps_ret pe_bl))), ?_⟩
    walk_at "go"
    refine ⟨a, _, rfl, .inl hS, ?_⟩
    rw [List.length_map]
    walk_at "go"
    refine for_gen (n := ds.length) (fun i σ H1 => H1 = H ∧ (∀ k : Nat, k < i → dv ds ((k : Int) + sz) = dv ds (k : Int) + sz) ∧ ∃ v2 : Option V, σ = [some (.ref a), some (.int (sz : Int)), v2]) ⟨rfl, (fun k hk => by omega), none, rfl⟩ ?_ ?_ ?_ ?_
    · intro i σ H1 hi _
      show i < ((ds.length : Int)).toNat
      omega
    · intro σ H1 _
      show ((ds.length : Int)).toNat ≤ ds.length
      omega
    · rintro i σ H1 x H' hi ⟨rfl, hk, v2, rfl⟩ ⟨rfl, rfl⟩
      walk_at "go"
      refine ⟨a, ds, _, rfl, hS, hp, hl, ?_⟩
      walk_at "go"
      refine ⟨a, ds, _, rfl, hS, hp, hl, ?_⟩
      walk_at "go"
      refine ite2 (fun e => ?_) (fun e => ?_)
      · walk_at "go"
        refine q2 (fun z => ?_)
        have := z (0 + (i : Int))
        rw [this] at e
        simp at e
      · refine ⟨rfl, fun k hk2 => ?_, _, rfl⟩
        by_cases c : k = i
        · subst c
          have e : dv ds (0 + (k : Int) + sz) = dv ds (0 + (k : Int)) + sz := by simpa using e
          rw [Int.zero_add] at e
          exact e
        · exact hk k (by omega)
    · rintro σ H1 ⟨rfl, hk, v2, rfl⟩
      walk_at "go"
      exact q1 (per_of hp (of_dv hp).per (fun i hi => hk i hi))
def spLeastL (K : PySem.W.Frag) : Sp := fun vs H Q _ => ∃ (a : Addr) (ds : List Int), vs = [.ref a] ∧ SqL K H a (ds.map V.int) ∧ 0 < ds.length ∧ ds.length ≤ 100000 ∧ ∀ p : Nat, Lp (dv ds) p → Q (.int (p : Int)) H
theorem ok_least (F : FnP K "_law_least" s_least f fd) (m_len : mg "len" = none) (m_range : mg "range" = none) (c_repeats : Cal P w K mg base 2 "_law_repeats" (spRepeats K)) : FnOk P w K mg base CX0 3 f fd P_least (spLeastL K) := by
  refine F.ok sc_least (fun vs H Q E h => ?_) (fun cdv A outer s H vs Q E hr h => ?_)
  · obtain ⟨a, ds, rfl, _⟩ := h
    rfl
  · obtain ⟨a, ds, rfl, hS, hp, hl, q⟩ := h
    refine ⟨_, PSs.nox (pss_cons (ps_for PassesOwn.never rfl (pi_range2 (by rfl) m_range (pa_cons pe_int (pa_cons (pe_callB call_len_seq (by rfl) m_len PySem.boot_len (pa_cons (pv 0) pa_nil)) pa_nil))) (pg_name (i := 1) sc_least.nd rfl (by first | exact .inl rfl | exact .inr rfl))
        (pss_one (ps_if (pt_val (pe_cl c_repeats hr (by decide) (by rfl) (pa_cons (pv 0) (pa_cons (pv 1) pa_nil)))) (pss_one (ps_ret (pv 1))) pss_nil)))
      (pss_one (ps_ret (pe_callB call_len_seq (by rfl) m_len PySem.boot_len (pa_cons (pv 0) pa_nil))))), ?_⟩
    have of := of_dv hp
    walk_at "go"
    refine ⟨a, _, rfl, .inl hS, ?_⟩
    rw [List.length_map]
    walk_at "go"
    refine for_gen (n := ds.length - 1) (fun i σ H1 => H1 = H ∧ (∀ k, 0 < k → k < 1 + i → ¬ Per (dv ds) (k : Int)) ∧ ∃ v1 : Option V, σ = [some (.ref a), v1]) ⟨rfl, (fun k h1 h2 => by omega), none, rfl⟩ ?_ ?_ ?_ ?_
    · intro i σ H1 hi _
      show i < ((ds.length : Int) - 1).toNat
      omega
    · intro σ H1 _
      show ((ds.length : Int) - 1).toNat ≤ ds.length - 1
      omega
    · rintro i σ H1 x H' hi ⟨rfl, hk, v1, rfl⟩ ⟨rfl, rfl⟩
      walk_at "go"
      refine ⟨a, ds, 1 + i, (by rw [show ((1 + i : Nat) : Int) = 1 + (i : Int) by omega]; rfl), hS, hp, hl, fun z => ?_, fun z => ?_⟩
      · walk_at "go"
        have w := q (1 + i) (first_lp (fun k => Per (dv ds) (k : Int)) hp of.per (fun k _ h2 => h2) (fun p l _ => l.per) (by omega) (by omega) hk (fun _ => z))
        rw [show ((1 + i : Nat) : Int) = 1 + (i : Int) by omega] at w
        exact w
      · walk_at "go"
        refine ⟨fun k h1 h2 => ?_, _, rfl⟩
        by_cases c : k = 1 + i
        · rw [c]
          exact z
        · exact hk k h1 (by omega)
    · rintro σ H1 ⟨rfl, hk, v1, rfl⟩
      walk_at "go"
      refine ⟨a, _, rfl, .inl hS, ?_⟩
      rw [List.length_map]
      refine q _ (first_lp (fun k => Per (dv ds) (k : Int)) hp of.per (fun k _ h2 => h2) (fun p l _ => l.per) hp (Nat.le_refl _) (fun k h1 h2 => hk k h1 (by omega)) (fun z => by omega))
end
end Z
set_option pp.maxSteps 700
set_option Elab.async false
set_option linter.all false
set_option maxRecDepth 100000
set_option maxHeartbeats 4000000
namespace Z
open Dy
open PySem PySem.Spec PyProof.Rows L2
open C8 (pss_cut tCut)
local macro_rules | `(tactic| walk_at "num") => `(tactic| first | rfl | omega | decide | exact Nat.le_of_lt (small1000 (by simp)) | exact ⟨by omega, by omega⟩ | exact ⟨by omega, by omega, by omega⟩ | exact ⟨by decide, by decide, by decide⟩ | exact Or.inl ⟨by omega, by omega⟩ | exact Or.inr ⟨by omega, by omega⟩)
local macro_rules | `(tactic| walk_at "go") => `(tactic| repeat (first | refine ⟨_, rfl, ?_⟩ | refine ⟨_, _, rfl, rfl, ?_⟩ | refine ⟨_, _, rfl, ?_⟩ | (refine ⟨_, _, rfl, rfl, ?_, ?_⟩; focus walk_at "num") | refine Or.inl ⟨_, rfl, ?_⟩ | refine ⟨_, _, _, _, rfl, rfl, (by assumption), (by rfl), ?_⟩ | refine ⟨_, _, _, _, _, rfl, (by assumption), (by assumption), (by assumption), (by rfl), ?_⟩ | refine ⟨rfl, ?_⟩ | (refine And.intro ?_ ?_; focus walk_at "num")))
abbrev s_common_divisor : Stmt := topS 2
abbrev N_common_divisor : List Str := ["numbers", "found", "number"]
abbrev P_common_divisor : List Str := ["numbers"]
theorem sc_common_divisor : FnScope N_common_divisor P_common_divisor (defScope s_common_divisor) := ⟨rfl, rfl, rfl, by decide +kernel, rfl, by decide +kernel, by decide +kernel⟩
abbrev s_common_period : Stmt := topS 13
abbrev N_common_period : List Str := ["rules", "period", "rule"]
abbrev P_common_period : List Str := ["rules"]
theorem sc_common_period : FnScope N_common_period P_common_period (defScope s_common_period) := ⟨rfl, rfl, rfl, by decide +kernel, rfl, by decide +kernel, by decide +kernel⟩
section
variable {P : Program} {w : World} {K : PySem.W.Frag} {mg : Str → Option Value} {base : Heap} {f C CD : Addr} {fd : FuncData}
/-! ### common_divisor -/
def spGcd (K : PySem.W.Frag) : Sp := fun vs H Q _ => ∃ (a : Addr) (x y : Nat), vs = [.ref a] ∧ SqL K H a (([(x : Int), (y : Int)] : List Int).map V.int) ∧ Q (.int (Nat.gcd x y : Nat)) H
theorem ok_common_divisor (F : FnP K "common_divisor" s_common_divisor f fd) (m_abs : mg "abs" = none) : FnOk P w K mg base CX0 1 f fd P_common_divisor (spGcd K) := by
  refine F.ok sc_common_divisor (fun vs H Q E h => ?_) (fun cdv A outer s H vs Q E hr h => ?_)
  · obtain ⟨a, x, y, rfl, _⟩ := h
    rfl
  · obtain ⟨a, x, y, rfl, hS, q⟩ := h
    refine ⟨_, PSs.nox (pss_cons (ps_set (i := 1) sc_common_divisor.nd rfl (by first | exact .inl rfl | exact .inr rfl) pe_int)
      (pss_cons (ps_for PassesOwn.never rfl (pi_list (pv 0)) (pg_name (i := 2) sc_common_divisor.nd rfl (by first | exact .inl rfl | exact .inr rfl))
        (pss_cons (ps_set (i := 2) sc_common_divisor.nd rfl (by first | exact .inl rfl | exact .inr rfl) (pe_callB call_abs (by rfl) m_abs (by decide +kernel) (pa_cons (pv 2) pa_nil)))
      (pss_one (ps_while PassesOwn.never (pt_cmpR op_ne (pv 2) pe_int (nomark _))
        (pss_one (ps_par (i := 1) (j := 2) (by rfl) sc_common_divisor.nd rfl rfl (by decide) rfl rfl (pa_cons (pv 2) (pa_cons (pe_op op_mod (pv 1) (pv 2)) pa_nil)) (by rfl)))))))
      (pss_one (ps_ret (pv 1))))), ?_⟩
    walk_at "go"
    refine ⟨⟨_, hS⟩, ?_⟩
    refine for_lst hS (fun k σ H1 => H1 = H ∧ ∃ (g : Nat) (v2 : Option V), g = ([x, y].take k).foldl Nat.gcd 0 ∧ σ = [some (.ref a), some (.int (g : Int)), v2]) ⟨rfl, 0, none, rfl, rfl⟩ (fun k σ H1 p => by rw [p.1]; exact Same.refl _) ?_ ?_
    · rintro k z σ H1 ez ⟨rfl, g, v2, eg, rfl⟩
      obtain ⟨n, rfl, en⟩ : ∃ n : Nat, z = (n : Int) ∧ ([x, y] : List Nat)[k]? = some n := by
        match k, ez with
        | 0, ez => exact ⟨x, (Option.some.inj ez).symm, rfl⟩
        | 1, ez => exact ⟨y, (Option.some.inj ez).symm, rfl⟩
      have e1 : ([x, y].take (k + 1)).foldl Nat.gcd 0 = Nat.gcd g n := by
        match k, en with
        | 0, en => cases en; rw [eg]; rfl
        | 1, en => cases en; rw [eg]; rfl
      have eab : (if (n : Int) < 0 then -(n : Int) else (n : Int)) = n := if_neg (by omega)
      walk_at "go"
      refine ⟨fun m σ' H' => H' = H1 ∧ ∃ u v : Nat, m = v ∧ Nat.gcd u v = Nat.gcd g n ∧ σ' = [some (.ref a), some (.int (u : Int)), some (.int (v : Int))], ⟨n, rfl, g, n, rfl, rfl, ?_⟩, ?_⟩
      · show [some (V.ref a), some (V.int (g : Int)), some (V.int (if (n : Int) < 0 then -(n : Int) else (n : Int)))] = _
        rw [eab]
      rintro m σ' H' ⟨rfl, u, v, rfl, eg2, rfl⟩
      walk_at "go"
      refine ite2 (fun c => ?_) (fun c => ?_)
      · have hv : 0 < m := by
          rcases Nat.eq_zero_or_pos m with z | z
          · rw [z] at c
            cases c
          · exact z
        refine ⟨fun σ' H2 => H2 = H' ∧ ∃ u v : Nat, v < m ∧ Nat.gcd u v = Nat.gcd g n ∧ σ' = [some (.ref a), some (.int (u : Int)), some (.int (v : Int))], fun σ' H2 z => ?_, ?_⟩
        · obtain ⟨rfl, u2, v2, h1, h2, rfl⟩ := z
          exact ⟨v2, h1, rfl, u2, v2, rfl, h2, rfl⟩
        walk_at "go"
        refine ⟨m, u % m, Nat.mod_lt _ hv, ?_, rfl⟩
        rw [← eg2, Nat.gcd_comm m, ← Nat.gcd_rec, Nat.gcd_comm]
      · have hv : m = 0 := by
          apply Decidable.byContradiction
          intro z
          refine c ?_
          show (!decide (V.int (m : Int) = V.int 0)) = true
          rw [decide_eq_false (fun h => by have := V.int.inj h; omega)]
          rfl
        subst hv
        rw [Nat.gcd_zero_right] at eg2
        refine ⟨rfl, u, _, ?_, rfl⟩
        rw [eg2, e1]
    · rintro σ H1 ⟨rfl, g, v2, eg, rfl⟩
      walk_at "go"
      have e1 : g = Nat.gcd x y := by
        rw [eg]
        show Nat.gcd (Nat.gcd 0 x) y = _
        rw [Nat.gcd_zero_left]
      rw [e1]
      exact q
/-! ### common_period -/
def spPer (C : Addr) (K : PySem.W.Frag) : Sp := fun vs H Q _ => ∃ (l n m : Addr) (ds es : List Int), vs = [.ref l] ∧ H l = some (.lst [.ref n, .ref m]) ∧ RuleAt C K H n ds ∧ RuleAt C K H m es ∧ 0 < ds.length ∧ 0 < es.length ∧ ds.length ≤ 30000 ∧ es.length ≤ 30000 ∧
  ∀ H', Same H H' → Q (.int (Nat.lcm ds.length es.length : Nat)) H'
theorem ok_common_period (F : FnP K "common_period" s_common_period f fd) (m_len : mg "len" = none) (cls : Cls K C) (n_days : NoAttr K C "days") (c_common_divisor : Cal P w K mg base 1 "common_divisor" (spGcd K)) : FnOk P w K mg base CX0 2 f fd P_common_period (spPer C K) := by
  refine F.ok sc_common_period (fun vs H Q E h => ?_) (fun cdv A outer s H vs Q E hr h => ?_)
  · obtain ⟨l, n, m, ds, es, rfl, _⟩ := h
    rfl
  · obtain ⟨l, n, m, ds, es, rfl, hL, hN, hM, d0, e0, d1, e1, q⟩ := h
    refine ⟨_, PSs.nox (pss_cons (ps_set (i := 1) sc_common_period.nd rfl (by first | exact .inl rfl | exact .inr rfl) pe_int)
      (pss_cons (ps_for PassesOwn.never rfl (pi_list (pv 0)) (pg_name (i := 2) sc_common_period.nd rfl (by first | exact .inl rfl | exact .inr rfl))
        (pss_one (ps_set (i := 1) sc_common_period.nd rfl (by first | exact .inl rfl | exact .inr rfl) (pe_op op_fdiv (pe_op op_mul (pv 1) (pe_callB call_len_seq (by rfl) m_len PySem.boot_len (pa_cons (pe_fld (pv 2) rfl) pa_nil))) (pe_cl c_common_divisor hr (by decide) (by rfl) (pa_cons (pe_lst (pa_cons (pv 1) (pa_cons (pe_callB call_len_seq (by rfl) m_len PySem.boot_len (pa_cons (pe_fld (pv 2) rfl) pa_nil)) pa_nil))) pa_nil))))))
      (pss_one (ps_ret (pv 1))))), ?_⟩
    have turn : ∀ (o : Addr) (fs : List Int) (p : Nat), True := fun _ _ _ => trivial
    walk_at "go"
    refine ⟨⟨_, SqL.of hL⟩, ?_⟩
    refine for_vs (SqL.of hL) (fun k σ H1 => Same H H1 ∧ ∃ (p : Nat) (v2 : Option V), (match k with
      | 0 => p = 1
      | 1 => p = ds.length
      | _ => p = Nat.lcm ds.length es.length) ∧ σ = [some (.ref l), some (.int (p : Int)), v2]) ⟨Same.refl _, 1, none, rfl, rfl⟩ (fun k σ H1 p => p.1) ?_ ?_
    · rintro k x σ H1 ex ⟨s1, p, v2, hp, rfl⟩
      obtain ⟨o, fs, rfl, hO, f0, f1, p0, p1, hnext⟩ : ∃ (o : Addr) (fs : List Int), x = .ref o ∧ RuleAt C K H1 o fs ∧ 0 < fs.length ∧ fs.length ≤ 30000 ∧ 0 < p ∧ p ≤ 30000 ∧ (match k + 1 with
        | 0 => p * fs.length / Nat.gcd p fs.length = 1
        | 1 => p * fs.length / Nat.gcd p fs.length = ds.length
        | _ => p * fs.length / Nat.gcd p fs.length = Nat.lcm ds.length es.length) := by
        match k, ex, hp with
        | 0, ex, hp =>
          have hp : p = 1 := hp
          subst hp
          refine ⟨n, ds, (Option.some.inj ex).symm, hN.mono s1, d0, d1, by decide, by decide, ?_⟩
          show 1 * ds.length / Nat.gcd 1 ds.length = ds.length
          rw [Nat.gcd_one_left, Nat.one_mul, Nat.div_one]
        | 1, ex, hp =>
          have hp : p = ds.length := hp
          subst hp
          refine ⟨m, es, (Option.some.inj ex).symm, hM.mono s1, e0, e1, d0, d1, ?_⟩
          rfl
      have hO' := hO
      obtain ⟨dx, t, a1, a2⟩ := hO'
      have g0 : 0 < Nat.gcd p fs.length := Nat.gcd_pos_of_pos_left _ p0
      have g1 : Nat.gcd p fs.length ≤ p := Nat.le_of_dvd p0 (Nat.gcd_dvd_left _ _)
      walk_at "go"
      refine ⟨t, _, rfl, .inr (SqT.of a2), ?_⟩
      rw [List.length_map]
      walk_at "go"
      refine ⟨t, _, rfl, .inr (SqT.of a2), ?_⟩
      rw [List.length_map]
      walk_at "go"
      intro G nG
      generalize eH_ : upd H1 G _ = H2
      have s2 : Same H1 H2 := by rw [← eH_]; exact same_new nG
      have eG : H2 G = some (.lst (([(p : Int), (fs.length : Int)] : List Int).map V.int)) := by rw [← eH_]; exact upd_same
      clear eH_
      walk_at "go"
      refine ⟨G, p, fs.length, rfl, SqL.of eG, ?_⟩
      have e9 : (p : Int) * (fs.length : Int) / ((Nat.gcd p fs.length : Nat) : Int) = ((p * fs.length / Nat.gcd p fs.length : Nat) : Int) := by rw [Int.natCast_ediv, Int.natCast_mul]
      refine ⟨_, _, rfl, rfl, ⟨by omega, by omega⟩, ?_⟩
      walk_at "go"
      refine ⟨s1.trans s2, p * fs.length / Nat.gcd p fs.length, _, ?_, by rw [← e9]; rfl⟩
      match k, hnext with
      | 0, hnext => exact hnext
      | k + 1, hnext => exact hnext
    · rintro σ H1 ⟨s1, p, v2, h1, rfl⟩
      have h1 : p = Nat.lcm ds.length es.length := h1
      walk_at "go"
      rw [h1]
      exact q H1 s1
end
end Z
set_option pp.maxSteps 700
set_option Elab.async false
set_option linter.all false
set_option maxRecDepth 100000
set_option maxHeartbeats 4000000
namespace Z
open Dy
open PySem PySem.Spec PyProof.Rows L2
open C8 (pss_cut tCut)
local macro_rules | `(tactic| walk_at "num") => `(tactic| first | rfl | omega | decide | exact Nat.le_of_lt (small1000 (by simp)) | exact ⟨by omega, by omega⟩ | exact ⟨by omega, by omega, by omega⟩ | exact ⟨by decide, by decide, by decide⟩ | exact Or.inl ⟨by omega, by omega⟩ | exact Or.inr ⟨by omega, by omega⟩)
local macro_rules | `(tactic| walk_at "go") => `(tactic| repeat (first | refine ⟨_, rfl, ?_⟩ | refine ⟨_, _, rfl, rfl, ?_⟩ | refine ⟨_, _, rfl, ?_⟩ | (refine ⟨_, _, rfl, rfl, ?_, ?_⟩; focus walk_at "num") | refine Or.inl ⟨_, rfl, ?_⟩ | refine ⟨_, _, _, _, rfl, rfl, (by assumption), (by rfl), ?_⟩ | refine ⟨_, _, _, _, _, rfl, (by assumption), (by assumption), (by assumption), (by rfl), ?_⟩ | refine ⟨rfl, ?_⟩ | (refine And.intro ?_ ?_; focus walk_at "num")))
abbrev s_used_times : Stmt := topS 11
abbrev N_used_times : List Str := ["days", "count", "reached", "power", "left", "day"]
abbrev P_used_times : List Str := ["days", "count"]
theorem sc_used_times : FnScope N_used_times P_used_times (defScope s_used_times) := ⟨rfl, rfl, rfl, by decide +kernel, rfl, by decide +kernel, by decide +kernel⟩
theorem rgV_map (n : Nat) : rgV 0 (n : Int) = (((List.range n).map fun (i : Nat) => (i : Int)).map V.int) := by
  unfold rgV
  rw [show ((n : Int) - 0).toNat = n by omega, List.map_map]
  congr 1
  funext i
  show V.int (0 + (i : Int)) = V.int (i : Int)
  rw [Int.zero_add]
theorem of_id {n : Nat} (h : 0 < n) : Of (it F 0) ((List.range n).map fun (i : Nat) => (i : Int)) := of_range (F := it F 0) h fun d => rfl
/-- a list of values, led on -/
theorem of_led {F G : Int → Int} {es : List Int} (o : Of F es) (h : Per G (es.length : Int)) : Of (fun d => G (F d)) (es.map G) := by
  refine ⟨by rw [List.length_map]; exact o.pos, by rw [List.length_map]; exact o.per.comp h, fun i hi => ?_⟩
  rw [List.length_map] at hi
  rw [List.getD_eq_getElem?_getD, List.getElem?_map, ← o.at_ i hi, List.getD_eq_getElem?_getD, List.getElem?_eq_getElem hi]
  rfl
section
variable {P : Program} {w : World} {K : PySem.W.Frag} {mg : Str → Option Value} {base : Heap} {f C CD : Addr} {fd : FuncData}
def spUsedT (K : PySem.W.Frag) : Sp := fun vs H Q _ => ∃ (a : Addr) (ds : List Int) (F : Int → Int) (c : Nat), vs = [.ref a, .int (c : Int)] ∧ SqT K H a (ds.map V.int) ∧ Of F ds ∧ ds.length ≤ 30000 ∧
  ∀ (L : Addr) H' (es : List Int), Same H H' → H' L = some (.lst (es.map V.int)) → Of (it F c) es → es.length = ds.length → Q (.ref L) H'
theorem ok_used_times (F : FnP K "used_times" s_used_times f fd) (m_len : mg "len" = none) (m_list : mg "list" = none) (m_range : mg "range" = none) (c_day_at : Cal P w K mg base 1 "day_at" (spDayAt K)) : FnOk P w K mg base CX0 2 f fd P_used_times (spUsedT K) := by
  refine F.ok sc_used_times (fun vs H Q E h => ?_) (fun cdv A outer s H vs Q E hr h => ?_)
  · obtain ⟨a, ds, F, c, rfl, _⟩ := h
    rfl
  · obtain ⟨a, ds, F, c, rfl, hS, o, hl, q⟩ := h
    have hp := o.pos
    refine ⟨_, PSs.nox (pss_cons (ps_set (i := 2) sc_used_times.nd rfl (by first | exact .inl rfl | exact .inr rfl) (pe_listRg rfl (by rfl) m_list (prg_1 (by rfl) m_range (pe_callB call_len_seq (by rfl) m_len PySem.boot_len (pa_cons (pv 0) pa_nil)))))
      (pss_cons (ps_set (i := 3) sc_used_times.nd rfl (by first | exact .inl rfl | exact .inr rfl) (pe_callTy call_list_of (by rfl) m_list (by decide +kernel) (pa_cons (pv 0) pa_nil)))
      (pss_cons (ps_set (i := 4) sc_used_times.nd rfl (by first | exact .inl rfl | exact .inr rfl) (pv 1))
      (pss_cons (ps_while PassesOwn.never (pt_cmpR op_gt (pv 4) pe_int (nomark _))
        (pss_cut (ps_if (pt_cmpR op_eq (pe_op op_mod (pv 4) pe_int) pe_int (nomark _)) (pss_one (ps_setLc (i := 2) (own := [("day", 5)]) (g := (gName 5)) (tt := tYes) (by rfl) sc_used_times.nd rfl rfl (sw_true rfl rfl rfl (by decide +kernel)) (pi_list (pv 2)) (blkOk_by (own := [("day", 5)]) (N := N_used_times) (sc := defScope s_used_times) (by decide +kernel)) (fun _ _ _ _ _ => (pg_name (i := 5) sc_used_times.nd rfl (by first | exact .inl rfl | exact .inr rfl))) (fun _ _ _ _ _ => pts_nil) (fun _ _ _ _ _ => (pe_cl c_day_at hr (by decide) (by rfl) (pa_cons (pv 3) (pa_cons (pv 5) pa_nil)))))) pss_nil)
      (pss_cons (ps_set (i := 3) sc_used_times.nd rfl (by first | exact .inl rfl | exact .inr rfl) (pe_lc (own := [("day", 5)]) (g := (gName 5)) (tt := tYes) (by rfl) sc_used_times.nd (pi_list (pv 3)) (blkOk_by (own := [("day", 5)]) (N := N_used_times) (sc := defScope s_used_times) (by decide +kernel)) (fun _ _ _ _ _ => (pg_name (i := 5) sc_used_times.nd rfl (by first | exact .inl rfl | exact .inr rfl))) (fun _ _ _ _ _ => pts_nil) (fun _ _ _ _ _ => (pe_cl c_day_at hr (by decide) (by rfl) (pa_cons (pv 3) (pa_cons (pv 5) pa_nil))))))
      (pss_one (ps_set (i := 4) sc_used_times.nd rfl (by first | exact .inl rfl | exact .inr rfl) (pe_op op_fdiv (pv 4) pe_int))))))
      (pss_one (ps_ret (pv 2))))))), ?_⟩
    walk_at "go"
    refine ⟨a, _, rfl, .inr (hS), ?_⟩
    rw [List.length_map]
    walk_at "go"
    rw [rgV_map]
    intro R nR
    generalize eH_ : upd H R _ = H1
    have s1 : Same H H1 := by rw [← eH_]; exact same_new nR
    have eR : H1 R = some (.lst (((List.range ds.length).map fun (i : Nat) => (i : Int)).map V.int)) := by rw [← eH_]; exact upd_same
    clear eH_
    walk_at "go"
    refine ⟨a, _, rfl, .inr (Z.Same.sqT s1 hS), ?_⟩
    intro W nW
    generalize eH_ : upd H1 W _ = H2
    have s2 : Same H1 H2 := by rw [← eH_]; exact same_new nW
    have eW : H2 W = some (.lst (ds.map V.int)) := by rw [← eH_]; exact upd_same
    clear eH_
    walk_at "go"
    refine ⟨fun m σ' H' => Same H H' ∧ ∃ (R W : Addr) (rs ws : List Int) (x y : Nat), H' R = some (.lst (rs.map V.int)) ∧ H' W = some (.lst (ws.map V.int)) ∧ Of (it F x) rs ∧ Of (it F y) ws ∧ rs.length = ds.length ∧ ws.length = ds.length ∧ x + y * m = c ∧ σ' = [some (.ref a), some (.int (c : Int)), some (.ref R), some (.ref W), some (.int (m : Int)), none], ⟨c, s1.trans s2, R, W, _, ds, 0, 1, s2 _ _ eR, eW, of_range (F := it F 0) hp fun d => rfl, o, by rw [List.length_map, List.length_range], rfl, by omega, rfl⟩, ?_⟩
    clear s1 s2 eR eW nR nW
    clear R W H1 H2
    rintro m σ' H1 ⟨s1, R, W, rs, ws, x, y, eR, eW, oR, oW, lR, lW, hc, rfl⟩
    have pR := oR.per
    have pW := oW.per
    rw [lR] at pR
    rw [lW] at pW
    walk_at "go"
    refine ite2 (fun e => ?_) (fun e => ?_)
    rotate_left
    · have hm : m = 0 := by
        have := of_decide_eq_false (Bool.eq_false_iff.mpr e)
        omega
      subst hm
      walk_at "go"
      rw [Nat.mul_zero, Nat.add_zero] at hc
      rw [hc] at oR
      exact q R H1 rs s1 eR oR lR
    have hm : 0 < m := by
      have := of_decide_eq_true e
      omega
    refine ⟨fun σ' H' => Same H H' ∧ ∃ (R W : Addr) (rs ws : List Int) (x y : Nat), H' R = some (.lst (rs.map V.int)) ∧ H' W = some (.lst (ws.map V.int)) ∧ Of (it F x) rs ∧ Of (it F y) ws ∧ rs.length = ds.length ∧ ws.length = ds.length ∧ x + y * (m / 2) = c ∧ σ' = [some (.ref a), some (.int (c : Int)), some (.ref R), some (.ref W), some (.int ((m / 2 : Nat) : Int)), none], fun σ' H' z => ?_, ?_⟩
    · obtain ⟨s, z⟩ := z
      exact ⟨m / 2, Nat.div_lt_self hm (by decide), s, z⟩
    refine ⟨fun σ' H' => Same H1 H' ∧ H' W = some (.lst (ws.map V.int)) ∧ ∃ (R : Addr) (rs : List Int) (x' : Nat), H' R = some (.lst (rs.map V.int)) ∧ Of (it F x') rs ∧ rs.length = ds.length ∧ x' + y * 2 * (m / 2) = c ∧ σ' = [some (.ref a), some (.int (c : Int)), some (.ref R), some (.ref W), some (.int (m : Int)), none], ?_, ?_⟩
    · have e2 : y * m = y * (m % 2) + y * 2 * (m / 2) := by
        rw [Nat.mul_assoc, ← Nat.mul_add]
        congr 1
        omega
      walk_at "go"
      refine ite2 (fun e => ?_) (fun e => ?_)
      · have hm2 : m % 2 = 1 := by
          have := V.int.inj (of_decide_eq_true e)
          omega
        rw [hm2, Nat.mul_one] at e2
        walk_at "go"
        refine ⟨⟨_, SqL.of eR⟩, fun D nD => ?_⟩
        refine lc_lst (SqL.of eR) (it F y) (by omega) nD (fun _ => rfl) ?_ ?_
        · intro z H2 Q1 hz s2 q1
          walk_at "go"
          refine ⟨true, W, ws, z, rfl, SqL.of (s2 _ _ eW), oW.pos, by omega, ?_⟩
          rw [oW.dv]
          exact q1 _ (Same.refl _)
        intro H2 s2 eD
        walk_at "go"
        refine ⟨s2 _ _ eW, D, _, x + y, eD, of_congr (of_led oR (by rw [lR]; exact pW)) (fun d => (it_add F x y d).symm), by rw [List.length_map]; exact lR, by omega, rfl⟩
      · have hm2 : m % 2 = 0 := by
          have : ¬ (m : Int) % 2 = 1 := fun z => e (decide_eq_true (congrArg V.int z))
          omega
        rw [hm2, Nat.mul_zero] at e2
        exact ⟨Same.refl _, eW, R, rs, x, eR, oR, lR, by omega, rfl⟩
    rintro σ' H2 ⟨s2, eW2, R2, rs2, x2, eR2, oR2, lR2, hc2, rfl⟩
    walk_at "go"
    refine ⟨⟨_, SqL.of eW2⟩, fun D nD => ?_⟩
    refine lc_lst (SqL.of eW2) (it F y) (by omega) nD (fun _ => rfl) ?_ ?_
    · intro z H3 Q1 hz s3 q1
      walk_at "go"
      refine ⟨true, W, ws, z, rfl, SqL.of (s3 _ _ eW2), oW.pos, by omega, ?_⟩
      rw [oW.dv]
      exact q1 _ (Same.refl _)
    intro H3 s3 eD
    walk_at "go"
    refine ⟨s1.trans (s2.trans s3), R2, D, rs2, _, x2, y + y, s3 _ _ eR2, eD, oR2, of_congr (of_led oW (by rw [lW]; exact pW)) (fun d => (it_add F y y d).symm), lR2, by rw [List.length_map]; exact lW, by rw [show y + y = y * 2 by omega]; exact hc2, by rw [Int.natCast_ediv]; rfl⟩
end
end Z
set_option pp.maxSteps 700
set_option Elab.async false
set_option linter.all false
set_option maxRecDepth 100000
set_option maxHeartbeats 4000000
namespace Z
open Dy
open PySem PySem.Spec PyProof.Rows L2
open C8 (pss_cut tCut)
local macro_rules | `(tactic| walk_at "num") => `(tactic| first | rfl | omega | decide | exact Nat.le_of_lt (small1000 (by simp)) | exact ⟨by omega, by omega⟩ | exact ⟨by omega, by omega, by omega⟩ | exact ⟨by decide, by decide, by decide⟩ | exact Or.inl ⟨by omega, by omega⟩ | exact Or.inr ⟨by omega, by omega⟩)
local macro_rules | `(tactic| walk_at "go") => `(tactic| repeat (first | refine ⟨_, rfl, ?_⟩ | refine ⟨_, _, rfl, rfl, ?_⟩ | refine ⟨_, _, rfl, ?_⟩ | (refine ⟨_, _, rfl, rfl, ?_, ?_⟩; focus walk_at "num") | refine Or.inl ⟨_, rfl, ?_⟩ | refine ⟨_, _, _, _, rfl, rfl, (by assumption), (by rfl), ?_⟩ | refine ⟨_, _, _, _, _, rfl, (by assumption), (by assumption), (by assumption), (by rfl), ?_⟩ | refine ⟨rfl, ?_⟩ | (refine And.intro ?_ ?_; focus walk_at "num")))
abbrev s_DayRule___rshift__ : Stmt := inClass (topS 14) 4
abbrev N_DayRule___rshift__ : List Str := ["self", "other", "many", "day"]
abbrev P_DayRule___rshift__ : List Str := ["self", "other"]
theorem sc_DayRule___rshift__ : FnScope N_DayRule___rshift__ P_DayRule___rshift__ (defScope s_DayRule___rshift__) := ⟨rfl, rfl, rfl, by decide +kernel, rfl, by decide +kernel, by decide +kernel⟩
abbrev s_DayRule___or__ : Stmt := inClass (topS 14) 5
abbrev N_DayRule___or__ : List Str := ["self", "other", "many", "day"]
abbrev P_DayRule___or__ : List Str := ["self", "other"]
theorem sc_DayRule___or__ : FnScope N_DayRule___or__ P_DayRule___or__ (defScope s_DayRule___or__) := ⟨rfl, rfl, rfl, by decide +kernel, rfl, by decide +kernel, by decide +kernel⟩
abbrev s_DayRule___and__ : Stmt := inClass (topS 14) 6
abbrev N_DayRule___and__ : List Str := ["self", "other", "many", "day"]
abbrev P_DayRule___and__ : List Str := ["self", "other"]
theorem sc_DayRule___and__ : FnScope N_DayRule___and__ P_DayRule___and__ (defScope s_DayRule___and__) := ⟨rfl, rfl, rfl, by decide +kernel, rfl, by decide +kernel, by decide +kernel⟩
abbrev s_DayRule___mul__ : Stmt := inClass (topS 14) 7
abbrev N_DayRule___mul__ : List Str := ["self", "count"]
abbrev P_DayRule___mul__ : List Str := ["self", "count"]
theorem sc_DayRule___mul__ : FnScope N_DayRule___mul__ P_DayRule___mul__ (defScope s_DayRule___mul__) := ⟨rfl, rfl, rfl, by decide +kernel, rfl, by decide +kernel, by decide +kernel⟩
/-- a rule and its function; all periods divide M -/
structure RuleF (C : Addr) (K : PySem.W.Frag) (H : Hp) (n : Addr) (M : Nat) (F : Int → Int) : Prop where
  ex : ∃ ds, RuleAt C K H n ds ∧ Of F ds ∧ Lp F ds.length
  per : Per F (M : Int)
  mon : Mon F
theorem RuleF.mono {C : Addr} {K : PySem.W.Frag} {H H' : Hp} {n : Addr} {M : Nat} {F : Int → Int} (s : Same H H') (h : RuleF C K H n M F) : RuleF C K H' n M F := by
  obtain ⟨⟨ds, a, b⟩, c, d⟩ := h
  exact ⟨⟨ds, a.mono s, b⟩, c, d⟩
theorem RuleF.at_ {C : Addr} {K : PySem.W.Frag} {H : Hp} {n : Addr} {M : Nat} {F : Int → Int} (h : RuleF C K H n M F) : ∃ dx fs, H n = some (.ins C dx fs) := by
  obtain ⟨⟨ds, ⟨dx, t, e, _⟩, _⟩, _⟩ := h
  exact ⟨_, _, e⟩
theorem RuleF.congr {C : Addr} {K : PySem.W.Frag} {H : Hp} {n : Addr} {M : Nat} {F G : Int → Int} (h : RuleF C K H n M F) (e : ∀ d, F d = G d) : RuleF C K H n M G := by
  have : F = G := funext e
  rw [← this]
  exact h
section
variable {P : Program} {w : World} {K : PySem.W.Frag} {mg : Str → Option Value} {base : Heap} {f C CD CC : Addr} {fd : FuncData}
/-- DayRule(es), es the values of F -/
theorem mk_rule {b : Bool} {n dx l : Addr} {H : Hp} {es : List Int} {F : Int → Int} {M : Nat} {R : Hp → Prop} {E : XK} (n1 : H n = none) (n2 : H dx = none) (n3 : dx ≠ n) (hA : H l = some (bO b (es.map V.int))) (hl : es.length ≤ 100000) (o : Of F es) (mo : Mon F) (pm : Per F (M : Int)) (q : ∀ H', Same H H' → RuleF C K H' n M F → R H') :
    spInit C CD K [.ref n, .ref l] (upd (upd H dx (.own n)) n (.ins C dx [])) (fun v H2 => v = .non ∧ R H2) E := by
  have g := Gd.of o mo
  have s1 : Same H (upd (upd H dx (.own n)) n (.ins C dx [])) := Z.Same.mut (same_new n2) n1
  refine ⟨b, n, dx, l, es, rfl, upd_same, s1 _ _ hA, hl, fun hf p H1 sb lp r => ⟨rfl, ?_⟩, fun i hf => by rw [g.fault] at hf; cases hf⟩
  have e : dv es = F := funext o.dv
  rw [e] at lp
  obtain ⟨h1, h2, h3⟩ := o.take lp
  exact q H1 (fun c x h => sb c x (ne_of_none h n1) (s1 _ _ h)) ⟨⟨_, r, h3, by rw [h2]; exact lp⟩, pm, mo⟩
def spOp (C : Addr) (K : PySem.W.Frag) (h : (Int → Int) → (Int → Int) → Int → Int) : Sp := fun vs H Q _ => ∃ (n m : Addr) (M : Nat) (F G : Int → Int), vs = [.ref n, .ref m] ∧ RuleF C K H n M F ∧ RuleF C K H m M G ∧ 0 < M ∧ M ≤ 30000 ∧ ∀ (r : Addr) H', Same H H' → RuleF C K H' r M (h F G) → Q (.ref r) H'
theorem rd_bin {n m : Addr} {H : Hp} {M : Nat} {F G : Int → Int} {h : (Int → Int) → (Int → Int) → Int → Int} {R : VK} (hF : RuleF C K H n M F) (hG : RuleF C K H m M G) (h0 : 0 < M) (h1 : M ≤ 30000) (q : ∀ (r : Addr) H', Same H H' → RuleF C K H' r M (h F G) → R (.ref r) H') : rBin C (spOp C K h) (.ref n) (.ref m) H R := by
  obtain ⟨dx, fs, e⟩ := hF.at_
  obtain ⟨dy, gs, e2⟩ := hG.at_
  exact ⟨n, m, dx, dy, fs, gs, rfl, rfl, e, e2, n, m, M, F, G, rfl, hF, hG, h0, h1, fun r H' s hr => ⟨r, rfl, q r H' s hr⟩⟩
theorem lp_le {F : Int → Int} {p M : Nat} (l : Lp F p) (h0 : 0 < M) (h : Per F (M : Int)) : p ≤ M := l.least M h0 h
theorem lcm_le {F G : Int → Int} {p q M : Nat} (l : Lp F p) (k : Lp G q) (h0 : 0 < M) (h : Per F (M : Int)) (h2 : Per G (M : Int)) : 0 < Nat.lcm p q ∧ Nat.lcm p q ≤ M ∧ Per F ((Nat.lcm p q : Nat) : Int) ∧ Per G ((Nat.lcm p q : Nat) : Int) := by
  have d1 := Nat.dvd_of_mod_eq_zero (l.dvd h)
  have d2 := Nat.dvd_of_mod_eq_zero (k.dvd h2)
  exact ⟨Nat.lcm_pos l.pos k.pos, Nat.le_of_dvd h0 (Nat.lcm_dvd d1 d2), l.per.dvd (Nat.mod_eq_zero_of_dvd (Nat.dvd_lcm_left p q)), k.per.dvd (Nat.mod_eq_zero_of_dvd (Nat.dvd_lcm_right p q))⟩
theorem ok_rshift (F : FnM K "__rshift__" "DayRule.__rshift__" s_DayRule___rshift__ f fd) (m_range : mg "range" = none) (cls : Cls K C) (n_days : NoAttr K C "days") (c_day_at : Cal P w K mg base 1 "day_at" (spDayAt K)) (c_common_period : Cal P w K mg base 2 "common_period" (spPer C K)) (k_DayRule : MakX P w K mg base 4 "DayRule" C (spInit C CD K)) : FnOk P w K mg base CX0 6 f fd P_DayRule___rshift__ (spOp C K fun F G d => G (F d)) := by
  refine F.ok sc_DayRule___rshift__ (fun vs H Q E h => ?_) (fun cdv A outer s H vs Q E hr h => ?_)
  · obtain ⟨n, m, M, F, G, rfl, _⟩ := h
    rfl
  · obtain ⟨n, m, M, F, G, rfl, hF, hG, m0, m1, q⟩ := h
    refine ⟨_, PSs.nox (pss_cons (ps_set (i := 2) sc_DayRule___rshift__.nd rfl (by first | exact .inl rfl | exact .inr rfl) (pe_cl c_common_period hr (by decide) (by rfl) (pa_cons (pe_lst (pa_cons (pv 0) (pa_cons (pv 1) pa_nil))) pa_nil)))
      (pss_one (ps_ret (pe_mkE k_DayRule (fun _ => passS0) hr (by decide) (by rfl) (pa_cons (pe_lc (own := [("day", 3)]) (g := (gName 3)) (tt := tYes) (by rfl) sc_DayRule___rshift__.nd (pi_range1 (by rfl) m_range (pa_cons (pv 2) pa_nil)) (blkOk_by (own := [("day", 3)]) (N := N_DayRule___rshift__) (sc := defScope s_DayRule___rshift__) (by decide +kernel)) (fun _ _ _ _ _ => (pg_name (i := 3) sc_DayRule___rshift__.nd rfl (by first | exact .inl rfl | exact .inr rfl))) (fun _ _ _ _ _ => pts_nil) (fun _ _ _ _ _ => (pe_cl c_day_at hr (by decide) (by rfl) (pa_cons (pe_fld_K (K := K) rfl (pv 1) rfl) (pa_cons (pe_cl c_day_at hr (by decide) (by rfl) (pa_cons (pe_fld_K (K := K) rfl (pv 0) rfl) (pa_cons (pv 3) pa_nil))) pa_nil))))) pa_nil))))), ?_⟩
    obtain ⟨⟨ds, rN, oF, lF⟩, pF, moF⟩ := hF
    obtain ⟨⟨es, rM, oG, lG⟩, pG, moG⟩ := hG
    have lds := lp_le lF m0 pF
    have les := lp_le lG m0 pG
    obtain ⟨k0, k1, pF2, pG2⟩ := lcm_le lF lG m0 pF pG
    walk_at "go"
    intro l nl
    generalize eH_ : upd H l _ = H1
    have s1 : Same H H1 := by rw [← eH_]; exact same_new nl
    have el : H1 l = some (.lst [.ref n, .ref m]) := by rw [← eH_]; exact upd_same
    clear eH_
    have rN1 := rN.mono s1
    have rM1 := rM.mono s1
    walk_at "go"
    refine ⟨l, n, m, ds, es, rfl, el, rN1, rM1, oF.pos, oG.pos, by omega, by omega, fun H2 s2 => ?_⟩
    generalize Nat.lcm ds.length es.length = N at k0 k1 pF2 pG2 ⊢
    obtain ⟨dx, t, a1, a2⟩ := rN1.mono s2
    obtain ⟨dy, u, b1, b2⟩ := rM1.mono s2
    walk_at "go"
    intro D nD
    refine lc_rng (K := K) (n := N) (fun k => G (F (k : Int))) (by omega) nD (fun _ => rfl) ?_ ?_
    · intro k H3 Q1 hk s3 q1
      have a13 := s3 _ _ a1
      have b13 := s3 _ _ b1
      walk_at "go"
      refine ⟨false, t, ds, _, rfl, SqT.of (s3 _ _ a2), oF.pos, by omega, ?_⟩
      walk_at "go"
      refine ⟨false, u, es, _, rfl, SqT.of (s3 _ _ b2), oG.pos, by omega, ?_⟩
      rw [oF.dv, oG.dv, Int.zero_add]
      exact q1 _ (Same.refl _)
    intro H3 s3 eD
    walk_at "go"
    intro r dz n1 n2 n3
    refine mk_rule (b := true) n1 n2 n3 eD ?_ (of_range (F := fun d => G (F d)) k0 (pF2.comp pG2)) (moF.comp moG) (pF.comp pG) (fun H4 s4 rF => ?_)
    · rw [List.length_map, List.length_range]
      omega
    exact q r H4 (s1.trans (s2.trans (s3.trans s4))) rF
theorem ok_or (F : FnM K "__or__" "DayRule.__or__" s_DayRule___or__ f fd) (m_range : mg "range" = none) (m_max : mg "max" = none) (cls : Cls K C) (n_days : NoAttr K C "days") (c_day_at : Cal P w K mg base 1 "day_at" (spDayAt K)) (c_common_period : Cal P w K mg base 2 "common_period" (spPer C K)) (k_DayRule : MakX P w K mg base 4 "DayRule" C (spInit C CD K)) : FnOk P w K mg base CX0 6 f fd P_DayRule___or__ (spOp C K fun F G d => max (F d) (G d)) := by
  refine F.ok sc_DayRule___or__ (fun vs H Q E h => ?_) (fun cdv A outer s H vs Q E hr h => ?_)
  · obtain ⟨n, m, M, F, G, rfl, _⟩ := h
    rfl
  · obtain ⟨n, m, M, F, G, rfl, hF, hG, m0, m1, q⟩ := h
    refine ⟨_, PSs.nox (pss_cons (ps_set (i := 2) sc_DayRule___or__.nd rfl (by first | exact .inl rfl | exact .inr rfl) (pe_cl c_common_period hr (by decide) (by rfl) (pa_cons (pe_lst (pa_cons (pv 0) (pa_cons (pv 1) pa_nil))) pa_nil)))
      (pss_one (ps_ret (pe_mkE k_DayRule (fun _ => passS0) hr (by decide) (by rfl) (pa_cons (pe_lc (own := [("day", 3)]) (g := (gName 3)) (tt := tYes) (by rfl) sc_DayRule___or__.nd (pi_range1 (by rfl) m_range (pa_cons (pv 2) pa_nil)) (blkOk_by (own := [("day", 3)]) (N := N_DayRule___or__) (sc := defScope s_DayRule___or__) (by decide +kernel)) (fun _ _ _ _ _ => (pg_name (i := 3) sc_DayRule___or__.nd rfl (by first | exact .inl rfl | exact .inr rfl))) (fun _ _ _ _ _ => pts_nil) (fun _ _ _ _ _ => (pe_callB (call_max2 rfl) (by rfl) m_max (by decide +kernel) (pa_cons (pe_cl c_day_at hr (by decide) (by rfl) (pa_cons (pe_fld_K (K := K) rfl (pv 0) rfl) (pa_cons (pv 3) pa_nil))) (pa_cons (pe_cl c_day_at hr (by decide) (by rfl) (pa_cons (pe_fld_K (K := K) rfl (pv 1) rfl) (pa_cons (pv 3) pa_nil))) pa_nil))))) pa_nil))))), ?_⟩
    obtain ⟨⟨ds, rN, oF, lF⟩, pF, moF⟩ := hF
    obtain ⟨⟨es, rM, oG, lG⟩, pG, moG⟩ := hG
    have lds := lp_le lF m0 pF
    have les := lp_le lG m0 pG
    obtain ⟨k0, k1, pF2, pG2⟩ := lcm_le lF lG m0 pF pG
    walk_at "go"
    intro l nl
    generalize eH_ : upd H l _ = H1
    have s1 : Same H H1 := by rw [← eH_]; exact same_new nl
    have el : H1 l = some (.lst [.ref n, .ref m]) := by rw [← eH_]; exact upd_same
    clear eH_
    have rN1 := rN.mono s1
    have rM1 := rM.mono s1
    walk_at "go"
    refine ⟨l, n, m, ds, es, rfl, el, rN1, rM1, oF.pos, oG.pos, by omega, by omega, fun H2 s2 => ?_⟩
    generalize Nat.lcm ds.length es.length = N at k0 k1 pF2 pG2 ⊢
    obtain ⟨dx, t, a1, a2⟩ := rN1.mono s2
    obtain ⟨dy, u, b1, b2⟩ := rM1.mono s2
    walk_at "go"
    intro D nD
    refine lc_rng (K := K) (n := N) (fun k => max (F (k : Int)) (G (k : Int))) (by omega) nD (fun _ => rfl) ?_ ?_
    · intro k H3 Q1 hk s3 q1
      have a13 := s3 _ _ a1
      have b13 := s3 _ _ b1
      walk_at "go"
      refine ⟨false, t, ds, _, rfl, SqT.of (s3 _ _ a2), oF.pos, by omega, ?_⟩
      walk_at "go"
      refine ⟨false, u, es, _, rfl, SqT.of (s3 _ _ b2), oG.pos, by omega, ?_⟩
      rw [oF.dv, oG.dv, Int.zero_add]
      have z := q1 _ (Same.refl _)
      rw [show max (F (k : Int)) (G (k : Int)) = if G (k : Int) > F (k : Int) then G (k : Int) else F (k : Int) by (split <;> omega)] at z
      exact ⟨_, _, rfl, z⟩
    intro H3 s3 eD
    walk_at "go"
    intro r dz n1 n2 n3
    refine mk_rule (b := true) n1 n2 n3 eD ?_ (of_range (F := fun d => max (F d) (G d)) k0 (pF2.max pG2)) (moF.max moG) (pF.max pG) (fun H4 s4 rF => ?_)
    · rw [List.length_map, List.length_range]
      omega
    exact q r H4 (s1.trans (s2.trans (s3.trans s4))) rF
theorem ok_and (F : FnM K "__and__" "DayRule.__and__" s_DayRule___and__ f fd) (m_range : mg "range" = none) (m_min : mg "min" = none) (cls : Cls K C) (n_days : NoAttr K C "days") (c_day_at : Cal P w K mg base 1 "day_at" (spDayAt K)) (c_common_period : Cal P w K mg base 2 "common_period" (spPer C K)) (k_DayRule : MakX P w K mg base 4 "DayRule" C (spInit C CD K)) : FnOk P w K mg base CX0 6 f fd P_DayRule___and__ (spOp C K fun F G d => min (F d) (G d)) := by
  refine F.ok sc_DayRule___and__ (fun vs H Q E h => ?_) (fun cdv A outer s H vs Q E hr h => ?_)
  · obtain ⟨n, m, M, F, G, rfl, _⟩ := h
    rfl
  · obtain ⟨n, m, M, F, G, rfl, hF, hG, m0, m1, q⟩ := h
    refine ⟨_, PSs.nox (pss_cons (ps_set (i := 2) sc_DayRule___and__.nd rfl (by first | exact .inl rfl | exact .inr rfl) (pe_cl c_common_period hr (by decide) (by rfl) (pa_cons (pe_lst (pa_cons (pv 0) (pa_cons (pv 1) pa_nil))) pa_nil)))
      (pss_one (ps_ret (pe_mkE k_DayRule (fun _ => passS0) hr (by decide) (by rfl) (pa_cons (pe_lc (own := [("day", 3)]) (g := (gName 3)) (tt := tYes) (by rfl) sc_DayRule___and__.nd (pi_range1 (by rfl) m_range (pa_cons (pv 2) pa_nil)) (blkOk_by (own := [("day", 3)]) (N := N_DayRule___and__) (sc := defScope s_DayRule___and__) (by decide +kernel)) (fun _ _ _ _ _ => (pg_name (i := 3) sc_DayRule___and__.nd rfl (by first | exact .inl rfl | exact .inr rfl))) (fun _ _ _ _ _ => pts_nil) (fun _ _ _ _ _ => (pe_callB (call_min2 rfl) (by rfl) m_min (by decide +kernel) (pa_cons (pe_cl c_day_at hr (by decide) (by rfl) (pa_cons (pe_fld_K (K := K) rfl (pv 0) rfl) (pa_cons (pv 3) pa_nil))) (pa_cons (pe_cl c_day_at hr (by decide) (by rfl) (pa_cons (pe_fld_K (K := K) rfl (pv 1) rfl) (pa_cons (pv 3) pa_nil))) pa_nil))))) pa_nil))))), ?_⟩
    obtain ⟨⟨ds, rN, oF, lF⟩, pF, moF⟩ := hF
    obtain ⟨⟨es, rM, oG, lG⟩, pG, moG⟩ := hG
    have lds := lp_le lF m0 pF
    have les := lp_le lG m0 pG
    obtain ⟨k0, k1, pF2, pG2⟩ := lcm_le lF lG m0 pF pG
    walk_at "go"
    intro l nl
    generalize eH_ : upd H l _ = H1
    have s1 : Same H H1 := by rw [← eH_]; exact same_new nl
    have el : H1 l = some (.lst [.ref n, .ref m]) := by rw [← eH_]; exact upd_same
    clear eH_
    have rN1 := rN.mono s1
    have rM1 := rM.mono s1
    walk_at "go"
    refine ⟨l, n, m, ds, es, rfl, el, rN1, rM1, oF.pos, oG.pos, by omega, by omega, fun H2 s2 => ?_⟩
    generalize Nat.lcm ds.length es.length = N at k0 k1 pF2 pG2 ⊢
    obtain ⟨dx, t, a1, a2⟩ := rN1.mono s2
    obtain ⟨dy, u, b1, b2⟩ := rM1.mono s2
    walk_at "go"
    intro D nD
    refine lc_rng (K := K) (n := N) (fun k => min (F (k : Int)) (G (k : Int))) (by omega) nD (fun _ => rfl) ?_ ?_
    · intro k H3 Q1 hk s3 q1
      have a13 := s3 _ _ a1
      have b13 := s3 _ _ b1
      walk_at "go"
      refine ⟨false, t, ds, _, rfl, SqT.of (s3 _ _ a2), oF.pos, by omega, ?_⟩
      walk_at "go"
      refine ⟨false, u, es, _, rfl, SqT.of (s3 _ _ b2), oG.pos, by omega, ?_⟩
      rw [oF.dv, oG.dv, Int.zero_add]
      have z := q1 _ (Same.refl _)
      rw [show min (F (k : Int)) (G (k : Int)) = if G (k : Int) < F (k : Int) then G (k : Int) else F (k : Int) by (split <;> omega)] at z
      exact ⟨_, _, rfl, z⟩
    intro H3 s3 eD
    walk_at "go"
    intro r dz n1 n2 n3
    refine mk_rule (b := true) n1 n2 n3 eD ?_ (of_range (F := fun d => min (F d) (G d)) k0 (pF2.min pG2)) (moF.min moG) (pF.min pG) (fun H4 s4 rF => ?_)
    · rw [List.length_map, List.length_range]
      omega
    exact q r H4 (s1.trans (s2.trans (s3.trans s4))) rF
def spMul (C CC : Addr) (K : PySem.W.Frag) : Sp := fun vs H Q E => ∃ (n : Addr) (M : Nat) (F : Int → Int) (c : Int), vs = [.ref n, .int c] ∧ RuleF C K H n M F ∧ 0 < M ∧ M ≤ 30000 ∧ (∀ k : Nat, c = (k : Int) → ∀ (r : Addr) H', Same H H' → RuleF C K H' r M (it F k) → Q (.ref r) H') ∧ (c < 0 → ∀ d, H d = none → E (.ref CC) (some d) (upd H d (.xd [("value", .int c)])))
theorem ok_mul (F : FnM K "__mul__" "DayRule.__mul__" s_DayRule___mul__ f fd) (cls : Cls K C) (n_days : NoAttr K C "days") (x_BadCount : Exn P w K mg base "BadCount" CC "value") (c_used_times : Cal P w K mg base 2 "used_times" (spUsedT K)) (k_DayRule : MakX P w K mg base 4 "DayRule" C (spInit C CD K)) : FnOk P w K mg base (L2N.CX P w) 6 f fd P_DayRule___mul__ (spMul C CC K) := by
  refine F.ok sc_DayRule___mul__ (fun vs H Q E h => ?_) (fun cdv A outer s H vs Q E hr h => ?_)
  · obtain ⟨n, M, F, c, rfl, _⟩ := h
    rfl
  · obtain ⟨n, M, F, c, rfl, hF, m0, m1, q, qe⟩ := h
    have tk := takes_fn (P := P) (w := w) (K := K) (mg := mg) (base := base) (N := N_DayRule___mul__) (qual := "DayRule.__mul__") (scope := defScope s_DayRule___mul__) (f := f) (cd := cdv) (A := A) (outer := outer) (s := s) (H := H) (E := E)
    refine ⟨_, (pss_cons (ps_if (pt_cmpR op_lt (pv 1) pe_int (nomark _)) (pss_one (ps_exn rfl tk x_BadCount hr (by decide) (by rfl) (pa_cons (pv 1) pa_nil))) pss_nil)
      (pss_one (ps_ret (pe_mkE k_DayRule (fun σ => L2N.passAt tk σ) hr (by decide) (by rfl) (pa_cons (pe_cl c_used_times hr (by decide) (by rfl) (pa_cons (pe_fld (pv 0) rfl) (pa_cons (pv 1) pa_nil))) pa_nil))))), ?_⟩
    obtain ⟨⟨ds, rN, oF, lF⟩, pF, moF⟩ := hF
    have lds := lp_le lF m0 pF
    obtain ⟨dx, t, a1, a2⟩ := rN
    walk_at "go"
    refine ite2 (fun e => ?_) (fun e => ?_)
    · have e := of_decide_eq_true e
      walk_at "go"
      exact mkx_of (qe e)
    · have e : ¬ c < 0 := fun z => e (decide_eq_true z)
      obtain ⟨k, rfl⟩ := Int.eq_ofNat_of_zero_le (show 0 ≤ c by omega)
      walk_at "go"
      refine ⟨t, ds, F, k, rfl, SqT.of a2, oF, by omega, fun L H1 es s1 eL oL lL => ?_⟩
      walk_at "go"
      intro r dz n1 n2 n3
      refine mk_rule (b := true) n1 n2 n3 eL (by omega) oL (moF.it k) (pF.it k) (fun H4 s4 rF => ?_)
      exact q k rfl r H4 (s1.trans s4) rF
end
end Z
set_option pp.maxSteps 700
set_option Elab.async false
set_option linter.all false
set_option maxRecDepth 100000
set_option maxHeartbeats 4000000
namespace Z
open Dy
open PySem PySem.Spec PyProof.Rows L2
open C8 (pss_cut tCut)
local macro_rules | `(tactic| walk_at "num") => `(tactic| first | rfl | omega | decide | exact Nat.le_of_lt (small1000 (by simp)) | exact ⟨by omega, by omega⟩ | exact ⟨by omega, by omega, by omega⟩ | exact ⟨by decide, by decide, by decide⟩ | exact Or.inl ⟨by omega, by omega⟩ | exact Or.inr ⟨by omega, by omega⟩)
local macro_rules | `(tactic| walk_at "go") => `(tactic| repeat (first | refine ⟨_, rfl, ?_⟩ | refine ⟨_, _, rfl, rfl, ?_⟩ | refine ⟨_, _, rfl, ?_⟩ | (refine ⟨_, _, rfl, rfl, ?_, ?_⟩; focus walk_at "num") | refine Or.inl ⟨_, rfl, ?_⟩ | refine ⟨_, _, _, _, rfl, rfl, (by assumption), (by rfl), ?_⟩ | refine ⟨_, _, _, _, _, rfl, (by assumption), (by assumption), (by assumption), (by rfl), ?_⟩ | refine ⟨rfl, ?_⟩ | (refine And.intro ?_ ?_; focus walk_at "num")))
abbrev s_first : Stmt := topS 34
abbrev N_first : List Str := ["_law_draw", "_law_room", "_law_day", "_law_k"]
abbrev P_first : List Str := ["_law_draw", "_law_room"]
theorem sc_first : FnScope N_first P_first (defScope s_first) := ⟨rfl, rfl, rfl, by decide +kernel, rfl, by decide +kernel, by decide +kernel⟩
abbrev s_size : Stmt := topS 35
abbrev N_size : List Str := ["_law_draws_here", "_law_place", "_law_most"]
abbrev P_size : List Str := ["_law_draws_here", "_law_place", "_law_most"]
theorem sc_size : FnScope N_size P_size (defScope s_size) := ⟨rfl, rfl, rfl, by decide +kernel, rfl, by decide +kernel, by decide +kernel⟩
abbrev s_days : Stmt := topS 36
abbrev N_days : List Str := ["_law_draws_here", "_law_place", "_law_size_here", "_law_day", "_law_left", "_law_days_here", "_law_k", "_law_draw", "_law_step"]
abbrev P_days : List Str := ["_law_draws_here", "_law_place", "_law_size_here"]
theorem sc_days : FnScope N_days P_days (defScope s_days) := ⟨rfl, rfl, rfl, by decide +kernel, rfl, by decide +kernel, by decide +kernel⟩
/-! ### the draws -/
structure Tk (K : PySem.W.Frag) (a p : Addr) (ds : List Int) (n : Nat) (H0 H1 : Hp) : Prop where
  hA : H1 a = some (.lst (ds.map V.int))
  hd : Dr n ds
  ne : a ≠ p
  sb : SB p H0 H1
  pl : ∃ m : Nat, H1 p = some (.lst [.int (m : Int)])
theorem Tk.more {K : PySem.W.Frag} {a p : Addr} {ds : List Int} {n : Nat} {H0 H1 H2 : Hp} (t : Tk K a p ds n H0 H1) (s : Same H1 H2) : Tk K a p ds n H0 H2 := by
  obtain ⟨m, e⟩ := t.pl
  exact ⟨s _ _ t.hA, t.hd, t.ne, t.sb.trans (Z.Same.sb s), m, s _ _ e⟩
theorem Tk.mut {K : PySem.W.Frag} {a p q : Addr} {ds : List Int} {n : Nat} {H0 H1 : Hp} {o : HO} (t : Tk K a p ds n H0 H1) (h : H0 q = none) (h2 : SB q H1 (upd H1 q o)) (nq : q ≠ p) (na : upd H1 q o a = some (.lst (ds.map V.int))) : Tk K a p ds n H0 (upd H1 q o) := by
  obtain ⟨m, e⟩ := t.pl
  refine ⟨na, t.hd, t.ne, fun b u n1 n2 => ?_, m, h2 _ _ nq.symm e⟩
  exact h2 _ _ (ne_of_none n2 h) (t.sb b u n1 n2)
theorem Tk.next {K : PySem.W.Frag} {a p : Addr} {ds : List Int} {n m : Nat} {H0 H1 : Hp} (t : Tk K a p ds n H0 H1) (e : H1 p = some (.lst [.int (m : Int)])) : Tk K a p ds n H0 (upd H1 p (.lst [.int ((m + 1 : Nat) : Int)])) ∧ SB p H1 (upd H1 p (.lst [.int ((m + 1 : Nat) : Int)])) := by
  have sb : SB p H1 (upd H1 p (.lst [.int ((m + 1 : Nat) : Int)])) := SB.upd (Z.Same.sb (Same.refl H1))
  exact ⟨⟨sb _ _ t.ne t.hA, t.hd, t.ne, t.sb.trans sb, m + 1, upd_same⟩, sb⟩

section
variable {P : Program} {w : World} {K : PySem.W.Frag} {mg : Str → Option Value} {base : Heap} {f C CD : Addr} {fd : FuncData}
def spFirst : Sp := fun vs H Q _ => ∃ (d r : Int), vs = [.int d, .int r] ∧ 0 ≤ d ∧ d < 1000000 ∧ 0 ≤ r ∧ r ≤ 100000 ∧ ∀ x : Int, x.natAbs ≤ 10 ^ 41 → Q (.int x) H
theorem ok_first (F : FnP K "_law_first" s_first f fd) (m_int : mg "int" = none) (m_range : mg "range" = none) : FnOk P w K mg base CX0 1 f fd P_first spFirst := by
  refine F.ok sc_first (fun vs H Q E h => ?_) (fun cdv A outer s H vs Q E hr h => ?_)
  · obtain ⟨d, r, rfl, _⟩ := h
    rfl
  · obtain ⟨d, r, rfl, h0, h1, hr0, hr1, q⟩ := h
    refine ⟨_, PSs.nox (pss_cons (ps_set (i := 2) sc_first.nd rfl (by first | exact .inl rfl | exact .inr rfl) (pe_op op_sub (pe_op op_mod (pe_callTy call_int1 (by rfl) m_int (by decide +kernel) (pa_cons (pe_op op_fdiv (pe_callTy call_int1 (by rfl) m_int (by decide +kernel) (pa_cons (pv 0) pa_nil)) pe_int) pa_nil)) pe_int) pe_int))
      (pss_cut (ps_if (pt_cmpR op_eq (pe_op op_mod (pe_callTy call_int1 (by rfl) m_int (by decide +kernel) (pa_cons (pv 0) pa_nil)) pe_int) pe_int (nomark _)) (pss_one (ps_for PassesOwn.never rfl (pi_range1 (by rfl) m_range (pa_cons (pe_op op_mod (pe_callTy call_int1 (by rfl) m_int (by decide +kernel) (pa_cons (pe_op op_fdiv (pe_callTy call_int1 (by rfl) m_int (by decide +kernel) (pa_cons (pv 0) pa_nil)) pe_int) pa_nil)) pe_int) pa_nil)) (pg_name (i := 3) sc_first.nd rfl (by first | exact .inl rfl | exact .inr rfl))
        (pss_one (ps_set (i := 2) sc_first.nd rfl (by first | exact .inl rfl | exact .inr rfl) (pe_op op_add (pe_op op_mul (pv 2) pe_int) (pe_op op_mod (pe_callTy call_int1 (by rfl) m_int (by decide +kernel) (pa_cons (pe_op op_fdiv (pe_callTy call_int1 (by rfl) m_int (by decide +kernel) (pa_cons (pv 0) pa_nil)) (pe_op op_add (pv 3) pe_int)) pa_nil)) pe_int)))))) pss_nil)
      (pss_cut (ps_if (pt_cmpR op_eq (pe_op op_mod (pe_callTy call_int1 (by rfl) m_int (by decide +kernel) (pa_cons (pv 0) pa_nil)) pe_int) pe_int (nomark _)) (pss_cons (ps_set (i := 2) sc_first.nd rfl (by first | exact .inl rfl | exact .inr rfl) (pe_op op_sub (pe_op op_sub (pe_op op_pow pe_int pe_int) pe_int) (pv 1)))
      (pss_one (ps_if (pt_cmpR op_eq (pe_op op_mod (pe_callTy call_int1 (by rfl) m_int (by decide +kernel) (pa_cons (pe_op op_fdiv (pe_callTy call_int1 (by rfl) m_int (by decide +kernel) (pa_cons (pv 0) pa_nil)) pe_int) pa_nil)) pe_int) pe_int (nomark _)) (pss_one (ps_set (i := 2) sc_first.nd rfl (by first | exact .inl rfl | exact .inr rfl) (pe_op op_sub (pe_op op_add (pv 1) pe_int) (pe_op op_pow pe_int pe_int)))) pss_nil))) pss_nil)
      (pss_one (ps_ret (pv 2)))))), ?_⟩
    walk_at "go"
    refine ⟨fun σ' H' => H' = H ∧ ∃ (x : Int) (v3 : Option V), x.natAbs ≤ 10 ^ 41 ∧ σ' = [some (.int d), some (.int r), some (.int x), v3], ?_, ?_⟩
    · walk_at "go"
      refine ite2 (fun e => ?_) (fun e => ?_)
      rotate_left
      · exact ⟨rfl, d / 8 % 41 - 20, none, by omega, rfl⟩
      walk_at "go"
      refine for_gen (n := (d / 328 % 37).toNat) (fun i σ H1 => H1 = H ∧ ∃ (x : Int) (v3 : Option V), x.natAbs < 21 * 10 ^ i ∧ σ = [some (.int d), some (.int r), some (.int x), v3]) ⟨rfl, d / 8 % 41 - 20, none, by omega, rfl⟩ (fun i σ H1 hi _ => hi) (fun σ H1 _ => Nat.le_refl _) ?_ ?_
      · rintro i σ H1 x H' hi ⟨rfl, x2, v3, hx, rfl⟩ ⟨rfl, rfl⟩
        have e10 : 10 ^ (i + 1) = 10 ^ i * 10 := Nat.pow_succ ..
        walk_at "go"
        refine ⟨x2 * 10 + d / (0 + (i : Int) + 2) % 10, some (.int (0 + (i : Int))), ?_, rfl⟩
        rw [e10]
        generalize 10 ^ i = p at *
        omega
      · rintro σ H1 ⟨rfl, x, v3, hx, rfl⟩
        refine ⟨rfl, x, v3, ?_, rfl⟩
        have h36 : (d / 328 % 37).toNat ≤ 36 := by omega
        have hpow : 10 ^ (d / 328 % 37).toNat ≤ 10 ^ 36 := Nat.pow_le_pow_right (by decide) h36
        omega
    rintro σ' H1 ⟨e1, x, v3, hx, rfl⟩
    rw [e1]
    clear e1 H1
    refine ⟨fun σ' H' => H' = H ∧ ∃ (x : Int) (v3 : Option V), x.natAbs ≤ 10 ^ 41 ∧ σ' = [some (.int d), some (.int r), some (.int x), v3], ?_, ?_⟩
    · walk_at "go"
      refine ite2 (fun e => ?_) (fun e => ?_)
      rotate_left
      · exact ⟨rfl, x, v3, hx, rfl⟩
      walk_at "go"
      refine ite2 (fun e => ?_) (fun e => ?_)
      rotate_left
      · exact ⟨rfl, 10 ^ 40 - 1 - r, v3, by omega, rfl⟩
      walk_at "go"
      exact ⟨r + 1 - 10 ^ 40, v3, by omega, rfl⟩
    rintro σ' H1 ⟨e1, x, v3, hx, rfl⟩
    rw [e1]
    walk_at "go"
    exact q x hx
def spSize (K : PySem.W.Frag) : Sp := fun vs H Q _ => ∃ (a p : Addr) (n m : Nat) (ds : List Int), vs = [.ref a, .ref p, .int (m : Int)] ∧ Tk K a p ds n H H ∧ 0 < m ∧ ∀ (r : Nat) H', Tk K a p ds n H H' → 0 < r → r ≤ m → Q (.int (r : Int)) H'
theorem ok_size (F : FnP K "_law_size" s_size f fd) (m_int : mg "int" = none) (c_take : Cal P w K mg base 1 "_law_take" (spTake K)) : FnOk P w K mg base CX0 2 f fd P_size (spSize K) := by
  refine F.ok sc_size (fun vs H Q E h => ?_) (fun cdv A outer s H vs Q E hr h => ?_)
  · obtain ⟨a, p, n, m, ds, rfl, _⟩ := h
    rfl
  · obtain ⟨a, p, n, m, ds, rfl, hT, hm, q⟩ := h
    refine ⟨_, PSs.nox (pss_one (ps_ret (pe_op op_add pe_int (pe_op op_mod (pe_callTy call_int1 (by rfl) m_int (by decide +kernel) (pa_cons (pe_cl c_take hr (by decide) (by rfl) (pa_cons (pv 0) (pa_cons (pv 1) pa_nil))) pa_nil)) (pv 2))))), ?_⟩
    walk_at "go"
    obtain ⟨mm, em⟩ := hT.pl
    refine ⟨a, p, n, mm, ds, rfl, SqL.of hT.hA, hT.hd, em, hT.ne, fun r r0 r1 => ?_⟩
    obtain ⟨hT', _⟩ := hT.next em
    walk_at "go"
    have h1 := Int.emod_nonneg r (show (m : Int) ≠ 0 by omega)
    have h2 := Int.emod_lt_of_pos r (show 0 < (m : Int) by omega)
    obtain ⟨c, hc⟩ := Int.eq_ofNat_of_zero_le (show 0 ≤ 1 + r % (m : Int) by omega)
    have z := q c _ hT' (by omega) (by omega)
    rw [← hc] at z
    exact z
end
end Z
set_option pp.maxSteps 700
set_option Elab.async false
set_option linter.all false
set_option maxRecDepth 100000
set_option maxHeartbeats 4000000
namespace Z
open Dy
open PySem PySem.Spec PyProof.Rows L2
open C8 (pss_cut tCut)
local macro_rules | `(tactic| walk_at "num") => `(tactic| first | rfl | omega | decide | exact Nat.le_of_lt (small1000 (by simp)) | exact ⟨by omega, by omega⟩ | exact ⟨by omega, by omega, by omega⟩ | exact ⟨by decide, by decide, by decide⟩ | exact Or.inl ⟨by omega, by omega⟩ | exact Or.inr ⟨by omega, by omega⟩)
local macro_rules | `(tactic| walk_at "go") => `(tactic| repeat (first | refine ⟨_, rfl, ?_⟩ | refine ⟨_, _, rfl, rfl, ?_⟩ | refine ⟨_, _, rfl, ?_⟩ | (refine ⟨_, _, rfl, rfl, ?_, ?_⟩; focus walk_at "num") | refine Or.inl ⟨_, rfl, ?_⟩ | refine ⟨_, _, _, _, rfl, rfl, (by assumption), (by rfl), ?_⟩ | refine ⟨_, _, _, _, _, rfl, (by assumption), (by assumption), (by assumption), (by rfl), ?_⟩ | refine ⟨rfl, ?_⟩ | (refine And.intro ?_ ?_; focus walk_at "num")))
section
variable {P : Program} {w : World} {K : PySem.W.Frag} {mg : Str → Option Value} {base : Heap} {f C CD : Addr} {fd : FuncData}
theorem getD_app_left {xs ys : List Int} {i : Nat} (h : i < xs.length) : (xs ++ ys).getD i 0 = xs.getD i 0 := by
  rw [List.getD_eq_getElem?_getD, List.getD_eq_getElem?_getD, List.getElem?_append_left h]
theorem getD_app_last {xs : List Int} {y : Int} : (xs ++ [y]).getD xs.length 0 = y := by
  rw [List.getD_eq_getElem?_getD, List.getElem?_append_right (Nat.le_refl _), Nat.sub_self]
  rfl
/-! ### _law_days -/
def spDays (K : PySem.W.Frag) : Sp := fun vs H Q _ => ∃ (a p : Addr) (n sz : Nat) (ds : List Int), vs = [.ref a, .ref p, .int (sz : Int)] ∧ Tk K a p ds n H H ∧ 0 < sz ∧ sz ≤ 1000 ∧ ∀ (L : Addr) H' (es : List Int), H L = none → L ≠ p → Tk K a p ds n H H' → H' L = some (.lst (es.map V.int)) → es.length = sz → Gd es → (es.getD 0 0).natAbs ≤ 10 ^ 41 → Q (.ref L) H'
theorem ok_days (F : FnP K "_law_days" s_days f fd) (m_int : mg "int" = none) (m_range : mg "range" = none) (m_min : mg "min" = none) (c_take : Cal P w K mg base 1 "_law_take" (spTake K)) (c_first : Cal P w K mg base 1 "_law_first" spFirst) : FnOk P w K mg base CX0 2 f fd P_days (spDays K) := by
  refine F.ok sc_days (fun vs H Q E h => ?_) (fun cdv A outer s H vs Q E hr h => ?_)
  · obtain ⟨a, p, n, sz, ds, rfl, _⟩ := h
    rfl
  · obtain ⟨a, p, n, sz, ds, rfl, hT, hz0, hz1, q⟩ := h
    refine ⟨_, PSs.nox (pss_cons (ps_set (i := 3) sc_days.nd rfl (by first | exact .inl rfl | exact .inr rfl) (pe_cl c_first hr (by decide) (by rfl) (pa_cons (pe_cl c_take hr (by decide) (by rfl) (pa_cons (pv 0) (pa_cons (pv 1) pa_nil))) (pa_cons (pe_op op_add (pe_op op_mul pe_int (pv 2)) pe_int) pa_nil))))
      (pss_cons (ps_set (i := 4) sc_days.nd rfl (by first | exact .inl rfl | exact .inr rfl) (pv 2))
      (pss_cons (ps_set (i := 5) sc_days.nd rfl (by first | exact .inl rfl | exact .inr rfl) (pe_lst (pa_cons (pv 3) pa_nil)))
      (pss_cons (ps_for PassesOwn.never rfl (pi_range1 (by rfl) m_range (pa_cons (pe_op op_sub (pv 2) pe_int) pa_nil)) (pg_name (i := 6) sc_days.nd rfl (by first | exact .inl rfl | exact .inr rfl))
        (pss_cons (ps_set (i := 7) sc_days.nd rfl (by first | exact .inl rfl | exact .inr rfl) (pe_callTy call_int1 (by rfl) m_int (by decide +kernel) (pa_cons (pe_cl c_take hr (by decide) (by rfl) (pa_cons (pv 0) (pa_cons (pv 1) pa_nil))) pa_nil)))
      (pss_cons (ps_set (i := 8) sc_days.nd rfl (by first | exact .inl rfl | exact .inr rfl) (pe_callB (call_min2 rfl) (by rfl) m_min (by decide +kernel) (pa_cons (pv 4) (pa_cons (pe_ix ix_list (pe_lst (pa_cons pe_int (pa_cons pe_int (pa_cons pe_int (pa_cons pe_int (pa_cons pe_int (pa_cons pe_int (pa_cons (pe_op op_mod (pe_callTy call_int1 (by rfl) m_int (by decide +kernel) (pa_cons (pe_op op_fdiv (pv 7) pe_int) pa_nil)) pe_int) (pa_cons (pe_op op_mod (pe_callTy call_int1 (by rfl) m_int (by decide +kernel) (pa_cons (pe_op op_fdiv (pv 7) pe_int) pa_nil)) (pe_op op_add (pv 4) pe_int)) pa_nil))))))))) (pe_op op_mod (pe_callTy call_int1 (by rfl) m_int (by decide +kernel) (pa_cons (pv 7) pa_nil)) pe_int) (fun _ _ => rfl)) pa_nil))))
      (pss_cons (ps_set (i := 3) sc_days.nd rfl (by first | exact .inl rfl | exact .inr rfl) (pe_op op_add (pv 3) (pv 8)))
      (pss_cons (ps_set (i := 4) sc_days.nd rfl (by first | exact .inl rfl | exact .inr rfl) (pe_op op_sub (pv 4) (pv 8)))
      (pss_one (ps_expr (pe_bm PySem.F.plainAttrs_list PySem.F.slot_list_append PySem.F.type_list_append mt_append (pv 5) (pa_cons (pv 3) pa_nil)))))))))
      (pss_one (ps_ret (pv 5))))))), ?_⟩
    walk_at "go"
    obtain ⟨mm, em⟩ := hT.pl
    refine ⟨a, p, n, mm, ds, rfl, SqL.of hT.hA, hT.hd, em, hT.ne, fun r r0 r1 => ?_⟩
    obtain ⟨hT1, _⟩ := hT.next em
    generalize upd H p (.lst [.int ((mm + 1 : Nat) : Int)]) = H1 at hT1 ⊢
    walk_at "go"
    intro x0 hx0
    walk_at "go"
    intro L nL
    have sL := same_new (o := .lst [.int x0]) nL
    have hT2 := hT1.more sL
    have eL := upd_same (H := H1) (a := L) (o := .lst [.int x0])
    obtain ⟨m1, em1⟩ := hT1.pl
    have Lp : L ≠ p := (ne_of_none em1 nL).symm
    have nHL : H L = none := by
      cases e : H L with
      | none => rfl
      | some o =>
        have := hT1.sb L o Lp e
        rw [nL] at this
        cases this
    generalize upd H1 L (.lst [.int x0]) = H2 at hT2 eL ⊢
    walk_at "go"
    refine for_gen (n := sz - 1) (fun i σ H3 => ∃ (es : List Int) (x l : Int) (v7 v8 v9 : Option V), Tk K a p ds n H H3 ∧ H3 L = some (.lst (es.map V.int)) ∧ es.length = i + 1 ∧ (∀ j, j < i → es.getD j 0 ≤ es.getD (j + 1) 0) ∧ es.getD i 0 = x ∧ es.getD 0 0 = x0 ∧ 0 ≤ l ∧ x - es.getD 0 0 + l = sz ∧ σ = [some (.ref a), some (.ref p), some (.int (sz : Int)), some (.int x), some (.int l), some (.ref L), v7, v8, v9]) ⟨[x0], x0, sz, none, none, none, hT2, eL, rfl, (fun j hj => by omega), rfl, rfl, by omega, (by show x0 - x0 + (sz : Int) = sz; omega), rfl⟩ ?_ ?_ ?_ ?_
    · intro i σ H3 hi _
      show i < ((sz : Int) - 1).toNat
      omega
    · intro σ H3 _
      show ((sz : Int) - 1).toNat ≤ sz - 1
      omega
    · rintro i σ H3 x H' hi ⟨es, x, l, v7, v8, v9, hT3, eL3, el, ea, ex, ez, l0, ed, rfl⟩ ⟨rfl, rfl⟩
      walk_at "go"
      obtain ⟨mm, em⟩ := hT3.pl
      refine ⟨a, p, n, mm, ds, rfl, SqL.of hT3.hA, hT3.hd, em, hT3.ne, fun r r0 r1 => ?_⟩
      obtain ⟨hT4, sb4⟩ := hT3.next em
      have eL4 := sb4 _ _ Lp eL3
      generalize upd H' p (.lst [.int ((mm + 1 : Nat) : Int)]) = H4 at hT4 eL4 ⊢
      walk_at "go"
      intro B nB
      have sB := same_new (o := .lst [.int 1, .int 1, .int 1, .int 0, .int 0, .int 2, .int (r / 8 % 4), .int (r / 8 % (l + 1))]) nB
      have eB : SqL K (upd H4 B (.lst [.int 1, .int 1, .int 1, .int 0, .int 0, .int 2, .int (r / 8 % 4), .int (r / 8 % (l + 1))])) B (([1, 1, 1, 0, 0, 2, r / 8 % 4, r / 8 % (l + 1)] : List Int).map V.int) := SqL.of upd_same
      have hT5 := hT4.more sB
      have eL5 := sB _ _ eL4
      generalize upd H4 B (.lst [.int 1, .int 1, .int 1, .int 0, .int 0, .int 2, .int (r / 8 % 4), .int (r / 8 % (l + 1))]) = H5 at hT5 eL5 eB ⊢
      obtain ⟨y, y0, ey⟩ : ∃ y : Int, 0 ≤ y ∧ atI (([1, 1, 1, 0, 0, 2, r / 8 % 4, r / 8 % (l + 1)] : List Int).map V.int) (r % 8) = some (.int y) := by
        have hp : ∀ y ∈ ([1, 1, 1, 0, 0, 2, r / 8 % 4, r / 8 % (l + 1)] : List Int), 0 ≤ y := by
          have h1 : 0 ≤ r / 8 % (l + 1) := Int.emod_nonneg _ (by omega)
          intro y hy
          simp only [List.mem_cons, List.not_mem_nil, or_false] at hy
          omega
        have hj : (r % 8).toNat < ([1, 1, 1, 0, 0, 2, r / 8 % 4, r / 8 % (l + 1)] : List Int).length := by
          show (r % 8).toNat < 8
          omega
        refine ⟨_, hp _ (List.getElem_mem hj), at_of (j := (r % 8).toNat) (by omega) ?_⟩
        rw [List.getElem?_map, List.getElem?_eq_getElem hj]
        rfl
      walk_at "go"
      refine ⟨B, _, _, _, rfl, rfl, eB, ey, ?_⟩
      walk_at "go"
      refine ⟨.inl ⟨rfl, _, .inl (.inl eL5)⟩, ?_⟩
      walk_at "go"
      refine ⟨_, _, _, rfl, rfl, eL5, ?_, ?_⟩
      · rw [List.length_map, el]
        exact Nat.lt_of_le_of_lt (show i + 1 ≤ 1000 by omega) (by decide)
      have hst : 0 ≤ (if y < l then y else l) ∧ (if y < l then y else l) ≤ l := by split <;> omega
      generalize (if y < l then y else l) = st at hst
      have sbL : SB L H5 (upd H5 L (.lst (es.map V.int ++ [.int (x + st)]))) := SB.upd (Z.Same.sb (Same.refl _))
      have aL : a ≠ L := fun z => by
        have := hT.hA
        rw [z, nHL] at this
        cases this
      have hT6 : Tk K a p ds n H (upd H5 L (.lst (es.map V.int ++ [.int (x + st)]))) := hT5.mut nHL sbL Lp (sbL _ _ aL hT5.hA)
      refine ⟨es ++ [x + st], x + st, l - st, _, _, _, hT6, by rw [upd_same, List.map_append]; rfl, by rw [List.length_append, el]; rfl, fun j hj => ?_, ?_, (by rw [getD_app_left (by omega)]; exact ez), by omega, ?_, rfl⟩
      · by_cases c : j < i
        · rw [getD_app_left (by omega), getD_app_left (by omega)]
          exact ea j c
        · obtain rfl : j = i := by omega
          rw [getD_app_left (by omega), ← el, getD_app_last, ex]
          omega
      · rw [← el]
        exact getD_app_last
      · rw [getD_app_left (by omega)]
        omega
    · rintro σ H3 ⟨es, x, l, v7, v8, v9, hT3, eL3, el, ea, ex, ez, l0, ed, rfl⟩
      walk_at "go"
      refine q L H3 es nHL Lp hT3 eL3 (by omega) ⟨by omega, fun j hj => ea j (by omega), ?_⟩ (by rw [ez]; exact hx0)
      rw [el, show sz - 1 + 1 - 1 = sz - 1 by omega, ex]
      omega
end
end Z
set_option Elab.async false
set_option linter.all false
namespace Dy
/-! ### the adjoints exist -/
theorem search {F : Int → Int} {l : Int} : ∀ (n : Nat) (lo : Int), F lo ≤ l → l < F (lo + n) → ∃ x, F x ≤ l ∧ l < F (x + 1)
  | 0, lo, h1, h2 => by
    rw [show lo + ((0 : Nat) : Int) = lo by simp] at h2
    omega
  | n + 1, lo, h1, h2 => by
    by_cases c : F (lo + 1) ≤ l
    · refine search n (lo + 1) c ?_
      rw [show lo + 1 + (n : Int) = lo + ((n + 1 : Nat) : Int) by omega]
      exact h2
    · exact ⟨lo, h1, by omega⟩
theorem lat_at {F : Int → Int} {n : Nat} (hn : 0 < n) (m : Mon F) (p : Per F (n : Int)) (l : Int) : ∃ x, ∀ d, F d ≤ l ↔ d ≤ x := by
  have nn : (1 : Int) ≤ n := by omega
  have h1 := p.imul (-((F 0 - l).toNat : Int)) 0
  have h2 := p.imul ((l - F 0).toNat + 1 : Int) 0
  have e1 : ((F 0 - l).toNat : Int) * 1 ≤ ((F 0 - l).toNat : Int) * n := Int.mul_le_mul_of_nonneg_left nn (by omega)
  have e2 : ((l - F 0).toNat + 1 : Int) * 1 ≤ ((l - F 0).toNat + 1 : Int) * n := Int.mul_le_mul_of_nonneg_left nn (by omega)
  rw [Int.neg_mul] at h1
  generalize ((F 0 - l).toNat : Int) * n = a at *
  generalize ((l - F 0).toNat + 1 : Int) * n = b at *
  obtain ⟨x, x1, x2⟩ := search (F := F) (l := l) (b + a).toNat (0 + -a) (by omega) (by
    rw [show (0 + -a) + ((b + a).toNat : Int) = 0 + b by omega]
    omega)
  refine ⟨x, fun d => ⟨fun h => ?_, fun h => ?_⟩⟩
  · apply Decidable.byContradiction
    intro z
    have := m.le (show x + 1 ≤ d by omega)
    omega
  · have := m.le h
    omega
theorem lat_ex {F : Int → Int} {n : Nat} (hn : 0 < n) (m : Mon F) (p : Per F (n : Int)) : ∃ L, Lat F L := by
  refine ⟨fun l => Classical.choose (lat_at hn m p l), fun d l => ?_⟩
  exact Classical.choose_spec (lat_at hn m p l) d
/-- the greatest day of the rest r at which F is at most 0 -/
def gr (ds : List Int) (r : Nat) : Int := r + (ds.length : Int) * ((0 - ds.getD r 0) / (ds.length : Int))
theorem gr_le {F L : Int → Int} {ds : List Int} (o : Of F ds) (a : Lat F L) (r : Nat) (hr : r < ds.length) : gr ds r ≤ L 0 := by
  refine (a _ _).mp ?_
  have hn : (0 : Int) < ds.length := by have := o.pos; omega
  have h := o.per.imul ((0 - ds.getD r 0) / (ds.length : Int)) (r : Int)
  have h2 := Int.emod_add_mul_ediv (0 - ds.getD r 0) (ds.length : Int)
  have h3 := Int.emod_nonneg (0 - ds.getD r 0) (show (ds.length : Int) ≠ 0 by omega)
  unfold gr
  rw [Int.mul_comm, h, ← o.at_ r hr, Int.mul_comm]
  omega
theorem gr_top {F L : Int → Int} {ds : List Int} (o : Of F ds) (a : Lat F L) : ∃ r, r < ds.length ∧ gr ds r = L 0 := by
  have hn : (0 : Int) < ds.length := by have := o.pos; omega
  have h1 := Int.emod_nonneg (L 0) (show (ds.length : Int) ≠ 0 by omega)
  have h2 := Int.emod_lt_of_pos (L 0) hn
  have h3 := Int.emod_add_mul_ediv (L 0) (ds.length : Int)
  have hr : (L 0 % (ds.length : Int)).toNat < ds.length := by omega
  refine ⟨(L 0 % (ds.length : Int)).toNat, hr, ?_⟩
  have hle := gr_le o a _ hr
  have hF : F (L 0) ≤ 0 := (a _ _).mpr (Int.le_refl _)
  have h4 := o.per.imul (L 0 / (ds.length : Int)) ((L 0 % (ds.length : Int)).toNat : Int)
  rw [← o.at_ _ hr, Int.toNat_of_nonneg h1, Int.mul_comm, h3] at h4
  have h5 : L 0 / (ds.length : Int) ≤ (0 - ds.getD (L 0 % (ds.length : Int)).toNat 0) / (ds.length : Int) := by
    rw [Int.le_ediv_iff_mul_le hn, Int.mul_comm]
    omega
  have h6 := Int.mul_le_mul_of_nonneg_left h5 (show (0 : Int) ≤ ds.length by omega)
  unfold gr at hle ⊢
  rw [Int.toNat_of_nonneg h1] at hle ⊢
  omega
end Dy
set_option pp.maxSteps 700
set_option Elab.async false
set_option linter.all false
set_option maxRecDepth 100000
set_option maxHeartbeats 4000000
namespace Z
open Dy
open PySem PySem.Spec PyProof.Rows L2
open C8 (pss_cut tCut)
local macro_rules | `(tactic| walk_at "num") => `(tactic| first | rfl | omega | decide | exact Nat.le_of_lt (small1000 (by simp)) | exact ⟨by omega, by omega⟩ | exact ⟨by omega, by omega, by omega⟩ | exact ⟨by decide, by decide, by decide⟩ | exact Or.inl ⟨by omega, by omega⟩ | exact Or.inr ⟨by omega, by omega⟩)
local macro_rules | `(tactic| walk_at "go") => `(tactic| repeat (first | refine ⟨_, rfl, ?_⟩ | refine ⟨_, _, rfl, rfl, ?_⟩ | refine ⟨_, _, rfl, ?_⟩ | (refine ⟨_, _, rfl, rfl, ?_, ?_⟩; focus walk_at "num") | refine Or.inl ⟨_, rfl, ?_⟩ | refine ⟨_, _, _, _, rfl, rfl, (by assumption), (by rfl), ?_⟩ | refine ⟨_, _, _, _, _, rfl, (by assumption), (by assumption), (by assumption), (by rfl), ?_⟩ | refine ⟨rfl, ?_⟩ | (refine And.intro ?_ ?_; focus walk_at "num")))
abbrev s_latest_days : Stmt := topS 12
abbrev N_latest_days : List Str := ["days", "many", "at", "last", "found", "limit"]
abbrev P_latest_days : List Str := ["days"]
theorem sc_latest_days : FnScope N_latest_days P_latest_days (defScope s_latest_days) := ⟨rfl, rfl, rfl, by decide +kernel, rfl, by decide +kernel, by decide +kernel⟩
abbrev s_DayRule_latest : Stmt := inClass (topS 14) 8
abbrev N_DayRule_latest : List Str := ["self"]
abbrev P_DayRule_latest : List Str := ["self"]
theorem sc_DayRule_latest : FnScope N_DayRule_latest P_DayRule_latest (defScope s_DayRule_latest) := ⟨rfl, rfl, rfl, by decide +kernel, rfl, by decide +kernel, by decide +kernel⟩
abbrev s_DayRule_soonest : Stmt := inClass (topS 14) 9
abbrev N_DayRule_soonest : List Str := ["self", "last", "day"]
abbrev P_DayRule_soonest : List Str := ["self"]
theorem sc_DayRule_soonest : FnScope N_DayRule_soonest P_DayRule_soonest (defScope s_DayRule_soonest) := ⟨rfl, rfl, rfl, by decide +kernel, rfl, by decide +kernel, by decide +kernel⟩
theorem RuleF.at2 {C : Addr} {K : PySem.W.Frag} {H : Hp} {n : Addr} {M : Nat} {F : Int → Int} (h : RuleF C K H n M F) : ∃ dx t, H n = some (.ins C dx [("days", .ref t)]) := by
  obtain ⟨⟨ds, ⟨dx, t, e, _⟩, _⟩, _⟩ := h
  exact ⟨_, _, e⟩
section
variable {P : Program} {w : World} {K : PySem.W.Frag} {mg : Str → Option Value} {base : Heap} {f C CD CC : Addr} {fd : FuncData}
/-! ### latest_days -/
def spLatD (K : PySem.W.Frag) : Sp := fun vs H Q _ => ∃ (a : Addr) (ds : List Int) (F L : Int → Int), vs = [.ref a] ∧ SqT K H a (ds.map V.int) ∧ Of F ds ∧ ds.length ≤ 30000 ∧ Lat F L ∧
  ∀ (D : Addr) H' (es : List Int), Same H H' → H' D = some (.lst (es.map V.int)) → Of L es → es.length = ds.length → Q (.ref D) H'
theorem ok_latest_days (F : FnP K "latest_days" s_latest_days f fd) (m_len : mg "len" = none) (m_range : mg "range" = none) (m_max : mg "max" = none) (c_day_at : Cal P w K mg base 1 "day_at" (spDayAt K)) : FnOk P w K mg base CX0 2 f fd P_latest_days (spLatD K) := by
  refine F.ok sc_latest_days (fun vs H Q E h => ?_) (fun cdv A outer s H vs Q E hr h => ?_)
  · obtain ⟨a, ds, F, L, rfl, _⟩ := h
    rfl
  · obtain ⟨a, ds, F, L, rfl, hS, o, hl, lat, q⟩ := h
    have hp := o.pos
    refine ⟨_, PSs.nox (pss_cons (ps_set (i := 1) sc_latest_days.nd rfl (by first | exact .inl rfl | exact .inr rfl) (pe_callB call_len_seq (by rfl) m_len PySem.boot_len (pa_cons (pv 0) pa_nil)))
      (pss_cons (ps_set (i := 3) sc_latest_days.nd rfl (by first | exact .inl rfl | exact .inr rfl) (pe_callB (cr_max rfl) (by rfl) m_max (by decide +kernel) (pa_cons (pe_lc (own := [("at", 2)]) (g := (gName 2)) (tt := tYes) (by rfl) sc_latest_days.nd (pi_range1 (by rfl) m_range (pa_cons (pv 1) pa_nil)) (blkOk_by (own := [("at", 2)]) (N := N_latest_days) (sc := defScope s_latest_days) (by decide +kernel)) (fun _ _ _ _ _ => (pg_name (i := 2) sc_latest_days.nd rfl (by first | exact .inl rfl | exact .inr rfl))) (fun _ _ _ _ _ => pts_nil) (fun _ _ _ _ _ => (pe_op op_add (pv 2) (pe_op op_mul (pv 1) (pe_op op_fdiv (pe_op op_sub pe_int (pe_ix (ix_tup_K (K := K) rfl) (pv 0) (pv 2) (fun _ _ => rfl))) (pv 1)))))) pa_nil)))
      (pss_cons (ps_set (i := 4) sc_latest_days.nd rfl (by first | exact .inl rfl | exact .inr rfl) (pe_lst pa_nil))
      (pss_cons (ps_for PassesOwn.never rfl (pi_range1 (by rfl) m_range (pa_cons (pv 1) pa_nil)) (pg_name (i := 5) sc_latest_days.nd rfl (by first | exact .inl rfl | exact .inr rfl))
        (pss_cons (ps_while PassesOwn.never (pt_cmpR op_le (pe_cl c_day_at hr (by decide) (by rfl) (pa_cons (pv 0) (pa_cons (pe_op op_add (pv 3) pe_int) pa_nil))) (pv 5) (nomark _))
        (pss_one (ps_set (i := 3) sc_latest_days.nd rfl (by first | exact .inl rfl | exact .inr rfl) (pe_op op_add (pv 3) pe_int))))
      (pss_one (ps_expr (pe_bm PySem.F.plainAttrs_list PySem.F.slot_list_append PySem.F.type_list_append mt_append (pv 4) (pa_cons (pv 3) pa_nil))))))
      (pss_one (ps_ret (pv 4))))))), ?_⟩
    walk_at "go"
    refine ⟨a, _, rfl, .inr (hS), ?_⟩
    rw [List.length_map]
    walk_at "go"
    intro B nB
    refine lc_rng (K := K) (n := ds.length) (fun k => gr ds k) (by omega) nB (fun _ => rfl) ?_ ?_
    · intro k H1 Q1 hk s1 q1
      walk_at "go"
      refine rd_atT (Z.Same.sqT s1 hS) (by omega) (by omega) ?_
      walk_at "go"
      rw [show (0 + (k : Int)).toNat = k by omega]
      have z := q1 _ (Same.refl _)
      unfold gr at z
      rw [show (0 + (k : Int)) = (k : Int) by omega]
      exact z
    intro H1 s1 eB
    walk_at "go"
    refine ⟨B, _, rfl, SqL.of eB, by rw [List.length_map, List.length_range]; exact hp, fun m hm hx => ?_⟩
    have em : m = L 0 := by
      obtain ⟨r, hr, er⟩ := gr_top o lat
      have h1 := hx _ (List.mem_map.mpr ⟨r, List.mem_range.mpr hr, rfl⟩)
      obtain ⟨r2, hr2, er2⟩ := List.mem_map.mp hm
      have h2 := gr_le o lat r2 (List.mem_range.mp hr2)
      have er2 : gr ds r2 = m := er2
      have h1 : gr ds r ≤ m := h1
      omega
    subst em
    walk_at "go"
    intro D nD
    generalize eH_ : upd H1 D _ = H2
    have s2 : Same H1 H2 := by rw [← eH_]; exact same_new nD
    have eD : H2 D = some (.lst []) := by rw [← eH_]; exact upd_same
    clear eH_
    have nHD : H D = none := by
      cases e : H D with
      | none => rfl
      | some ob =>
        rw [s1 _ _ e] at nD
        cases nD
    walk_at "go"
    refine for_gen (n := ds.length) (fun i σ H3 => Same H H3 ∧ H3 D = some (.lst (((List.range i).map fun (k : Nat) => L (k : Int)).map V.int)) ∧ ∃ v2 v5 : Option V, σ = [some (.ref a), some (.int (ds.length : Int)), v2, some (.int (L ((i - 1 : Nat) : Int))), some (.ref D), v5]) ⟨s1.trans s2, eD, none, none, rfl⟩ ?_ ?_ ?_ ?_
    · intro i σ H3 hi _
      show i < (ds.length : Int).toNat
      omega
    · intro σ H3 _
      show (ds.length : Int).toNat ≤ ds.length
      omega
    · rintro i σ H3 x H' hi ⟨s3, eD3, v2, v5, rfl⟩ ⟨rfl, rfl⟩
      have hS3 := Z.Same.sqT s3 hS
      have l0 : L ((i - 1 : Nat) : Int) ≤ L (i : Int) := lat.mon.le (by omega)
      refine ⟨fun m σ' H4 => H4 = H' ∧ ∃ y : Int, m = (L (i : Int) - y).toNat ∧ y ≤ L (i : Int) ∧ σ' = [some (.ref a), some (.int (ds.length : Int)), v2, some (.int y), some (.ref D), some (.int (0 + (i : Int)))], ⟨_, rfl, _, rfl, l0, rfl⟩, ?_⟩
      rintro m σ' H4 ⟨rfl, y, em, hy, rfl⟩
      walk_at "go"
      refine ⟨false, a, ds, y + 1, rfl, hS3, hp, by omega, ?_⟩
      rw [o.dv]
      walk_at "go"
      have key := lat (y + 1) (i : Int)
      refine ite2 (fun e => ?_) (fun e => ?_)
      · have e := of_decide_eq_true e
        have h1 := key.mp (by omega)
        refine ⟨fun σ' H5 => H5 = H4 ∧ ∃ y : Int, (L (i : Int) - y).toNat < m ∧ y ≤ L (i : Int) ∧ σ' = [some (.ref a), some (.int (ds.length : Int)), v2, some (.int y), some (.ref D), some (.int (0 + (i : Int)))], fun σ' H5 z => ?_, ?_⟩
        · obtain ⟨rfl, y2, g1, g2, rfl⟩ := z
          exact ⟨_, g1, rfl, y2, rfl, g2, rfl⟩
        walk_at "go"
        exact ⟨y + 1, by omega, h1, rfl⟩
      · have e : ¬ F (y + 1) ≤ 0 + (i : Int) := fun z => e (decide_eq_true z)
        have h1 : ¬ y + 1 ≤ L (i : Int) := fun z => e (by have := key.mpr z; omega)
        obtain rfl : y = L (i : Int) := by omega
        walk_at "go"
        refine ⟨.inl ⟨rfl, _, .inl (.inl eD3)⟩, ?_⟩
        walk_at "go"
        refine ⟨_, _, _, rfl, rfl, eD3, ?_, ?_⟩
        · rw [List.length_map, List.length_map, List.length_range]
          exact Nat.lt_of_lt_of_le hi (Nat.le_trans hl (by decide))
        refine ⟨Z.Same.mut s3 nHD, ?_, _, _, rfl⟩
        rw [upd_same, List.range_succ, List.map_append, List.map_append]
        rfl
    · rintro σ H3 ⟨s3, eD3, v2, v5, rfl⟩
      walk_at "go"
      exact q D H3 _ s3 eD3 (of_range hp (lat.per o.per)) (by rw [List.length_map, List.length_range])
/-! ### latest, soonest -/
def spLatest (C : Addr) (K : PySem.W.Frag) : Sp := fun vs H Q _ => ∃ (n : Addr) (M : Nat) (F : Int → Int), vs = [.ref n] ∧ RuleF C K H n M F ∧ 0 < M ∧ M ≤ 30000 ∧ ∀ (r : Addr) H' (L : Int → Int), Same H H' → Lat F L → RuleF C K H' r M L → Q (.ref r) H'
def spSoonest (C : Addr) (K : PySem.W.Frag) : Sp := fun vs H Q _ => ∃ (n : Addr) (M : Nat) (F : Int → Int), vs = [.ref n] ∧ RuleF C K H n M F ∧ 0 < M ∧ M ≤ 30000 ∧ ∀ (r : Addr) H' (S : Int → Int), Same H H' → Soo F S → RuleF C K H' r M S → Q (.ref r) H'
theorem ok_latest (F : FnM K "latest" "DayRule.latest" s_DayRule_latest f fd) (cls : Cls K C) (n_days : NoAttr K C "days") (c_latest_days : Cal P w K mg base 2 "latest_days" (spLatD K)) (k_DayRule : MakX P w K mg base 4 "DayRule" C (spInit C CD K)) : FnOk P w K mg base CX0 6 f fd P_DayRule_latest (spLatest C K) := by
  refine F.ok sc_DayRule_latest (fun vs H Q E h => ?_) (fun cdv A outer s H vs Q E hr h => ?_)
  · obtain ⟨n, M, F, rfl, _⟩ := h
    rfl
  · obtain ⟨n, M, F, rfl, hF, m0, m1, q⟩ := h
    refine ⟨_, PSs.nox (pss_one (ps_ret (pe_mkE k_DayRule (fun _ => passS0) hr (by decide) (by rfl) (pa_cons (pe_cl c_latest_days hr (by decide) (by rfl) (pa_cons (pe_fld (pv 0) rfl) pa_nil)) pa_nil)))), ?_⟩
    obtain ⟨⟨ds, rN, oF, lF⟩, pF, moF⟩ := hF
    have lds := lp_le lF m0 pF
    obtain ⟨dx, t, a1, a2⟩ := rN
    obtain ⟨L, lat⟩ := lat_ex m0 moF pF
    walk_at "go"
    refine ⟨t, ds, F, L, rfl, SqT.of a2, oF, by omega, lat, fun D H1 es s1 eD oD lD => ?_⟩
    walk_at "go"
    intro r dz n1 n2 n3
    refine mk_rule (b := true) n1 n2 n3 eD (by omega) oD lat.mon (lat.per pF) (fun H4 s4 rF => ?_)
    exact q r H4 L (s1.trans s4) lat rF
theorem ok_soonest (F : FnM K "soonest" "DayRule.soonest" s_DayRule_soonest f fd) (m_len : mg "len" = none) (m_range : mg "range" = none) (cls : Cls K C) (n_days : NoAttr K C "days") (c_day_at : Cal P w K mg base 1 "day_at" (spDayAt K)) (c_latest_days : Cal P w K mg base 2 "latest_days" (spLatD K)) (k_DayRule : MakX P w K mg base 4 "DayRule" C (spInit C CD K)) : FnOk P w K mg base CX0 6 f fd P_DayRule_soonest (spSoonest C K) := by
  refine F.ok sc_DayRule_soonest (fun vs H Q E h => ?_) (fun cdv A outer s H vs Q E hr h => ?_)
  · obtain ⟨n, M, F, rfl, _⟩ := h
    rfl
  · obtain ⟨n, M, F, rfl, hF, m0, m1, q⟩ := h
    refine ⟨_, PSs.nox (pss_cons (ps_set (i := 1) sc_DayRule_soonest.nd rfl (by first | exact .inl rfl | exact .inr rfl) (pe_cl c_latest_days hr (by decide) (by rfl) (pa_cons (pe_fld (pv 0) rfl) pa_nil)))
      (pss_one (ps_ret (pe_mkE k_DayRule (fun _ => passS0) hr (by decide) (by rfl) (pa_cons (pe_lc (own := [("day", 2)]) (g := (gName 2)) (tt := tYes) (by rfl) sc_DayRule_soonest.nd (pi_range1 (by rfl) m_range (pa_cons (pe_callB call_len_seq (by rfl) m_len PySem.boot_len (pa_cons (pv 1) pa_nil)) pa_nil)) (blkOk_by (own := [("day", 2)]) (N := N_DayRule_soonest) (sc := defScope s_DayRule_soonest) (by decide +kernel)) (fun _ _ _ _ _ => (pg_name (i := 2) sc_DayRule_soonest.nd rfl (by first | exact .inl rfl | exact .inr rfl))) (fun _ _ _ _ _ => pts_nil) (fun _ _ _ _ _ => (pe_op op_add (pe_cl c_day_at hr (by decide) (by rfl) (pa_cons (pv 1) (pa_cons (pe_op op_sub (pv 2) pe_int) pa_nil))) pe_int))) pa_nil))))), ?_⟩
    obtain ⟨⟨ds, rN, oF, lF⟩, pF, moF⟩ := hF
    have lds := lp_le lF m0 pF
    obtain ⟨dx, t, a1, a2⟩ := rN
    obtain ⟨L, lat⟩ := lat_ex m0 moF pF
    walk_at "go"
    refine ⟨t, ds, F, L, rfl, SqT.of a2, oF, by omega, lat, fun D H1 es s1 eD oD lD => ?_⟩
    walk_at "go"
    refine ⟨D, _, rfl, .inl (SqL.of eD), ?_⟩
    rw [List.length_map]
    walk_at "go"
    intro B nB
    refine lc_rng (K := K) (n := es.length) (fun k => L ((k : Int) - 1) + 1) (by omega) nB (fun _ => rfl) ?_ ?_
    · intro k H3 Q1 hk s3 q1
      walk_at "go"
      refine ⟨true, D, es, _, rfl, SqL.of (s3 _ _ eD), oD.pos, by omega, ?_⟩
      walk_at "go"
      rw [oD.dv, Int.zero_add]
      exact q1 _ (Same.refl _)
    intro H3 s3 eB
    have soo := lat.soo
    walk_at "go"
    intro r dz n1 n2 n3
    refine mk_rule (b := true) n1 n2 n3 eB ?_ (of_range (F := fun l => L (l - 1) + 1) oD.pos (soo.per (by rw [lD]; exact oF.per))) soo.mon (soo.per pF) (fun H4 s4 rF => ?_)
    · rw [List.length_map, List.length_range]
      omega
    exact q r H4 _ (s1.trans (s3.trans s4)) soo rF
end
end Z
set_option Elab.async false
set_option linter.all false
namespace Dy
/-! ### the next and the last good day -/
def IsNx (p : Int → Prop) (d n : Int) : Prop := d ≤ n ∧ p n ∧ ∀ e, d ≤ e → p e → n ≤ e
def IsLs (p : Int → Prop) (d n : Int) : Prop := n ≤ d ∧ p n ∧ ∀ e, e ≤ d → p e → e ≤ n
theorem IsNx.uniq {p : Int → Prop} {d n m : Int} (a : IsNx p d n) (b : IsNx p d m) : n = m := by
  have h1 := a.2.2 m b.1 b.2.1
  have h2 := b.2.2 n a.1 a.2.1
  omega
theorem IsLs.uniq {p : Int → Prop} {d n m : Int} (a : IsLs p d n) (b : IsLs p d m) : n = m := by
  have h1 := a.2.2 m b.1 b.2.1
  have h2 := b.2.2 n a.1 a.2.1
  omega
theorem nx_mon {p : Int → Prop} {N : Int → Int} (h : ∀ d, IsNx p d (N d)) : Mon N := fun d => by
  obtain ⟨a1, a2, a3⟩ := h d
  obtain ⟨b1, b2, b3⟩ := h (d + 1)
  exact a3 _ (by omega) b2
theorem ls_mon {p : Int → Prop} {L : Int → Int} (h : ∀ d, IsLs p d (L d)) : Mon L := fun d => by
  obtain ⟨a1, a2, a3⟩ := h d
  obtain ⟨b1, b2, b3⟩ := h (d + 1)
  exact b3 _ (by omega) a2
def Pdc (p : Int → Prop) (s : Int) : Prop := ∀ d, p (d + s) ↔ p d
theorem nx_per {p : Int → Prop} {N : Int → Int} {s : Int} (h : ∀ d, IsNx p d (N d)) (k : Pdc p s) : Per N s := fun d => by
  refine (h (d + s)).uniq ⟨?_, (k _).mpr (h d).2.1, fun e h1 h2 => ?_⟩
  · have := (h d).1
    omega
  · have h3 : p (e - s) := (k (e - s)).mp (by rw [show e - s + s = e by omega]; exact h2)
    have := (h d).2.2 (e - s) (by omega) h3
    omega
theorem ls_per {p : Int → Prop} {L : Int → Int} {s : Int} (h : ∀ d, IsLs p d (L d)) (k : Pdc p s) : Per L s := fun d => by
  refine (h (d + s)).uniq ⟨?_, (k _).mpr (h d).2.1, fun e h1 h2 => ?_⟩
  · have := (h d).1
    omega
  · have h3 : p (e - s) := (k (e - s)).mp (by rw [show e - s + s = e by omega]; exact h2)
    have := (h d).2.2 (e - s) (by omega) h3
    omega
theorem nx_lat {p : Int → Prop} {N L : Int → Int} (h : ∀ d, IsNx p d (N d)) (k : ∀ d, IsLs p d (L d)) : Lat N L := fun d l => by
  constructor
  · intro z
    have h1 := (k l).2.2 _ z (h d).2.1
    have := (h d).1
    omega
  · intro z
    have h1 := (h d).2.2 _ z (k l).2.1
    have := (k l).1
    omega
/-! good days of a list -/
def Gof (good : List Int) (P : Nat) (d : Int) : Prop := d % (P : Int) ∈ good
theorem gof_pdc (good : List Int) (P : Nat) : Pdc (Gof good P) (P : Int) := fun d => by
  unfold Gof
  rw [Int.add_emod_right]
theorem list_min : ∀ (xs : List Int), xs ≠ [] → ∃ m, m ∈ xs ∧ ∀ y, y ∈ xs → m ≤ y
  | [], h => absurd rfl h
  | x :: xs, _ => by
    by_cases c : xs = []
    · subst c
      exact ⟨x, by simp, fun y hy => by simp at hy; omega⟩
    · obtain ⟨m, h1, h2⟩ := list_min xs c
      by_cases hx : x ≤ m
      · refine ⟨x, by simp, fun y hy => ?_⟩
        rcases List.mem_cons.mp hy with z | z
        · omega
        · have := h2 y z
          omega
      · refine ⟨m, by simp [h1], fun y hy => ?_⟩
        rcases List.mem_cons.mp hy with z | z
        · omega
        · exact h2 y z
theorem mod_of {x m : Int} {P : Nat} (hP : 0 < P) (h0 : 0 ≤ m) (h1 : m < P) : (x + (m - x) % (P : Int)) % (P : Int) = m ∧ (x - (x - m) % (P : Int)) % (P : Int) = m := by
  have e1 : (x + (m - x) % (P : Int)) % (P : Int) = m % (P : Int) := by
    rw [Int.add_emod, Int.emod_emod, ← Int.add_emod, show x + (m - x) = m by omega]
  have e2 : (x - (x - m) % (P : Int)) % (P : Int) = m % (P : Int) := by
    rw [Int.sub_emod, Int.emod_emod, ← Int.sub_emod, show x - (x - m) = m by omega]
  rw [Int.emod_eq_of_lt h0 h1] at e1 e2
  exact ⟨e1, e2⟩
theorem mod_le {a : Int} {P : Nat} {k : Int} (hP : 0 < P) (h : 0 ≤ k) (e : k % (P : Int) = a % (P : Int)) : a % (P : Int) ≤ k := by
  rw [← e]
  have h1 := Int.emod_add_mul_ediv k (P : Int)
  have h2 := Int.ediv_nonneg h (show (0 : Int) ≤ P by omega)
  have h3 := Int.mul_nonneg (show (0 : Int) ≤ P by omega) h2
  omega
theorem nx_of {good : List Int} {P : Nat} {d m : Int} (hP : 0 < P) (hg : ∀ x ∈ good, 0 ≤ x ∧ x < P) (h1 : m ∈ good.map fun k => d + (k - d) % (P : Int)) (h2 : ∀ y, y ∈ good.map (fun k => d + (k - d) % (P : Int)) → m ≤ y) : IsNx (Gof good P) d m := by
  obtain ⟨k, hk, rfl⟩ := List.mem_map.mp h1
  obtain ⟨k0, k1⟩ := hg k hk
  have hn := Int.emod_nonneg (k - d) (show (P : Int) ≠ 0 by omega)
  refine ⟨by omega, ?_, fun e he hp => ?_⟩
  · unfold Gof
    rw [(mod_of hP k0 k1).1]
    exact hk
  · have h3 := h2 (d + (e % (P : Int) - d) % (P : Int)) (List.mem_map.mpr ⟨_, hp, rfl⟩)
    have h4 : (e % (P : Int) - d) % (P : Int) ≤ e - d := mod_le hP (by omega) (by rw [Int.emod_sub_emod])
    omega
theorem ls_of {good : List Int} {P : Nat} {d m : Int} (hP : 0 < P) (hg : ∀ x ∈ good, 0 ≤ x ∧ x < P) (h1 : m ∈ good.map fun k => d - (d - k) % (P : Int)) (h2 : ∀ y, y ∈ good.map (fun k => d - (d - k) % (P : Int)) → y ≤ m) : IsLs (Gof good P) d m := by
  obtain ⟨k, hk, rfl⟩ := List.mem_map.mp h1
  obtain ⟨k0, k1⟩ := hg k hk
  have hn := Int.emod_nonneg (d - k) (show (P : Int) ≠ 0 by omega)
  refine ⟨by omega, ?_, fun e he hp => ?_⟩
  · unfold Gof
    rw [(mod_of hP k0 k1).2]
    exact hk
  · have h3 := h2 (d - (d - e % (P : Int)) % (P : Int)) (List.mem_map.mpr ⟨_, hp, rfl⟩)
    have h4 : (d - e % (P : Int)) % (P : Int) ≤ d - e := mod_le hP (by omega) (by rw [Int.sub_emod, Int.sub_emod d (e % _), Int.emod_emod])
    omega
theorem nx_ex {good : List Int} {P : Nat} (hP : 0 < P) (hg : ∀ x ∈ good, 0 ≤ x ∧ x < P) (h0 : good ≠ []) : ∃ N : Int → Int, ∀ d, IsNx (Gof good P) d (N d) := by
  have key : ∀ d : Int, ∃ n, IsNx (Gof good P) d n := fun d => by
    obtain ⟨m, h1, h2⟩ := list_min (good.map fun k => d + (k - d) % (P : Int)) (by simp [h0])
    exact ⟨m, nx_of hP hg h1 h2⟩
  exact ⟨fun d => Classical.choose (key d), fun d => Classical.choose_spec (key d)⟩
theorem ls_ex {good : List Int} {P : Nat} (hP : 0 < P) (hg : ∀ x ∈ good, 0 ≤ x ∧ x < P) (h0 : good ≠ []) : ∃ L : Int → Int, ∀ d, IsLs (Gof good P) d (L d) := by
  have key : ∀ d : Int, ∃ n, IsLs (Gof good P) d n := fun d => by
    obtain ⟨m, h1, h2⟩ := list_min (good.map fun k => -(d - (d - k) % (P : Int))) (by simp [h0])
    obtain ⟨k, hk, rfl⟩ := List.mem_map.mp h1
    refine ⟨d - (d - k) % (P : Int), ls_of hP hg (List.mem_map.mpr ⟨k, hk, rfl⟩) fun y hy => ?_⟩
    obtain ⟨k2, hk2, rfl⟩ := List.mem_map.mp hy
    have := h2 _ (List.mem_map.mpr ⟨k2, hk2, rfl⟩)
    omega
  exact ⟨fun d => Classical.choose (key d), fun d => Classical.choose_spec (key d)⟩
/-! counting -/
open Classical in
noncomputable def oi (p : Int → Prop) (s : Int) : Nat := if p s then 1 else 0
theorem oi_pos {p : Int → Prop} {s : Int} (h : p s) : oi p s = 1 := by
  unfold oi
  rw [if_pos h]
theorem oi_neg {p : Int → Prop} {s : Int} (h : ¬ p s) : oi p s = 0 := by
  unfold oi
  rw [if_neg h]
noncomputable def cnt (p : Int → Prop) (s : Int) : Nat → Nat
  | 0 => 0
  | n + 1 => cnt p s n + oi p (s + n)
theorem cnt_front (p : Int → Prop) : ∀ (n : Nat) (s : Int), cnt p s (n + 1) = oi p s + cnt p (s + 1) n
  | 0, s => by
    show 0 + oi p (s + (0 : Nat)) = oi p s + 0
    rw [show s + ((0 : Nat) : Int) = s by omega]
    omega
  | n + 1, s => by
    have h := cnt_front p n s
    have e1 : cnt p s (n + 1 + 1) = cnt p s (n + 1) + oi p (s + (n + 1 : Nat)) := rfl
    have e2 : cnt p (s + 1) (n + 1) = cnt p (s + 1) n + oi p (s + 1 + n) := rfl
    rw [e1, e2, h, show s + ((n + 1 : Nat) : Int) = s + 1 + n by omega]
    omega
theorem cnt_add (p : Int → Prop) (s : Int) (a : Nat) : ∀ b, cnt p s (a + b) = cnt p s a + cnt p (s + a) b
  | 0 => rfl
  | b + 1 => by
    have h := cnt_add p s a b
    have e1 : cnt p s (a + (b + 1)) = cnt p s (a + b) + oi p (s + (a + b : Nat)) := rfl
    have e2 : cnt p (s + a) (b + 1) = cnt p (s + a) b + oi p (s + a + b) := rfl
    rw [e1, e2, h, show s + ((a + b : Nat) : Int) = s + a + b by omega]
    omega
theorem cnt_step {p : Int → Prop} {P : Nat} (h : Pdc p (P : Int)) (s : Int) : cnt p (s + 1) P = cnt p s P := by
  have h1 := cnt_front p P s
  have h2 : cnt p s (P + 1) = cnt p s P + oi p (s + P) := rfl
  have h3 : oi p (s + P) = oi p s := by
    by_cases c : p s
    · rw [oi_pos c, oi_pos ((h s).mpr c)]
    · rw [oi_neg c, oi_neg (fun z => c ((h s).mp z))]
  omega
theorem cnt_any {p : Int → Prop} {P : Nat} (h : Pdc p (P : Int)) (s : Int) : cnt p s P = cnt p 0 P := by
  have up : ∀ n : Nat, ∀ t : Int, cnt p (t + n) P = cnt p t P := fun n => by
    induction n with
    | zero => intro t; simp
    | succ n ih =>
      intro t
      rw [show t + ((n + 1 : Nat) : Int) = t + n + 1 by omega, cnt_step h, ih]
  by_cases c : 0 ≤ s
  · have := up s.toNat 0
    rw [show (0 : Int) + (s.toNat : Int) = s by omega] at this
    exact this
  · have := up (-s).toNat s
    rw [show s + ((-s).toNat : Int) = 0 by omega] at this
    exact this.symm
theorem cnt_list : ∀ (n : Nat) (good : List Int), good.Nodup → (∀ x ∈ good, 0 ≤ x ∧ x < n) → cnt (· ∈ good) 0 n = good.length
  | 0, good, _, h => by
    cases good with
    | nil => rfl
    | cons x xs =>
      have := h x (by simp)
      omega
  | n + 1, good, nd, h => by
    have e1 : cnt (· ∈ good) 0 (n + 1) = cnt (· ∈ good) 0 n + oi (· ∈ good) (0 + (n : Int)) := rfl
    rw [e1, Int.zero_add]
    have same : ∀ (k : Nat) (xs ys : List Int), (∀ i : Nat, i < k → ((i : Int) ∈ xs ↔ (i : Int) ∈ ys)) → cnt (· ∈ xs) 0 k = cnt (· ∈ ys) 0 k := fun k xs ys => by
      induction k with
      | zero => intro _; rfl
      | succ k ih =>
        intro hk
        have f1 : cnt (· ∈ xs) 0 (k + 1) = cnt (· ∈ xs) 0 k + oi (· ∈ xs) (0 + (k : Int)) := rfl
        have f2 : cnt (· ∈ ys) 0 (k + 1) = cnt (· ∈ ys) 0 k + oi (· ∈ ys) (0 + (k : Int)) := rfl
        rw [f1, f2, ih (fun i hi => hk i (by omega)), Int.zero_add]
        have := hk k (by omega)
        by_cases c : (k : Int) ∈ xs
        · rw [oi_pos c, oi_pos (this.mp c)]
        · rw [oi_neg c, oi_neg (fun z => c (this.mpr z))]
    by_cases c : (n : Int) ∈ good
    · rw [oi_pos c, same n good (good.erase n) (fun i hi => by
        rw [List.mem_erase_of_ne (by omega)]), cnt_list n (good.erase n) (nd.erase _) (fun x hx => ?_), List.length_erase_of_mem c]
      · have := List.length_pos_of_mem c
        omega
      · have h1 := h x (List.mem_of_mem_erase hx)
        have h2 : x ≠ n := fun z => by
          subst z
          exact nd.not_mem_erase hx
        omega
    · rw [oi_neg c, cnt_list n good nd (fun x hx => by
        have h1 := h x hx
        have h2 : x ≠ n := fun z => c (z ▸ hx)
        omega)]
      rfl
theorem cnt_good {good : List Int} {P : Nat} (hP : 0 < P) (nd : good.Nodup) (hg : ∀ x ∈ good, 0 ≤ x ∧ x < P) (s : Int) : cnt (Gof good P) s P = good.length := by
  rw [cnt_any (gof_pdc good P) s, ← cnt_list P good nd hg]
  have same : ∀ k : Nat, k ≤ P → cnt (Gof good P) 0 k = cnt (· ∈ good) 0 k := fun k => by
    induction k with
    | zero => intro _; rfl
    | succ k ih =>
      intro hk
      have f1 : cnt (Gof good P) 0 (k + 1) = cnt (Gof good P) 0 k + oi (Gof good P) (0 + (k : Int)) := rfl
      have f2 : cnt (· ∈ good) 0 (k + 1) = cnt (· ∈ good) 0 k + oi (· ∈ good) (0 + (k : Int)) := rfl
      rw [f1, f2, ih (by omega)]
      have e : Gof good P (0 + (k : Int)) ↔ (0 + (k : Int)) ∈ good := by
        unfold Gof
        rw [Int.emod_eq_of_lt (by omega) (by omega)]
      by_cases c : (0 + (k : Int)) ∈ good
      · rw [oi_pos c, oi_pos (e.mpr c)]
      · rw [oi_neg c, oi_neg (fun z => c (e.mp z))]
  exact same P (Nat.le_refl _)
theorem cnt_none {p : Int → Prop} : ∀ (n : Nat) (s : Int), (∀ e, s ≤ e → e < s + n → ¬ p e) → cnt p s n = 0
  | 0, _, _ => rfl
  | n + 1, s, h => by
    have e1 : cnt p s (n + 1) = cnt p s n + oi p (s + n) := rfl
    rw [e1, cnt_none n s (fun e h1 h2 => h e h1 (by omega)), oi_neg (h _ (by omega) (by omega))]
/-- as many uses as there are good days in a period lead a good day to itself, a period later -/
theorem it_many {p : Int → Prop} {P many : Nat} {N : Int → Int} (hN : ∀ d, IsNx p d (N d)) (hP : Pdc p (P : Int)) (hc : ∀ s, cnt p s P = many) {g : Int} (hg : p g) : it (fun d => N (d + 1)) many g = g + P := by
  have key : ∀ j : Nat, ∃ k : Nat, it (fun d => N (d + 1)) j g = g + k ∧ p (g + k) ∧ cnt p (g + 1) k = j := fun j => by
    induction j with
    | zero => exact ⟨0, by show g = _; simp, by simpa using hg, rfl⟩
    | succ j ih =>
      obtain ⟨k, e, hp, hk⟩ := ih
      obtain ⟨a1, a2, a3⟩ := hN (g + k + 1)
      obtain ⟨t, ht⟩ := Int.eq_ofNat_of_zero_le (show 0 ≤ N (g + k + 1) - (g + k + 1) by omega)
      have eN : N (g + k + 1) = g + ((k + (t + 1) : Nat) : Int) := by omega
      refine ⟨k + (t + 1), ?_, by rw [← eN]; exact a2, ?_⟩
      · show N (it (fun d => N (d + 1)) j g + 1) = _
        rw [e, eN]
      · rw [cnt_add, hk]
        have e1 : cnt p (g + 1 + k) (t + 1) = cnt p (g + 1 + k) t + oi p (g + 1 + k + t) := rfl
        have e2 : g + 1 + k + t = N (g + k + 1) := by omega
        rw [e1, e2, oi_pos a2, cnt_none t _ (fun e h1 h2 z => by
          have := a3 e (by omega) z
          omega)]
  obtain ⟨k, e, hp, hk⟩ := key many
  have hP2 : p (g + P) := (hP g).mpr hg
  have h1 := hc (g + 1)
  rw [e]
  rcases Nat.lt_trichotomy k P with c | c | c
  · exfalso
    obtain ⟨t, rfl⟩ : ∃ t, P = k + (t + 1) := ⟨P - k - 1, by omega⟩
    rw [cnt_add, hk] at h1
    have e1 : cnt p (g + 1 + k) (t + 1) = cnt p (g + 1 + k) t + oi p (g + 1 + k + t) := rfl
    rw [e1, show g + 1 + (k : Int) + t = g + ((k + (t + 1) : Nat) : Int) by omega, oi_pos hP2] at h1
    omega
  · rw [c]
  · exfalso
    obtain ⟨t, rfl⟩ : ∃ t, k = P + (t + 1) := ⟨k - P - 1, by omega⟩
    rw [cnt_add, h1] at hk
    have e1 : cnt p (g + 1 + P) (t + 1) = cnt p (g + 1 + P) t + oi p (g + 1 + P + t) := rfl
    rw [e1, show g + 1 + (P : Int) + t = g + ((P + (t + 1) : Nat) : Int) by omega, oi_pos hp] at hk
    omega
/-- the days backwards -/
theorem cnt_rev (p : Int → Prop) : ∀ (n : Nat) (s : Int), cnt (fun d => p (-d)) s n = cnt p (-s - n + 1) n
  | 0, _ => rfl
  | n + 1, s => by
    have e1 : cnt (fun d => p (-d)) s (n + 1) = cnt (fun d => p (-d)) s n + oi p (-(s + n)) := rfl
    rw [e1, cnt_rev p n s, cnt_front, show -s - ((n + 1 : Nat) : Int) + 1 = -(s + n) by omega, show -(s + (n : Int)) + 1 = -s - n + 1 by omega]
    omega
theorem it_neg {F G : Int → Int} (h : ∀ d, G d = -F (-d)) : ∀ (n : Nat) (d : Int), it G n d = -(it F n (-d))
  | 0, d => by
    show d = -(-d)
    omega
  | n + 1, d => by
    show G (it G n d) = -F (it F n (-d))
    rw [h, it_neg h n d]
    congr 2
    omega
theorem it_back {p : Int → Prop} {P many : Nat} {L : Int → Int} (hL : ∀ d, IsLs p d (L d)) (hP : Pdc p (P : Int)) (hc : ∀ s, cnt p s P = many) {g : Int} (hg : p g) : it (fun d => L (d + -1)) many g = g - P := by
  have hN : ∀ d, IsNx (fun d => p (-d)) d (-(L (-d))) := fun d => by
    obtain ⟨a1, a2, a3⟩ := hL (-d)
    refine ⟨by omega, (show p (- -(L (-d))) by rw [show - -(L (-d)) = L (-d) by omega]; exact a2), fun e h1 h2 => ?_⟩
    have := a3 (-e) (by omega) h2
    omega
  have h1 := it_many (P := P) (many := many) hN (fun d => by
    have := hP (-(d + P))
    rw [show -(d + (P : Int)) + P = -d by omega] at this
    exact this.symm) (fun s => by rw [cnt_rev]; exact hc _) (g := -g) (by rw [show - -g = g by omega]; exact hg)
  have h2 := it_neg (F := fun d => -(L (-(d + 1)))) (G := fun d => L (d + -1)) (fun d => by
    show L (d + -1) = - -(L (-(-d + 1)))
    rw [show -(-d + 1) = d + -1 by omega]
    omega) many g
  rw [h2, h1]
  omega
end Dy
set_option pp.maxSteps 700
set_option Elab.async false
set_option linter.all false
set_option maxRecDepth 100000
set_option maxHeartbeats 4000000
namespace Z
open Dy
open PySem PySem.Spec PyProof.Rows L2
open C8 (pss_cut tCut)
local macro_rules | `(tactic| walk_at "num") => `(tactic| first | rfl | omega | decide | exact Nat.le_of_lt (small1000 (by simp)) | exact ⟨by omega, by omega⟩ | exact ⟨by omega, by omega, by omega⟩ | exact ⟨by decide, by decide, by decide⟩ | exact Or.inl ⟨by omega, by omega⟩ | exact Or.inr ⟨by omega, by omega⟩)
local macro_rules | `(tactic| walk_at "go") => `(tactic| repeat (first | refine ⟨_, rfl, ?_⟩ | refine ⟨_, _, rfl, rfl, ?_⟩ | refine ⟨_, _, rfl, ?_⟩ | (refine ⟨_, _, rfl, rfl, ?_, ?_⟩; focus walk_at "num") | refine Or.inl ⟨_, rfl, ?_⟩ | refine ⟨_, _, _, _, rfl, rfl, (by assumption), (by rfl), ?_⟩ | refine ⟨_, _, _, _, _, rfl, (by assumption), (by assumption), (by assumption), (by rfl), ?_⟩ | refine ⟨rfl, ?_⟩ | (refine And.intro ?_ ?_; focus walk_at "num")))
abbrev s_asked : Stmt := topS 26
abbrev N_asked : List Str := ["_law_script", "_law_many", "_law_far", "_law_k", "_law_found", "_law_cell_here", "_law_day"]
abbrev P_asked : List Str := ["_law_script", "_law_many"]
theorem sc_asked : FnScope N_asked P_asked (defScope s_asked) := ⟨rfl, rfl, rfl, by decide +kernel, rfl, by decide +kernel, by decide +kernel⟩
abbrev s_shift : Stmt := topS 15
abbrev N_shift : List Str := ["days"]
abbrev P_shift : List Str := ["days"]
theorem sc_shift : FnScope N_shift P_shift (defScope s_shift) := ⟨rfl, rfl, rfl, by decide +kernel, rfl, by decide +kernel, by decide +kernel⟩
abbrev s_check_good : Stmt := topS 16
abbrev N_check_good : List Str := ["period", "good", "at", "day"]
abbrev P_check_good : List Str := ["period", "good"]
theorem sc_check_good : FnScope N_check_good P_check_good (defScope s_check_good) := ⟨rfl, rfl, rfl, by decide +kernel, rfl, by decide +kernel, by decide +kernel⟩
abbrev s_next_good : Stmt := topS 17
abbrev N_next_good : List Str := ["period", "good", "mark", "day"]
abbrev P_next_good : List Str := ["period", "good"]
theorem sc_next_good : FnScope N_next_good P_next_good (defScope s_next_good) := ⟨rfl, rfl, rfl, by decide +kernel, rfl, by decide +kernel, by decide +kernel⟩
abbrev s_last_good : Stmt := topS 18
abbrev N_last_good : List Str := ["period", "good", "mark", "day"]
abbrev P_last_good : List Str := ["period", "good"]
theorem sc_last_good : FnScope N_last_good P_last_good (defScope s_last_good) := ⟨rfl, rfl, rfl, by decide +kernel, rfl, by decide +kernel, by decide +kernel⟩
abbrev s_DayRule_exceeds : Stmt := inClass (topS 14) 10
abbrev N_DayRule_exceeds : List Str := ["self", "other", "day"]
abbrev P_DayRule_exceeds : List Str := ["self", "other"]
theorem sc_DayRule_exceeds : FnScope N_DayRule_exceeds P_DayRule_exceeds (defScope s_DayRule_exceeds) := ⟨rfl, rfl, rfl, by decide +kernel, rfl, by decide +kernel, by decide +kernel⟩
def GOk (P : Nat) (good : List Int) : Prop := good ≠ [] ∧ ∀ x ∈ good, 0 ≤ x ∧ x < P
def GBad (P : Nat) (good : List Int) (i : Nat) : Prop := (good = [] ∧ i = 0) ∨ (i < good.length ∧ ¬ (0 ≤ good.getD i 0 ∧ good.getD i 0 < P) ∧ ∀ j, j < i → 0 ≤ good.getD j 0 ∧ good.getD j 0 < P)
theorem GBad.not {P : Nat} {good : List Int} {i : Nat} (a : GBad P good i) (b : GOk P good) : False := by
  rcases a with ⟨h, _⟩ | ⟨h1, h2, _⟩
  · exact b.1 h
  · refine h2 (b.2 _ ?_)
    rw [List.getD_eq_getElem?_getD, List.getElem?_eq_getElem h1]
    exact List.getElem_mem h1
theorem GBad.uniq {P : Nat} {good : List Int} {i j : Nat} (a : GBad P good i) (b : GBad P good j) : i = j := by
  rcases a with ⟨h, h0⟩ | ⟨h1, h2, h3⟩ <;> rcases b with ⟨k, k0⟩ | ⟨k1, k2, k3⟩
  · omega
  · subst h
    simp at k1
  · subst k
    simp at h1
  · rcases Nat.lt_trichotomy i j with c | c | c
    · exact absurd (k3 i c) h2
    · exact c
    · exact absurd (h3 j c) k2
section
variable {P : Program} {w : World} {K : PySem.W.Frag} {mg : Str → Option Value} {base : Heap} {f C CD CC CH : Addr} {fd : FuncData}
/-! ### asked -/
def spAsked (K : PySem.W.Frag) : Sp := fun vs H Q _ => ∃ (a : Addr) (ns : List Int) (m : Nat), vs = [.ref a, .int (m : Int)] ∧ SqL K H a (ns.map V.int) ∧ ns.length ≤ 63 ∧ m ≤ 1000 ∧ ∀ (L : Addr) H' (xs : List Int), Same H H' → H L = none → H' L = some (.lst (xs.map V.int)) → (1 ≤ m → 12 ≤ xs.length) → xs.length ≤ 1000 → Q (.ref L) H'
theorem ok_asked (F : FnP K "_law_asked" s_asked f fd) (m_int : mg "int" = none) (m_range : mg "range" = none) (m_min : mg "min" = none) (m_max : mg "max" = none) (m_len : mg "len" = none) (c_cell : Cal P w K mg base 1 "_law_cell" (spCell K)) : FnOk P w K mg base CX0 2 f fd P_asked (spAsked K) := by
  refine F.ok sc_asked (fun vs H Q E h => ?_) (fun cdv A outer s H vs Q E hr h => ?_)
  · obtain ⟨a, ns, m, rfl, _⟩ := h
    rfl
  · obtain ⟨a, ns, m, rfl, hS, hl, hm, q⟩ := h
    refine ⟨_, PSs.nox (pss_cons (ps_set (i := 2) sc_asked.nd rfl (by first | exact .inl rfl | exact .inr rfl) (pe_op op_mulX (pe_op op_mulX (pe_op op_pow pe_int pe_int) (pe_op op_pow pe_int pe_int)) (pe_op op_pow pe_int pe_int)))
      (pss_cons (ps_setLc (i := 4) (own := [("_law_k", 3)]) (g := (gName 3)) (tt := tYes) (by rfl) sc_asked.nd rfl rfl (sw_true rfl rfl rfl (by decide +kernel)) (pi_range1 (by rfl) m_range (pa_cons (pe_callB (call_min2 rfl) (by rfl) m_min (by decide +kernel) (pa_cons (pe_op op_add (pe_op op_mul pe_int (pv 1)) pe_int) (pa_cons pe_int pa_nil))) pa_nil)) (blkOk_by (own := [("_law_k", 3)]) (N := N_asked) (sc := defScope s_asked) (by decide +kernel)) (fun _ _ _ _ _ => (pg_name (i := 3) sc_asked.nd rfl (by first | exact .inl rfl | exact .inr rfl))) (fun _ _ _ _ _ => pts_nil) (fun _ _ _ _ _ => (pe_op op_sub (pe_op op_sub (pv 3) (pv 1)) pe_int)))
      (pss_cons (ps_for PassesOwn.never rfl (pi_range2 (by rfl) m_range (pa_cons pe_int (pa_cons (pe_callB (call_max2 rfl) (by rfl) m_max (by decide +kernel) (pa_cons pe_int (pa_cons (pe_callB call_len_seq (by rfl) m_len PySem.boot_len (pa_cons (pv 0) pa_nil)) pa_nil))) pa_nil))) (pg_name (i := 3) sc_asked.nd rfl (by first | exact .inl rfl | exact .inr rfl))
        (pss_cons (ps_set (i := 5) sc_asked.nd rfl (by first | exact .inl rfl | exact .inr rfl) (pe_op op_add (pe_cl c_cell hr (by decide) (by rfl) (pa_cons (pv 0) (pa_cons (pv 3) pa_nil))) (pe_op op_mul pe_int (pv 3))))
      (pss_cons (ps_set (i := 6) sc_asked.nd rfl (by first | exact .inl rfl | exact .inr rfl) (pe_op op_sub (pe_op op_mod (pe_callTy call_int1 (by rfl) m_int (by decide +kernel) (pa_cons (pe_op op_fdiv (pv 5) pe_int) pa_nil)) pe_int) pe_int))
      (pss_cut (ps_if (pt_cmpR op_gt (pe_op op_mod (pe_callTy call_int1 (by rfl) m_int (by decide +kernel) (pa_cons (pv 5) pa_nil)) pe_int) pe_int (nomark _)) (pss_one (ps_set (i := 6) sc_asked.nd rfl (by first | exact .inl rfl | exact .inr rfl) (pe_op op_sub (pe_op op_mod (pe_callTy call_int1 (by rfl) m_int (by decide +kernel) (pa_cons (pe_op op_fdiv (pv 5) pe_int) pa_nil)) (pe_op op_add (pe_op op_mul pe_int (pv 2)) pe_int)) (pv 2)))) pss_nil)
      (pss_one (ps_expr (pe_bm PySem.F.plainAttrs_list PySem.F.slot_list_append PySem.F.type_list_append mt_append (pv 4) (pa_cons (pv 6) pa_nil))))))))
      (pss_one (ps_ret (pv 4)))))), ?_⟩
    walk_at "go"
    refine ⟨big_mul (by decide +kernel) (by decide +kernel), ?_⟩
    walk_at "go"
    refine ⟨big_mul (by decide +kernel) (by decide +kernel), ?_⟩
    walk_at "go"
    generalize eF : (fun i j : Int => V.int (i * j)) _ _ = vF
    have hF : vF = .int (10 ^ 180) := by
      rw [← eF]
      decide +kernel
    clear eF
    subst hF
    generalize eK : (if (60 : Int) < 3 * (m : Int) + 3 then (60 : Int) else 3 * (m : Int) + 3) = kI
    obtain ⟨k, hk⟩ := Int.eq_ofNat_of_zero_le (show 0 ≤ kI by rw [← eK]; split <;> omega)
    have hk1 : k ≤ 90 := by split at eK <;> omega
    have hk2 : 1 ≤ m → 6 ≤ k := by split at eK <;> omega
    intro D nD
    refine lc_gen (n := k) (fun i H1 => Same H H1 ∧ ∃ xs : List Int, H1 D = some (.lst (xs.map V.int)) ∧ xs.length = i) ⟨same_new nD, [], upd_same, rfl⟩ ?_ ?_ ?_ ?_
    · intro i H1 hi _
      show i < kI.toNat
      omega
    · intro H1 _
      show kI.toNat ≤ k
      omega
    · rintro i H1 x H' hi ⟨s1, xs, e1, l1⟩ ⟨rfl, rfl⟩
      walk_at "go"
      refine ⟨_, e1, ?_, Z.Same.mut s1 nD, xs ++ [0 + (i : Int) - m - 1], ?_, ?_⟩
      · rw [List.length_map, l1]
        exact Nat.lt_of_lt_of_le (show i < 1000 by omega) (by decide)
      · rw [upd_same, List.map_append]
        rfl
      · rw [List.length_append, l1]
        rfl
    rintro H1 ⟨s1, xs, e1, l1⟩
    have hS1 := s1.seq hS
    walk_at "go"
    refine ⟨a, _, rfl, .inl hS1, ?_⟩
    rw [List.length_map]
    walk_at "go"
    have hN : (if (ns.length : Int) > 9 then (ns.length : Int) else 9).toNat - 3 = max 9 ns.length - 3 := by split <;> omega
    refine for_gen (n := max 9 ns.length - 3) (fun i σ H2 => Same H H2 ∧ (∃ ys : List Int, H2 D = some (.lst (ys.map V.int)) ∧ ys.length = k + i) ∧ ∃ v3 v5 v6 : Option V, σ = [some (.ref a), some (.int (m : Int)), some (.int (10 ^ 180)), v3, some (.ref D), v5, v6]) ⟨s1, ⟨xs, e1, l1⟩, none, none, none, rfl⟩ ?_ ?_ ?_ ?_
    · intro i σ H2 hi _
      show i < ((if (ns.length : Int) > 9 then (ns.length : Int) else 9) - 3).toNat
      split <;> omega
    · intro σ H2 _
      show ((if (ns.length : Int) > 9 then (ns.length : Int) else 9) - 3).toNat ≤ _
      split <;> omega
    · rintro i σ H2 x H' hi ⟨s2, ⟨ys, e2, l2⟩, v3, v5, v6, rfl⟩ ⟨rfl, rfl⟩
      walk_at "go"
      refine ⟨a, ns, 3 + i, by rw [show ((3 + i : Nat) : Int) = 3 + (i : Int) by omega]; rfl, s2.seq hS, ?_⟩
      walk_at "go"
      refine ⟨fun σ' H1 => H1 = H' ∧ ∃ (x : Int), σ' = [some (.ref a), some (.int (m : Int)), some (.int (10 ^ 180)), some (.int (3 + (i : Int))), some (.ref D), some (.int (ns.getD (3 + i) 0 + 77 * (3 + (i : Int)))), some (.int x)], ?_, ?_⟩
      · walk_at "go"
        refine ite2 (fun e => ?_) (fun e => ?_)
        · walk_at "go"
          exact ⟨_, rfl⟩
        · exact ⟨rfl, _, rfl⟩
      rintro σ' H3 ⟨rfl, x, rfl⟩
      walk_at "go"
      refine ⟨.inl ⟨rfl, _, .inl (.inl e2)⟩, ?_⟩
      walk_at "go"
      refine ⟨_, _, _, rfl, rfl, e2, ?_, ?_⟩
      · rw [List.length_map, l2]
        exact Nat.lt_of_lt_of_le (show k + i < 1000 by omega) (by decide)
      refine ⟨Z.Same.mut s2 nD, ⟨ys ++ [x], ?_, ?_⟩, _, _, _, rfl⟩
      · rw [upd_same, List.map_append]
        rfl
      · rw [List.length_append, l2]
        rfl
    · rintro σ H2 ⟨s2, ⟨ys, e2, l2⟩, v3, v5, v6, rfl⟩
      walk_at "go"
      exact q D H2 ys s2 nD e2 (fun h => by have := hk2 h; omega) (by omega)
/-! ### shift -/
def spShift (C : Addr) (K : PySem.W.Frag) : Sp := fun vs H Q _ => ∃ (c : Int) (M : Nat), vs = [.int c] ∧ ∀ (r : Addr) H', Same H H' → RuleF C K H' r M (fun d => d + c) → Q (.ref r) H'
theorem ok_shift (F : FnP K "shift" s_shift f fd) (k_DayRule : MakX P w K mg base 4 "DayRule" C (spInit C CD K)) : FnOk P w K mg base CX0 6 f fd P_shift (spShift C K) := by
  refine F.ok sc_shift (fun vs H Q E h => ?_) (fun cdv A outer s H vs Q E hr h => ?_)
  · obtain ⟨c, M, rfl, _⟩ := h
    rfl
  · obtain ⟨c, M, rfl, q⟩ := h
    refine ⟨_, PSs.nox (pss_one (ps_ret (pe_mkE k_DayRule (fun _ => passS0) hr (by decide) (by rfl) (pa_cons (pe_lst (pa_cons (pv 0) pa_nil)) pa_nil)))), ?_⟩
    walk_at "go"
    intro L nL
    generalize eH_ : upd H L _ = H1
    have s1 : Same H H1 := by rw [← eH_]; exact same_new nL
    have eL : H1 L = some (.lst (([c] : List Int).map V.int)) := by rw [← eH_]; exact upd_same
    clear eH_
    walk_at "go"
    intro r dz n1 n2 n3
    refine mk_rule (b := true) (F := fun d => d + c) n1 n2 n3 eL (by simp) ⟨by simp, fun d => (by show d + ((1 : Nat) : Int) + c = d + c + ((1 : Nat) : Int); omega), fun i hi => ?_⟩ (fun d => by show d + c ≤ d + 1 + c; omega) (fun d => by show d + (M : Int) + c = d + c + (M : Int); omega) (fun H4 s4 rF => q r H4 (s1.trans s4) rF)
    obtain rfl : i = 0 := by simpa using hi
    show c = 0 + c
    omega
/-! ### check_good -/
def spChkG (CD : Addr) (K : PySem.W.Frag) : Sp := fun vs H Q E => ∃ (b : Bool) (a : Addr) (good : List Int) (P : Nat), vs = [.int (P : Int), .ref a] ∧ SqK b K H a (good.map V.int) ∧ good.length ≤ 100000 ∧
  (GOk P good → ∀ H', Same H H' → Q .non H') ∧ (∀ i, GBad P good i → ∀ H' d, Same H H' → H' d = none → E (.ref CD) (some d) (upd H' d (.xd [("at", .int (i : Int))])))
theorem ok_check_good (F : FnP K "check_good" s_check_good f fd) (m_len : mg "len" = none) (m_enumerate : mg "enumerate" = none) (x_BadDays : Exn P w K mg base "BadDays" CD "at") : FnOk P w K mg base (L2N.CX P w) 3 f fd P_check_good (spChkG CD K) := by
  refine F.ok sc_check_good (fun vs H Q E h => ?_) (fun cdv A outer s H vs Q E hr h => ?_)
  · obtain ⟨b, a, good, P, rfl, _⟩ := h
    rfl
  · obtain ⟨b, a, good, M, rfl, hS, hl, q, qe⟩ := h
    have tk := takes_fn (P := P) (w := w) (K := K) (mg := mg) (base := base) (N := N_check_good) (qual := "check_good") (scope := defScope s_check_good) (f := f) (cd := cdv) (A := A) (outer := outer) (s := s) (H := H) (E := E)
    refine ⟨_, (pss_cons (ps_for (passes_of rfl) rfl (pi_enumM (by rfl) m_enumerate (pa_cons (pv 1) pa_nil)) (pg_tup rfl (pgs_cons (pg_name (i := 2) sc_check_good.nd rfl (by first | exact .inl rfl | exact .inr rfl)) (pgs_cons (pg_name (i := 3) sc_check_good.nd rfl (by first | exact .inl rfl | exact .inr rfl)) pgs_nil)))
        (pss_one (ps_if (pt_not (pt_chain op_le op_lt pe_int (pv 3) (pv 0))) (pss_one (ps_exn rfl tk x_BadDays hr (by decide) (by rfl) (pa_cons (pv 2) pa_nil))) pss_nil)))
      (pss_one (ps_if (pt_cmpR op_eq (pe_callB call_len_seq (by rfl) m_len PySem.boot_len (pa_cons (pv 1) pa_nil)) pe_int (nomark _)) (pss_one (ps_exn rfl tk x_BadDays hr (by decide) (by rfl) (pa_cons pe_int pa_nil))) pss_nil))), ?_⟩
    walk_at "go"
    refine ⟨b, a, _, rfl, hS, ?_⟩
    refine for_enum hS (fun k σ H1 => Same H H1 ∧ (∀ j, j < k → 0 ≤ good.getD j 0 ∧ good.getD j 0 < M) ∧ ∃ v2 v3 : Option V, σ = [some (.int (M : Int)), some (.ref a), v2, v3]) ⟨Same.refl _, fun j h => absurd h (by omega), none, none, rfl⟩ (fun k σ H1 p => p.1) ?_ ?_
    · rintro k v σ H1 H2 ev ⟨s1, ok, v2, v3, rfl⟩ s2
      obtain ⟨x, ex, rfl⟩ := of_map ev
      have gx : good.getD k 0 = x := by
        rw [List.getD_eq_getElem?_getD, ex]
        rfl
      have kl : k < good.length := (List.getElem?_eq_some_iff.mp ex).1
      walk_at "go"
      refine ite2 (fun e => ?_) (fun e => ?_)
      · have e := of_decide_eq_true e
        walk_at "go"
        refine ite2 (fun e2 => ?_) (fun e2 => ?_)
        · have e2 : ¬ x < M := by simpa using e2
          walk_at "go"
          exact mkx_of (fun d nd => qe k (.inr ⟨kl, by rw [gx]; exact fun z => e2 z.2, ok⟩) H2 d (s1.trans s2) nd)
        · have e2 : x < M := by simpa using e2
          refine ⟨s1.trans s2, fun j hj => ?_, _, _, rfl⟩
          by_cases c : j = k
          · rw [c, gx]
            exact ⟨e, e2⟩
          · exact ok j (by omega)
      · have e : ¬ 0 ≤ x := fun z => e (decide_eq_true z)
        walk_at "go"
        exact mkx_of (fun d nd => qe k (.inr ⟨kl, by rw [gx]; exact fun z => e z.1, ok⟩) H2 d (s1.trans s2) nd)
    · rintro σ H1 ⟨s1, ok, v2, v3, rfl⟩
      rw [List.length_map] at ok
      walk_at "go"
      refine ⟨a, _, rfl, (Z.Same.sqK s1 hS).or, ?_⟩
      rw [List.length_map]
      walk_at "go"
      refine ite2 (fun e => ?_) (fun e => ?_)
      · have e := V.int.inj (of_decide_eq_true e)
        have e : good = [] := List.length_eq_zero_iff.mp (by omega)
        walk_at "go"
        exact (mkx_of (fun d nd => qe 0 (.inl ⟨e, rfl⟩) H1 d s1 nd)).2
      · refine q ⟨fun z => e (decide_eq_true (by rw [z]; rfl)), fun x hx => ?_⟩ H1 s1
        obtain ⟨j, hj, ej⟩ := List.getElem_of_mem hx
        have := ok j hj
        rw [List.getD_eq_getElem?_getD, List.getElem?_eq_getElem hj, ej] at this
        exact this
/-! ### next_good, last_good -/
def spNextG (C CD : Addr) (K : PySem.W.Frag) : Sp := fun vs H Q E => ∃ (b : Bool) (a : Addr) (good : List Int) (P : Nat), vs = [.int (P : Int), .ref a] ∧ SqK b K H a (good.map V.int) ∧ good.length ≤ 100000 ∧ 0 < P ∧ P ≤ 30000 ∧
  (GOk P good → ∀ (r : Addr) H' (N : Int → Int), Same H H' → (∀ d, IsNx (Gof good P) d (N d)) → RuleF C K H' r P N → Q (.ref r) H') ∧ (∀ i, GBad P good i → ∀ H' d, Same H H' → H' d = none → E (.ref CD) (some d) (upd H' d (.xd [("at", .int (i : Int))])))
theorem ok_next_good (F : FnP K "next_good" s_next_good f fd) (m_range : mg "range" = none) (m_min : mg "min" = none) (c_check_good : CalX P w K mg base 3 "check_good" (spChkG CD K)) (k_DayRule : MakX P w K mg base 4 "DayRule" C (spInit C CD K)) : FnOk P w K mg base (L2N.CX P w) 6 f fd P_next_good (spNextG C CD K) := by
  refine F.ok sc_next_good (fun vs H Q E h => ?_) (fun cdv A outer s H vs Q E hr h => ?_)
  · obtain ⟨b, a, good, P, rfl, _⟩ := h
    rfl
  · obtain ⟨b, a, good, M, rfl, hS, hl, m0, m1, q, qe⟩ := h
    have tk := takes_fn (P := P) (w := w) (K := K) (mg := mg) (base := base) (N := N_next_good) (qual := "next_good") (scope := defScope s_next_good) (f := f) (cd := cdv) (A := A) (outer := outer) (s := s) (H := H) (E := E)
    refine ⟨_, (pss_cons (ps_expr (pe_clE c_check_good (fun σ => L2N.passAt tk σ) hr (by decide) (by rfl) (pa_cons (pv 0) (pa_cons (pv 1) pa_nil))))
      (pss_one (ps_ret (pe_mkE k_DayRule (fun σ => L2N.passAt tk σ) hr (by decide) (by rfl) (pa_cons (pe_lc (own := [("day", 3)]) (g := (gName 3)) (tt := tYes) (by rfl) sc_next_good.nd (pi_range1 (by rfl) m_range (pa_cons (pv 0) pa_nil)) (blkOk_by (own := [("day", 3)]) (N := N_next_good) (sc := defScope s_next_good) (by decide +kernel)) (fun _ _ _ _ _ => (pg_name (i := 3) sc_next_good.nd rfl (by first | exact .inl rfl | exact .inr rfl))) (fun _ _ _ _ _ => pts_nil) (fun _ _ _ _ _ => (pe_callB (cr_min_K (K := K) rfl rfl) (by rfl) m_min (by decide +kernel) (pa_cons (pe_lc (own := [("mark", 2)]) (g := (gName 2)) (tt := tYes) (by rfl) sc_next_good.nd (pi_sq_K (K := K) rfl (pv 1)) (blkOk_by (own := [("mark", 2)]) (N := N_next_good) (sc := relS _ (defScope s_next_good)) (by decide +kernel)) (fun _ _ _ _ _ => (pg_name (i := 2) sc_next_good.nd rfl (by first | exact .inl rfl | exact .inr rfl))) (fun _ _ _ _ _ => pts_nil) (fun _ _ _ _ _ => (pe_op op_add (pv 3) (pe_op op_mod (pe_op op_sub (pv 2) (pv 3)) (pv 0))))) pa_nil)))) pa_nil))))), ?_⟩
    walk_at "go"
    refine ⟨b, a, good, M, rfl, hS, hl, fun ok H1 s1 => ?_, fun i bad H1 d s1 nd => qe i bad H1 d s1 nd⟩
    have hS1 := Z.Same.sqK s1 hS
    obtain ⟨N, hN⟩ := nx_ex m0 ok.2 ok.1
    walk_at "go"
    intro D nD
    refine lc_rng (K := K) (n := M) (fun k => N (k : Int)) (by omega) nD (fun _ => rfl) ?_ ?_
    · intro k H2 Q1 hk s2 q1
      have hS2 := Z.Same.sqK s2 hS1
      refine rd_sq (b := b) (a := a) rfl hS2 ?_
      intro B nB
      refine lc_sq hS2 (fun x => (k : Int) + (x - k) % (M : Int)) (by omega) nB (fun _ => rfl) ?_ ?_
      · intro x H3 Q2 hx s3 q2
        walk_at "go"
        rw [show (k : Int) = 0 + (k : Int) by omega] at q2
        exact q2 _ (Same.refl _)
      intro H3 s3 eB
      walk_at "go"
      refine ⟨B, _, rfl, SqL.of eB, ?_, fun m hm hle => ?_⟩
      · rw [List.length_map]
        exact List.length_pos_iff.mpr ok.1
      have e := (nx_of m0 ok.2 hm hle).uniq (hN k)
      rw [e]
      exact q1 _ s3
    intro H2 s2 eD
    walk_at "go"
    intro r dz n1 n2 n3
    refine mk_rule (b := true) (M := M) n1 n2 n3 eD ?_ (of_range m0 (nx_per hN (gof_pdc good M))) (nx_mon hN) (nx_per hN (gof_pdc good M)) (fun H4 s4 rF => ?_)
    · rw [List.length_map, List.length_range]
      omega
    exact q ok r H4 N (s1.trans (s2.trans s4)) hN rF
def spLastG (C CD : Addr) (K : PySem.W.Frag) : Sp := fun vs H Q E => ∃ (b : Bool) (a : Addr) (good : List Int) (P : Nat), vs = [.int (P : Int), .ref a] ∧ SqK b K H a (good.map V.int) ∧ good.length ≤ 100000 ∧ 0 < P ∧ P ≤ 30000 ∧
  (GOk P good → ∀ (r : Addr) H' (N : Int → Int), Same H H' → (∀ d, IsLs (Gof good P) d (N d)) → RuleF C K H' r P N → Q (.ref r) H') ∧ (∀ i, GBad P good i → ∀ H' d, Same H H' → H' d = none → E (.ref CD) (some d) (upd H' d (.xd [("at", .int (i : Int))])))
theorem ok_last_good (F : FnP K "last_good" s_last_good f fd) (m_range : mg "range" = none) (m_max : mg "max" = none) (c_check_good : CalX P w K mg base 3 "check_good" (spChkG CD K)) (k_DayRule : MakX P w K mg base 4 "DayRule" C (spInit C CD K)) : FnOk P w K mg base (L2N.CX P w) 6 f fd P_last_good (spLastG C CD K) := by
  refine F.ok sc_last_good (fun vs H Q E h => ?_) (fun cdv A outer s H vs Q E hr h => ?_)
  · obtain ⟨b, a, good, P, rfl, _⟩ := h
    rfl
  · obtain ⟨b, a, good, M, rfl, hS, hl, m0, m1, q, qe⟩ := h
    have tk := takes_fn (P := P) (w := w) (K := K) (mg := mg) (base := base) (N := N_last_good) (qual := "last_good") (scope := defScope s_last_good) (f := f) (cd := cdv) (A := A) (outer := outer) (s := s) (H := H) (E := E)
    refine ⟨_, (pss_cons (ps_expr (pe_clE c_check_good (fun σ => L2N.passAt tk σ) hr (by decide) (by rfl) (pa_cons (pv 0) (pa_cons (pv 1) pa_nil))))
      (pss_one (ps_ret (pe_mkE k_DayRule (fun σ => L2N.passAt tk σ) hr (by decide) (by rfl) (pa_cons (pe_lc (own := [("day", 3)]) (g := (gName 3)) (tt := tYes) (by rfl) sc_last_good.nd (pi_range1 (by rfl) m_range (pa_cons (pv 0) pa_nil)) (blkOk_by (own := [("day", 3)]) (N := N_last_good) (sc := defScope s_last_good) (by decide +kernel)) (fun _ _ _ _ _ => (pg_name (i := 3) sc_last_good.nd rfl (by first | exact .inl rfl | exact .inr rfl))) (fun _ _ _ _ _ => pts_nil) (fun _ _ _ _ _ => (pe_callB (cr_max_K (K := K) rfl rfl) (by rfl) m_max (by decide +kernel) (pa_cons (pe_lc (own := [("mark", 2)]) (g := (gName 2)) (tt := tYes) (by rfl) sc_last_good.nd (pi_sq_K (K := K) rfl (pv 1)) (blkOk_by (own := [("mark", 2)]) (N := N_last_good) (sc := relS _ (defScope s_last_good)) (by decide +kernel)) (fun _ _ _ _ _ => (pg_name (i := 2) sc_last_good.nd rfl (by first | exact .inl rfl | exact .inr rfl))) (fun _ _ _ _ _ => pts_nil) (fun _ _ _ _ _ => (pe_op op_sub (pv 3) (pe_op op_mod (pe_op op_sub (pv 3) (pv 2)) (pv 0))))) pa_nil)))) pa_nil))))), ?_⟩
    walk_at "go"
    refine ⟨b, a, good, M, rfl, hS, hl, fun ok H1 s1 => ?_, fun i bad H1 d s1 nd => qe i bad H1 d s1 nd⟩
    have hS1 := Z.Same.sqK s1 hS
    obtain ⟨N, hN⟩ := ls_ex m0 ok.2 ok.1
    walk_at "go"
    intro D nD
    refine lc_rng (K := K) (n := M) (fun k => N (k : Int)) (by omega) nD (fun _ => rfl) ?_ ?_
    · intro k H2 Q1 hk s2 q1
      have hS2 := Z.Same.sqK s2 hS1
      refine rd_sq (b := b) (a := a) rfl hS2 ?_
      intro B nB
      refine lc_sq hS2 (fun x => (k : Int) - (k - x) % (M : Int)) (by omega) nB (fun _ => rfl) ?_ ?_
      · intro x H3 Q2 hx s3 q2
        walk_at "go"
        rw [show (k : Int) = 0 + (k : Int) by omega] at q2
        exact q2 _ (Same.refl _)
      intro H3 s3 eB
      walk_at "go"
      refine ⟨B, _, rfl, SqL.of eB, ?_, fun m hm hle => ?_⟩
      · rw [List.length_map]
        exact List.length_pos_iff.mpr ok.1
      have e := (ls_of m0 ok.2 hm hle).uniq (hN k)
      rw [e]
      exact q1 _ s3
    intro H2 s2 eD
    walk_at "go"
    intro r dz n1 n2 n3
    refine mk_rule (b := true) (M := M) n1 n2 n3 eD ?_ (of_range m0 (ls_per hN (gof_pdc good M))) (ls_mon hN) (ls_per hN (gof_pdc good M)) (fun H4 s4 rF => ?_)
    · rw [List.length_map, List.length_range]
      omega
    exact q ok r H4 N (s1.trans (s2.trans s4)) hN rF
/-! ### exceeds -/
theorem none_of {F G : Int → Int} {N : Nat} (h0 : 0 < N) (p : Per F (N : Int)) (q : Per G (N : Int)) (h : ∀ e : Nat, e < N → ¬ F e > G e) (d : Int) : ¬ F d > G d := by
  have h1 := Int.emod_nonneg d (show (N : Int) ≠ 0 by omega)
  have h2 := Int.emod_lt_of_pos d (show (0 : Int) < N by omega)
  have h3 := Int.emod_add_mul_ediv d (N : Int)
  have a := p.imul (d / (N : Int)) (d % (N : Int))
  have b := q.imul (d / (N : Int)) (d % (N : Int))
  rw [show d % (N : Int) + d / (N : Int) * N = d by rw [Int.mul_comm (d / _)]; exact h3] at a b
  have c := h (d % (N : Int)).toNat (by omega)
  rw [Int.toNat_of_nonneg h1] at c
  omega
def Bey (F G : Int → Int) (v : V) : Prop := (∃ d : Nat, v = .int (d : Int) ∧ F d > G d ∧ ∀ e : Nat, e < d → ¬ F e > G e) ∨ (v = .non ∧ ∀ d : Int, ¬ F d > G d)
theorem Bey.uniq {F G : Int → Int} {v u : V} (a : Bey F G v) (b : Bey F G u) : v = u := by
  rcases a with ⟨d, rfl, h1, h2⟩ | ⟨rfl, h⟩ <;> rcases b with ⟨e, rfl, k1, k2⟩ | ⟨rfl, k⟩
  · rcases Nat.lt_trichotomy d e with c | c | c
    · exact absurd h1 (k2 d c)
    · rw [c]
    · exact absurd k1 (h2 e c)
  · exact absurd h1 (k d)
  · exact absurd k1 (h e)
  · rfl
theorem Bey.congr {F G F' G' : Int → Int} {v : V} (a : Bey F G v) (h : ∀ d, F d > G d ↔ F' d > G' d) : Bey F' G' v := by
  rcases a with ⟨d, e, h1, h2⟩ | ⟨e, k⟩
  · exact .inl ⟨d, e, (h d).mp h1, fun x hx z => h2 x hx ((h x).mpr z)⟩
  · exact .inr ⟨e, fun d z => k d ((h d).mpr z)⟩
theorem Bey.kind {F G : Int → Int} {v : V} (a : Bey F G v) : v = .non ∨ ∃ i, v = .int i := by
  rcases a with ⟨d, e, _⟩ | ⟨e, _⟩
  · exact .inr ⟨_, e⟩
  · exact .inl e
def spExc (C : Addr) (K : PySem.W.Frag) : Sp := fun vs H Q _ => ∃ (n m : Addr) (M : Nat) (F G : Int → Int), vs = [.ref n, .ref m] ∧ RuleF C K H n M F ∧ RuleF C K H m M G ∧ 0 < M ∧ M ≤ 30000 ∧
  ∀ (v : V) H', Same H H' → Bey F G v → Q v H'
theorem ok_exceeds (F : FnM K "exceeds" "DayRule.exceeds" s_DayRule_exceeds f fd) (m_range : mg "range" = none) (cls : Cls K C) (n_days : NoAttr K C "days") (c_day_at : Cal P w K mg base 1 "day_at" (spDayAt K)) (c_common_period : Cal P w K mg base 2 "common_period" (spPer C K)) : FnOk P w K mg base CX0 3 f fd P_DayRule_exceeds (spExc C K) := by
  refine F.ok sc_DayRule_exceeds (fun vs H Q E h => ?_) (fun cdv A outer s H vs Q E hr h => ?_)
  · obtain ⟨n, m, M, F, G, rfl, _⟩ := h
    rfl
  · obtain ⟨n, m, M, F, G, rfl, hF, hG, m0, m1, q⟩ := h
    refine ⟨_, PSs.nox (pss_cons (ps_for PassesOwn.never rfl (pi_range1 (by rfl) m_range (pa_cons (pe_cl c_common_period hr (by decide) (by rfl) (pa_cons (pe_lst (pa_cons (pv 0) (pa_cons (pv 1) pa_nil))) pa_nil)) pa_nil)) (pg_name (i := 2) sc_DayRule_exceeds.nd rfl (by first | exact .inl rfl | exact .inr rfl))
        (pss_one (ps_if (pt_cmpR op_gt (pe_cl c_day_at hr (by decide) (by rfl) (pa_cons (pe_fld (pv 0) rfl) (pa_cons (pv 2) pa_nil))) (pe_cl c_day_at hr (by decide) (by rfl) (pa_cons (pe_fld (pv 1) rfl) (pa_cons (pv 2) pa_nil))) (nomark _)) (pss_one (ps_ret (pv 2))) pss_nil)))
      (pss_one (ps_ret pe_non))), ?_⟩
    obtain ⟨⟨ds, rN, oF, lF⟩, pF, moF⟩ := hF
    obtain ⟨⟨es, rM, oG, lG⟩, pG, moG⟩ := hG
    have lds := lp_le lF m0 pF
    have les := lp_le lG m0 pG
    obtain ⟨k0, k1, pF2, pG2⟩ := lcm_le lF lG m0 pF pG
    walk_at "go"
    intro l nl
    generalize eH_ : upd H l _ = H1
    have s1 : Same H H1 := by rw [← eH_]; exact same_new nl
    have el : H1 l = some (.lst [.ref n, .ref m]) := by rw [← eH_]; exact upd_same
    clear eH_
    have rN1 := rN.mono s1
    have rM1 := rM.mono s1
    walk_at "go"
    refine ⟨l, n, m, ds, es, rfl, el, rN1, rM1, oF.pos, oG.pos, by omega, by omega, fun H2 s2 => ?_⟩
    generalize Nat.lcm ds.length es.length = N at k0 k1 pF2 pG2 ⊢
    obtain ⟨dx, t, a1, a2⟩ := rN1.mono s2
    obtain ⟨dy, u, b1, b2⟩ := rM1.mono s2
    have s12 := s1.trans s2
    walk_at "go"
    refine for_gen (n := N) (fun i σ H3 => H3 = H2 ∧ (∀ e : Nat, e < i → ¬ F e > G e) ∧ ∃ v2 : Option V, σ = [some (.ref n), some (.ref m), v2]) ⟨rfl, fun e h => absurd h (by omega), none, rfl⟩ ?_ ?_ ?_ ?_
    · intro i σ H3 hi _
      show i < (N : Int).toNat
      omega
    · intro σ H3 _
      show (N : Int).toNat ≤ N
      omega
    · rintro i σ H3 x H4 hi ⟨rfl, no, v2, rfl⟩ ⟨rfl, rfl⟩
      walk_at "go"
      refine ⟨false, t, ds, _, rfl, SqT.of a2, oF.pos, by omega, ?_⟩
      walk_at "go"
      refine ⟨false, u, es, _, rfl, SqT.of b2, oG.pos, by omega, ?_⟩
      rw [oF.dv, oG.dv]
      walk_at "go"
      rw [show 0 + (i : Int) = (i : Int) by omega]
      refine ite2 (fun e => ?_) (fun e => ?_)
      · walk_at "go"
        exact q _ _ s12 (.inl ⟨i, rfl, of_decide_eq_true e, no⟩)
      · refine ⟨rfl, fun e' he => ?_, _, rfl⟩
        by_cases c : e' = i
        · subst c
          exact fun z => e (decide_eq_true z)
        · exact no e' (by omega)
    · rintro σ H3 ⟨rfl, no, v2, rfl⟩
      walk_at "go"
      exact q _ _ s12 (.inr ⟨rfl, none_of k0 pF2 pG2 no⟩)
end
end Z
set_option pp.maxSteps 700
set_option Elab.async false
set_option linter.all false
set_option maxRecDepth 100000
set_option maxHeartbeats 4000000
namespace Z
open Dy
open PySem PySem.Spec PyProof.Rows L2
open C8 (pss_cut tCut)
local macro_rules | `(tactic| walk_at "num") => `(tactic| first | rfl | omega | decide | exact Nat.le_of_lt (small1000 (by simp)) | exact ⟨by omega, by omega⟩ | exact ⟨by omega, by omega, by omega⟩ | exact ⟨by decide, by decide, by decide⟩ | exact Or.inl ⟨by omega, by omega⟩ | exact Or.inr ⟨by omega, by omega⟩)
local macro_rules | `(tactic| walk_at "go") => `(tactic| repeat (first | refine ⟨_, rfl, ?_⟩ | refine ⟨_, _, rfl, rfl, ?_⟩ | refine ⟨_, _, rfl, ?_⟩ | (refine ⟨_, _, rfl, rfl, ?_, ?_⟩; focus walk_at "num") | refine Or.inl ⟨_, rfl, ?_⟩ | refine ⟨_, _, _, _, rfl, rfl, (by assumption), (by rfl), ?_⟩ | refine ⟨_, _, _, _, _, rfl, (by assumption), (by assumption), (by assumption), (by rfl), ?_⟩ | refine ⟨rfl, ?_⟩ | (refine And.intro ?_ ?_; focus walk_at "num")))
abbrev s_good : Stmt := topS 27
abbrev N_good : List Str := ["_law_draws_here", "_law_period", "_law_start", "_law_step", "_law_found", "_law_k", "_law_day", "_law_keep"]
abbrev P_good : List Str := ["_law_draws_here", "_law_period"]
theorem sc_good : FnScope N_good P_good (defScope s_good) := ⟨rfl, rfl, rfl, by decide +kernel, rfl, by decide +kernel, by decide +kernel⟩
abbrev s_next : Stmt := topS 28
abbrev N_next : List Str := ["_law_flags", "_law_day", "_law_step"]
abbrev P_next : List Str := ["_law_flags", "_law_day"]
theorem sc_next : FnScope N_next P_next (defScope s_next) := ⟨rfl, rfl, rfl, by decide +kernel, rfl, by decide +kernel, by decide +kernel⟩
abbrev s_last : Stmt := topS 29
abbrev N_last : List Str := ["_law_flags", "_law_day", "_law_step"]
abbrev P_last : List Str := ["_law_flags", "_law_day"]
theorem sc_last : FnScope N_last P_last (defScope s_last) := ⟨rfl, rfl, rfl, by decide +kernel, rfl, by decide +kernel, by decide +kernel⟩
abbrev s_counted : Stmt := topS 30
abbrev N_counted : List Str := ["_law_flags", "_law_many", "_law_day", "_law_count", "_law_k"]
abbrev P_counted : List Str := ["_law_flags", "_law_many", "_law_day", "_law_count"]
theorem sc_counted : FnScope N_counted P_counted (defScope s_counted) := ⟨rfl, rfl, rfl, by decide +kernel, rfl, by decide +kernel, by decide +kernel⟩
abbrev s_counted_back : Stmt := topS 31
abbrev N_counted_back : List Str := ["_law_flags", "_law_many", "_law_day", "_law_count", "_law_k"]
abbrev P_counted_back : List Str := ["_law_flags", "_law_many", "_law_day", "_law_count"]
theorem sc_counted_back : FnScope N_counted_back P_counted_back (defScope s_counted_back) := ⟨rfl, rfl, rfl, by decide +kernel, rfl, by decide +kernel, by decide +kernel⟩
theorem flat_ints (xs : List Int) : (xs.map V.int).all flatV = true := by
  rw [List.all_map]
  exact List.all_eq_true.mpr fun x _ => rfl
theorem in_ints (x : Int) (xs : List Int) : inV (.int x) (xs.map V.int) = decide (x ∈ xs) := by
  unfold inV
  rw [List.any_map, Bool.eq_iff_iff, decide_eq_true_iff, List.any_eq_true]
  constructor
  · rintro ⟨y, hy, e⟩
    have e : (y == x) = true := e
    rw [beq_iff_eq] at e
    exact e ▸ hy
  · intro h
    exact ⟨x, h, show (x == x) = true by rw [beq_iff_eq]⟩
theorem nodup_snoc {xs : List Int} {y : Int} (h : xs.Nodup) (n : y ∉ xs) : (xs ++ [y]).Nodup := List.nodup_append.mpr ⟨h, by simp, fun a ha b hb e => n (by rw [List.mem_singleton.mp hb] at e; exact e ▸ ha)⟩
def flags (good : List Int) (P : Nat) : List Bool := (List.range P).map fun (i : Nat) => decide ((i : Int) ∈ good)
theorem flags_len (good : List Int) (P : Nat) : (flags good P).length = P := by
  unfold flags
  rw [List.length_map, List.length_range]
theorem flags_at {good : List Int} {P : Nat} {d : Int} (hP : 0 < P) : atI ((flags good P).map V.bl) (d % (P : Int)) = some (.bl (decide (d % (P : Int) ∈ good))) := by
  have h1 := Int.emod_nonneg d (show (P : Int) ≠ 0 by omega)
  have h2 := Int.emod_lt_of_pos d (show (0 : Int) < P by omega)
  refine at_of (j := (d % (P : Int)).toNat) (by omega) ?_
  unfold flags
  rw [List.getElem?_map, List.getElem?_map, List.getElem?_range (by omega)]
  show some (V.bl (decide (((d % (P : Int)).toNat : Int) ∈ good))) = _
  rw [Int.toNat_of_nonneg h1]
theorem near_nx {good : List Int} {P : Nat} (hP : 0 < P) (ok : GOk P good) (d : Int) : ∃ j : Nat, j < P ∧ Gof good P (d + j) := by
  obtain ⟨k, r, rfl⟩ := List.exists_cons_of_ne_nil ok.1
  obtain ⟨k0, k1⟩ := ok.2 k (by simp)
  have h1 := Int.emod_nonneg (k - d) (show (P : Int) ≠ 0 by omega)
  have h2 := Int.emod_lt_of_pos (k - d) (show (0 : Int) < P by omega)
  refine ⟨((k - d) % (P : Int)).toNat, by omega, ?_⟩
  rw [Int.toNat_of_nonneg h1]
  unfold Gof
  rw [(mod_of hP k0 k1).1]
  simp
theorem near_ls {good : List Int} {P : Nat} (hP : 0 < P) (ok : GOk P good) (d : Int) : ∃ j : Nat, j < P ∧ Gof good P (d - j) := by
  obtain ⟨k, r, rfl⟩ := List.exists_cons_of_ne_nil ok.1
  obtain ⟨k0, k1⟩ := ok.2 k (by simp)
  have h1 := Int.emod_nonneg (d - k) (show (P : Int) ≠ 0 by omega)
  have h2 := Int.emod_lt_of_pos (d - k) (show (0 : Int) < P by omega)
  refine ⟨((d - k) % (P : Int)).toNat, by omega, ?_⟩
  rw [Int.toNat_of_nonneg h1]
  unfold Gof
  rw [(mod_of hP k0 k1).2]
  simp
theorem it_turns {p : Int → Prop} {many : Nat} {G : Int → Int} {s : Int} (hG : ∀ g, p g → it G many g = g + s) (hs : Pdc p s) {g : Int} (hg : p g) : ∀ q : Nat, it G (q * many) g = g + q * s ∧ p (g + q * s)
  | 0 => by
    rw [Nat.zero_mul]
    exact ⟨by show g = _; simp, by simpa using hg⟩
  | q + 1 => by
    obtain ⟨h1, h2⟩ := it_turns hG hs hg q
    have e : g + ((q + 1 : Nat) : Int) * s = g + q * s + s := by
      rw [Int.natCast_add, Int.add_mul]
      simp [Int.add_assoc]
    rw [Nat.add_mul, Nat.one_mul, it_add, h1, e]
    exact ⟨hG _ h2, (hs _).mpr h2⟩
theorem it_count {p : Int → Prop} {many c : Nat} {G : Int → Int} {s d : Int} (hG : ∀ g, p g → it G many g = g + s) (hs : Pdc p s) (hp : p (G d)) (hc : 0 < c) : it G c d = it G ((c - 1) % many) (G d + s * ((c - 1) / many : Nat)) := by
  obtain ⟨k, rfl⟩ : ∃ k, c = k + 1 := ⟨c - 1, by omega⟩
  rw [it_succ, show k + 1 - 1 = k by omega]
  have h := (it_turns hG hs hp (k / many)).1
  have e : k = k / many * many + k % many := by
    have := Nat.div_add_mod k many
    rw [Nat.mul_comm] at this
    omega
  conv => lhs; rw [e]
  rw [it_add, h, Int.mul_comm s]
section
variable {P : Program} {w : World} {K : PySem.W.Frag} {mg : Str → Option Value} {base : Heap} {f C CD CC CH : Addr} {fd : FuncData}
/-! ### _law_good -/
def spGood (K : PySem.W.Frag) : Sp := fun vs H Q _ => ∃ (a : Addr) (n P : Nat) (ds : List Int), vs = [.ref a, .int (P : Int)] ∧ H a = some (.lst (ds.map V.int)) ∧ Dr n ds ∧ 0 < P ∧ P ≤ 400 ∧
  ∀ (L : Addr) H' (good : List Int), Same H H' → H L = none → H' L = some (.lst (good.map V.int)) → GOk P good → good.Nodup → good.length ≤ 400 → Q (.ref L) H'
theorem ok_good (F : FnP K "_law_good" s_good f fd) (m_int : mg "int" = none) (m_range : mg "range" = none) (m_len : mg "len" = none) (c_take : Cal P w K mg base 1 "_law_take" (spTake K)) : FnOk P w K mg base CX0 2 f fd P_good (spGood K) := by
  refine F.ok sc_good (fun vs H Q E h => ?_) (fun cdv A outer s H vs Q E hr h => ?_)
  · obtain ⟨a, n, M, ds, rfl, _⟩ := h
    rfl
  · obtain ⟨a, n, M, ds, rfl, eA, hd, m0, m1, q⟩ := h
    refine ⟨_, PSs.nox (pss_cons (ps_set (i := 2) sc_good.nd rfl (by first | exact .inl rfl | exact .inr rfl) (pe_op op_mod (pe_callTy call_int1 (by rfl) m_int (by decide +kernel) (pa_cons (pe_cl c_take hr (by decide) (by rfl) (pa_cons (pv 0) (pa_cons (pe_lst (pa_cons pe_int pa_nil)) pa_nil))) pa_nil)) (pv 1)))
      (pss_cons (ps_set (i := 3) sc_good.nd rfl (by first | exact .inl rfl | exact .inr rfl) (pe_op op_add pe_int (pe_op op_mod (pe_callTy call_int1 (by rfl) m_int (by decide +kernel) (pa_cons (pe_cl c_take hr (by decide) (by rfl) (pa_cons (pv 0) (pa_cons (pe_lst (pa_cons pe_int pa_nil)) pa_nil))) pa_nil)) pe_int)))
      (pss_cons (ps_set (i := 4) sc_good.nd rfl (by first | exact .inl rfl | exact .inr rfl) (pe_lst pa_nil))
      (pss_cons (ps_for PassesOwn.never rfl (pi_range1 (by rfl) m_range (pa_cons (pv 1) pa_nil)) (pg_name (i := 5) sc_good.nd rfl (by first | exact .inl rfl | exact .inr rfl))
        (pss_cons (ps_set (i := 6) sc_good.nd rfl (by first | exact .inl rfl | exact .inr rfl) (pe_op op_mod (pe_callTy call_int1 (by rfl) m_int (by decide +kernel) (pa_cons (pe_op op_add (pv 2) (pe_op op_mul (pv 5) (pv 3))) pa_nil)) (pv 1)))
      (pss_cons (ps_set (i := 7) sc_good.nd rfl (by first | exact .inl rfl | exact .inr rfl) (pe_op op_mod (pe_callTy call_int1 (by rfl) m_int (by decide +kernel) (pa_cons (pe_cl c_take hr (by decide) (by rfl) (pa_cons (pv 0) (pa_cons (pe_lst (pa_cons (pe_op op_add pe_int (pe_op op_mod (pe_callTy call_int1 (by rfl) m_int (by decide +kernel) (pa_cons (pv 5) pa_nil)) pe_int)) pa_nil)) pa_nil))) pa_nil)) pe_int))
      (pss_one (ps_if (PW.pt (pw_and (pt_cmpR op_notIn_seq (pv 6) (pv 4) (by rfl)) (pw_and1 (PW.pt (pw_or (pt_cmpR op_lt (pv 7) pe_int (nomark _)) (pw_or1 (pt_cmpR op_eq (pe_callB call_len_seq (by rfl) m_len PySem.boot_len (pa_cons (pv 4) pa_nil)) pe_int (nomark _)))))))) (pss_one (ps_expr (pe_bm PySem.F.plainAttrs_list PySem.F.slot_list_append PySem.F.type_list_append mt_append (pv 4) (pa_cons (pv 6) pa_nil)))) pss_nil)))))
      (pss_one (ps_ret (pv 4))))))), ?_⟩
    walk_at "go"
    intro p np
    walk_at "go"
    refine ⟨a, p, n, 0, ds, rfl, SqL.of (same_new np _ _ eA), hd, upd_same, ne_of_none eA np, fun r r0 r1 => ?_⟩
    have s1 : Same H (upd (upd H p (.lst [.int 0])) p (.lst [.int ((0 + 1 : Nat) : Int)])) := Z.Same.mut (same_new np) np
    generalize upd (upd H p (.lst [.int 0])) p (.lst [.int ((0 + 1 : Nat) : Int)]) = H1 at s1 ⊢
    have eA1 := s1 _ _ eA
    walk_at "go"
    have a0 := Int.emod_nonneg r (show (M : Int) ≠ 0 by omega)
    have a1 := Int.emod_lt_of_pos r (show (0 : Int) < M by omega)
    generalize eS : (fun i j : Int => V.int (i % j)) r (M : Int) = vS
    obtain rfl : vS = V.int (r % (M : Int)) := eS.symm
    generalize r % (M : Int) = st at a0 a1
    clear eS
    intro p2 np2
    walk_at "go"
    refine ⟨a, p2, n, 1, ds, rfl, SqL.of (same_new np2 _ _ eA1), hd, upd_same, ne_of_none eA1 np2, fun r' r0' r1' => ?_⟩
    have s2 : Same H1 (upd (upd H1 p2 (.lst [.int 1])) p2 (.lst [.int ((1 + 1 : Nat) : Int)])) := Z.Same.mut (same_new np2) np2
    generalize upd (upd H1 p2 (.lst [.int 1])) p2 (.lst [.int ((1 + 1 : Nat) : Int)]) = H2 at s2 ⊢
    have s12 := s1.trans s2
    walk_at "go"
    have b0 : 1 ≤ 1 + r' % 9 ∧ 1 + r' % 9 ≤ 9 := by omega
    generalize eS : (fun i j : Int => V.int (i + j)) 1 (r' % 9) = vS
    obtain rfl : vS = V.int (1 + r' % 9) := eS.symm
    generalize 1 + r' % 9 = stp at b0
    clear eS
    intro L nL
    generalize eH_ : upd H2 L _ = H3
    have s3 : Same H2 H3 := by rw [← eH_]; exact same_new nL
    have eL : H3 L = some (.lst (([] : List Int).map V.int)) := by rw [← eH_]; exact upd_same
    clear eH_
    have nHL : H L = none := by
      cases e : H L with
      | none => rfl
      | some o =>
        have := s12 L o e
        rw [nL] at this
        cases this
    have s13 := s12.trans s3
    walk_at "go"
    refine for_gen (n := M) (fun i σ H4 => Same H H4 ∧ ∃ (good : List Int) (v5 v6 v7 : Option V), H4 L = some (.lst (good.map V.int)) ∧ good.Nodup ∧ (∀ x ∈ good, 0 ≤ x ∧ x < M) ∧ (0 < i → good ≠ []) ∧ good.length ≤ i ∧ σ = [some (.ref a), some (.int (M : Int)), some (.int st), some (.int stp), some (.ref L), v5, v6, v7]) ⟨s13, [], none, none, none, eL, List.nodup_nil, fun x h => by simp at h, fun h => absurd h (by omega), Nat.le_refl _, rfl⟩ ?_ ?_ ?_ ?_
    · intro i σ H3 hi _
      show i < (M : Int).toNat
      omega
    · intro σ H3 _
      show (M : Int).toNat ≤ M
      omega
    · rintro i σ H4 x H5 hi ⟨s4, good, v5, v6, v7, eG, nd, rg, ne, lg, rfl⟩ ⟨rfl, rfl⟩
      have a2 := Int.emod_nonneg (st + (0 + (i : Int)) * stp) (show (M : Int) ≠ 0 by omega)
      have a3 := Int.emod_lt_of_pos (st + (0 + (i : Int)) * stp) (show (0 : Int) < M by omega)
      have eA5 := s4 _ _ eA
      walk_at "go"
      generalize eS : (fun i j : Int => V.int (i + j)) 2 ((0 + (i : Int)) % 50) = vS
      obtain ⟨m, rfl⟩ : ∃ m : Nat, vS = V.int (m : Int) := ⟨(2 + (0 + (i : Int)) % 50).toNat, by rw [← eS, Int.toNat_of_nonneg (by omega)]⟩
      clear eS
      intro p3 np3
      walk_at "go"
      refine ⟨a, p3, n, m, ds, rfl, SqL.of (same_new np3 _ _ eA5), hd, upd_same, ne_of_none eA5 np3, fun r2 r20 r21 => ?_⟩
      have s6 : Same H5 (upd (upd H5 p3 (.lst [.int (m : Int)])) p3 (.lst [.int ((m + 1 : Nat) : Int)])) := Z.Same.mut (same_new np3) np3
      generalize upd (upd H5 p3 (.lst [.int (m : Int)])) p3 (.lst [.int ((m + 1 : Nat) : Int)]) = H6 at s6 ⊢
      have eG6 := s6 _ _ eG
      have s46 := s4.trans s6
      walk_at "go"
      refine ⟨L, _, rfl, .inl (SqL.of eG6), rfl, flat_ints _, ?_⟩
      generalize eY : (fun i j : Int => V.int (i % j)) (st + (0 + (i : Int)) * stp) (M : Int) = vY
      obtain rfl : vY = V.int ((st + (0 + (i : Int)) * stp) % (M : Int)) := eY.symm
      clear eY
      generalize (st + (0 + (i : Int)) * stp) % (M : Int) = y at a2 a3
      refine ⟨!(decide (y ∈ good)), by rw [← in_ints]; rfl, ?_⟩
      by_cases c : y ∈ good
      · rw [decide_eq_true c]
        refine ite2 (fun e => by cases e) (fun _ => ?_)
        exact ⟨s46, good, _, _, _, eG6, nd, rg, fun _ => List.ne_nil_of_mem c, by omega, rfl⟩
      · rw [decide_eq_false c]
        refine ite2 (fun _ => ?_) (fun e => absurd rfl e)
        dsimp only [List.set]
        walk_at "go"
        refine ite2 (fun e => ?_) (fun e => ?_)
        · walk_at "go"
          refine ⟨.inl ⟨rfl, _, .inl (.inl eG6)⟩, ?_⟩
          walk_at "go"
          refine ⟨_, _, _, rfl, rfl, eG6, ?_, ?_⟩
          · rw [List.length_map]
            exact Nat.lt_of_lt_of_le (show good.length < 1000 by omega) (by decide)
          · refine ⟨Z.Same.mut s46 nHL, good ++ [y], _, _, _, ?_, nodup_snoc nd c, ?_, fun _ => by simp, ?_, rfl⟩
            · rw [upd_same, List.map_append]
              rfl
            · intro z hz
              rcases List.mem_append.mp hz with w | w
              · exact rg z w
              · have := List.mem_singleton.mp w
                omega
            · rw [List.length_append]
              show good.length + 1 ≤ i + 1
              omega
        · walk_at "go"
          refine ⟨L, _, rfl, .inl (SqL.of eG6), ?_⟩
          rw [List.length_map]
          walk_at "go"
          refine ite2 (fun e => ?_) (fun e => ?_)
          · walk_at "go"
            refine ⟨.inl ⟨rfl, _, .inl (.inl eG6)⟩, ?_⟩
            walk_at "go"
            refine ⟨_, _, _, rfl, rfl, eG6, ?_, ?_⟩
            · rw [List.length_map]
              exact Nat.lt_of_lt_of_le (show good.length < 1000 by omega) (by decide)
            · refine ⟨Z.Same.mut s46 nHL, good ++ [y], _, _, _, ?_, nodup_snoc nd c, ?_, fun _ => by simp, ?_, rfl⟩
              · rw [upd_same, List.map_append]
                rfl
              · intro z hz
                rcases List.mem_append.mp hz with w | w
                · exact rg z w
                · have := List.mem_singleton.mp w
                  omega
              · rw [List.length_append]
                show good.length + 1 ≤ i + 1
                omega
          · refine ⟨s46, good, _, _, _, eG6, nd, rg, fun _ z => e (decide_eq_true (by rw [z]; rfl)), by omega, rfl⟩
    · rintro σ H4 ⟨s4, good, v5, v6, v7, eG, nd, rg, ne, lg, rfl⟩
      walk_at "go"
      exact q L H4 good s4 nHL eG ⟨ne m0, rg⟩ nd (by omega)
/-! ### _law_next, _law_last -/
def spNextL (K : PySem.W.Frag) : Sp := fun vs H Q _ => ∃ (a : Addr) (good : List Int) (P : Nat) (d : Int), vs = [.ref a, .int d] ∧ SqL K H a ((flags good P).map V.bl) ∧ 0 < P ∧ P ≤ 400 ∧ GOk P good ∧ ∀ n, IsNx (Gof good P) d n → Q (.int n) H
theorem ok_next (F : FnP K "_law_next" s_next f fd) (m_int : mg "int" = none) (m_range : mg "range" = none) (m_len : mg "len" = none) : FnOk P w K mg base CX0 1 f fd P_next (spNextL K) := by
  refine F.ok sc_next (fun vs H Q E h => ?_) (fun cdv A outer s H vs Q E hr h => ?_)
  · obtain ⟨a, good, P, d, rfl, _⟩ := h
    rfl
  · obtain ⟨a, good, M, d, rfl, hS, m0, m1, ok, q⟩ := h
    refine ⟨_, PSs.nox (pss_cons (ps_for PassesOwn.never rfl (pi_range1 (by rfl) m_range (pa_cons (pe_callB call_len_seq (by rfl) m_len PySem.boot_len (pa_cons (pv 0) pa_nil)) pa_nil)) (pg_name (i := 2) sc_next.nd rfl (by first | exact .inl rfl | exact .inr rfl))
        (pss_one (ps_if (pt_val (pe_ix ix_list (pv 0) (pe_op op_mod (pe_callTy call_int1 (by rfl) m_int (by decide +kernel) (pa_cons (pe_op op_add (pv 1) (pv 2)) pa_nil)) (pe_callB call_len_seq (by rfl) m_len PySem.boot_len (pa_cons (pv 0) pa_nil))) (fun _ _ => rfl))) (pss_one (ps_ret (pe_op op_add (pv 1) (pv 2)))) pss_nil)))
      (pss_one (ps_ret (pv 1)))), ?_⟩
    walk_at "go"
    refine ⟨a, _, rfl, .inl hS, ?_⟩
    rw [List.length_map, flags_len]
    walk_at "go"
    refine for_gen (n := M) (fun i σ H1 => H1 = H ∧ (∀ j : Nat, j < i → ¬ Gof good M (d + j)) ∧ ∃ v2 : Option V, σ = [some (.ref a), some (.int d), v2]) ⟨rfl, fun e h => absurd h (by omega), none, rfl⟩ ?_ ?_ ?_ ?_
    · intro i σ H3 hi _
      show i < (M : Int).toNat
      omega
    · intro σ H3 _
      show (M : Int).toNat ≤ M
      omega
    · rintro i σ H3 x H4 hi ⟨rfl, no, v2, rfl⟩ ⟨rfl, rfl⟩
      walk_at "go"
      refine ⟨a, _, rfl, .inl hS, ?_⟩
      rw [List.length_map, flags_len]
      walk_at "go"
      refine ⟨a, _, _, _, rfl, rfl, hS, flags_at m0, ?_⟩
      walk_at "go"
      rw [show 0 + (i : Int) = (i : Int) by omega]
      refine ite2 (fun e => ?_) (fun e => ?_)
      · have e : (d + i) % (M : Int) ∈ good := of_decide_eq_true e
        walk_at "go"
        refine q _ ⟨by omega, e, fun y h1 h2 => ?_⟩
        obtain ⟨j, hj⟩ := Int.eq_ofNat_of_zero_le (show 0 ≤ y - d by omega)
        have e2 : y = d + j := by omega
        apply Decidable.byContradiction
        intro z
        exact no j (by omega) (e2 ▸ h2)
      · refine ⟨rfl, fun e' he => ?_, _, rfl⟩
        by_cases c : e' = i
        · subst c
          exact fun z => e (decide_eq_true (p := (d + e') % (M : Int) ∈ good) z)
        · exact no e' (by omega)
    · rintro σ H3 ⟨rfl, no, v2, rfl⟩
      obtain ⟨j, hj, hg⟩ := near_nx m0 ok d
      exact absurd hg (no j hj)
def spLastL (K : PySem.W.Frag) : Sp := fun vs H Q _ => ∃ (a : Addr) (good : List Int) (P : Nat) (d : Int), vs = [.ref a, .int d] ∧ SqL K H a ((flags good P).map V.bl) ∧ 0 < P ∧ P ≤ 400 ∧ GOk P good ∧ ∀ n, IsLs (Gof good P) d n → Q (.int n) H
theorem ok_last (F : FnP K "_law_last" s_last f fd) (m_int : mg "int" = none) (m_range : mg "range" = none) (m_len : mg "len" = none) : FnOk P w K mg base CX0 1 f fd P_last (spLastL K) := by
  refine F.ok sc_last (fun vs H Q E h => ?_) (fun cdv A outer s H vs Q E hr h => ?_)
  · obtain ⟨a, good, P, d, rfl, _⟩ := h
    rfl
  · obtain ⟨a, good, M, d, rfl, hS, m0, m1, ok, q⟩ := h
    refine ⟨_, PSs.nox (pss_cons (ps_for PassesOwn.never rfl (pi_range1 (by rfl) m_range (pa_cons (pe_callB call_len_seq (by rfl) m_len PySem.boot_len (pa_cons (pv 0) pa_nil)) pa_nil)) (pg_name (i := 2) sc_last.nd rfl (by first | exact .inl rfl | exact .inr rfl))
        (pss_one (ps_if (pt_val (pe_ix ix_list (pv 0) (pe_op op_mod (pe_callTy call_int1 (by rfl) m_int (by decide +kernel) (pa_cons (pe_op op_sub (pv 1) (pv 2)) pa_nil)) (pe_callB call_len_seq (by rfl) m_len PySem.boot_len (pa_cons (pv 0) pa_nil))) (fun _ _ => rfl))) (pss_one (ps_ret (pe_op op_sub (pv 1) (pv 2)))) pss_nil)))
      (pss_one (ps_ret (pv 1)))), ?_⟩
    walk_at "go"
    refine ⟨a, _, rfl, .inl hS, ?_⟩
    rw [List.length_map, flags_len]
    walk_at "go"
    refine for_gen (n := M) (fun i σ H1 => H1 = H ∧ (∀ j : Nat, j < i → ¬ Gof good M (d - j)) ∧ ∃ v2 : Option V, σ = [some (.ref a), some (.int d), v2]) ⟨rfl, fun e h => absurd h (by omega), none, rfl⟩ ?_ ?_ ?_ ?_
    · intro i σ H3 hi _
      show i < (M : Int).toNat
      omega
    · intro σ H3 _
      show (M : Int).toNat ≤ M
      omega
    · rintro i σ H3 x H4 hi ⟨rfl, no, v2, rfl⟩ ⟨rfl, rfl⟩
      walk_at "go"
      refine ⟨a, _, rfl, .inl hS, ?_⟩
      rw [List.length_map, flags_len]
      walk_at "go"
      refine ⟨a, _, _, _, rfl, rfl, hS, flags_at m0, ?_⟩
      walk_at "go"
      rw [show 0 + (i : Int) = (i : Int) by omega]
      refine ite2 (fun e => ?_) (fun e => ?_)
      · have e : (d - i) % (M : Int) ∈ good := of_decide_eq_true e
        walk_at "go"
        refine q _ ⟨by omega, e, fun y h1 h2 => ?_⟩
        obtain ⟨j, hj⟩ := Int.eq_ofNat_of_zero_le (show 0 ≤ d - y by omega)
        have e2 : y = d - j := by omega
        apply Decidable.byContradiction
        intro z
        exact no j (by omega) (e2 ▸ h2)
      · refine ⟨rfl, fun e' he => ?_, _, rfl⟩
        by_cases c : e' = i
        · subst c
          exact fun z => e (decide_eq_true (p := (d - e') % (M : Int) ∈ good) z)
        · exact no e' (by omega)
    · rintro σ H3 ⟨rfl, no, v2, rfl⟩
      obtain ⟨j, hj, hg⟩ := near_ls m0 ok d
      exact absurd hg (no j hj)
/-! ### counted -/
def spCcounted (K : PySem.W.Frag) : Sp := fun vs H Q _ => ∃ (a : Addr) (good : List Int) (P c : Nat) (d : Int) (N : Int → Int), vs = [.ref a, .int (good.length : Int), .int d, .int (c : Int)] ∧ SqL K H a ((flags good P).map V.bl) ∧ 0 < P ∧ P ≤ 400 ∧ GOk P good ∧ good.Nodup ∧ good.length ≤ 400 ∧ (∀ d, IsNx (Gof good P) d (N d)) ∧ Q (.int (it (fun d => N (d + 1)) c d)) H
theorem ok_counted (F : FnP K "_law_counted" s_counted f fd) (m_int : mg "int" = none) (m_range : mg "range" = none) (m_len : mg "len" = none) (c_next : Cal P w K mg base 1 "_law_next" (spNextL K)) : FnOk P w K mg base CX0 2 f fd P_counted (spCcounted K) := by
  refine F.ok sc_counted (fun vs H Q E h => ?_) (fun cdv A outer s H vs Q E hr h => ?_)
  · obtain ⟨a, good, P, c, d, N, rfl, _⟩ := h
    rfl
  · obtain ⟨a, good, M, c, d, N, rfl, hS, m0, m1, ok, nd, lg, hN, q⟩ := h
    refine ⟨_, PSs.nox (pss_cons (ps_if (pt_cmpR op_eq (pv 3) pe_int (nomark _)) (pss_one (ps_ret (pv 2))) pss_nil)
      (pss_cons (ps_set (i := 2) sc_counted.nd rfl (by first | exact .inl rfl | exact .inr rfl) (pe_cl c_next hr (by decide) (by rfl) (pa_cons (pv 0) (pa_cons (pe_op op_add (pv 2) pe_int) pa_nil))))
      (pss_cons (ps_set (i := 2) sc_counted.nd rfl (by first | exact .inl rfl | exact .inr rfl) (pe_op op_add (pv 2) (pe_op op_mul (pe_callB call_len_seq (by rfl) m_len PySem.boot_len (pa_cons (pv 0) pa_nil)) (pe_op op_fdiv (pe_op op_sub (pv 3) pe_int) (pv 1)))))
      (pss_cons (ps_for PassesOwn.never rfl (pi_range1 (by rfl) m_range (pa_cons (pe_op op_mod (pe_callTy call_int1 (by rfl) m_int (by decide +kernel) (pa_cons (pe_op op_sub (pv 3) pe_int) pa_nil)) (pv 1)) pa_nil)) (pg_name (i := 4) sc_counted.nd rfl (by first | exact .inl rfl | exact .inr rfl))
        (pss_one (ps_set (i := 2) sc_counted.nd rfl (by first | exact .inl rfl | exact .inr rfl) (pe_cl c_next hr (by decide) (by rfl) (pa_cons (pv 0) (pa_cons (pe_op op_add (pv 2) pe_int) pa_nil))))))
      (pss_one (ps_ret (pv 2))))))), ?_⟩
    have g0 : 0 < good.length := List.length_pos_iff.mpr ok.1
    walk_at "go"
    refine ite2 (fun e => ?_) (fun e => ?_)
    · have e : (c : Int) = 0 := V.int.inj (of_decide_eq_true e)
      obtain rfl : c = 0 := by omega
      walk_at "go"
      exact q
    · have c0 : 0 < c := Nat.pos_of_ne_zero fun z => e (decide_eq_true (by rw [z]; rfl))
      have key := it_count (G := fun d => N (d + 1)) (s := (M : Int)) (d := d) (fun g hg => (it_many hN (gof_pdc good M) (cnt_good m0 nd ok.2) hg)) (gof_pdc good M) (hN _).2.1 c0
      rw [key] at q
      walk_at "go"
      refine ⟨a, good, M, _, rfl, hS, m0, m1, ok, fun n hn => ?_⟩
      obtain rfl := hn.uniq (hN _)
      walk_at "go"
      refine ⟨a, _, rfl, .inl hS, ?_⟩
      rw [List.length_map, flags_len]
      walk_at "go"
      have e1 : ((c : Int) - 1) / (good.length : Int) = (((c - 1) / good.length : Nat) : Int) := by
        rw [Int.natCast_ediv]
        congr 1
        omega
      have e2 : ((c : Int) - 1) % (good.length : Int) = (((c - 1) % good.length : Nat) : Int) := by
        rw [Int.natCast_emod]
        congr 1
        omega
      have b0 := Int.emod_nonneg ((c : Int) - 1) (show (good.length : Int) ≠ 0 by omega)
      have b1 := Int.emod_lt_of_pos ((c : Int) - 1) (show (0 : Int) < good.length by omega)
      refine ⟨by omega, by omega, ?_⟩
      have eN : (((c : Int) - 1) % (good.length : Int)).toNat = (c - 1) % good.length := by rw [e2, Int.toNat_natCast]
      refine for_gen (n := (c - 1) % good.length) (fun i σ H1 => H1 = H ∧ ∃ v4 : Option V, σ = [some (.ref a), some (.int (good.length : Int)), some (.int (it (fun d => N (d + 1)) i (N (d + 1) + (M : Int) * (((c - 1) / good.length : Nat) : Int)))), some (.int (c : Int)), v4]) ⟨rfl, none, ?_⟩ ?_ ?_ ?_ ?_
      · show [some (V.ref a), some (V.int (good.length : Int)), some (V.int (N (d + 1) + (M : Int) * (((c : Int) - 1) / (good.length : Int)))), some (V.int (c : Int)), none] = _
        rw [e1]
        rfl
      · intro i σ H3 hi _
        show i < (((c : Int) - 1) % (good.length : Int)).toNat
        omega
      · intro σ H3 _
        show (((c : Int) - 1) % (good.length : Int)).toNat ≤ _
        omega
      · rintro i σ H3 x H4 hi ⟨rfl, v4, rfl⟩ ⟨rfl, rfl⟩
        walk_at "go"
        refine ⟨a, good, M, _, rfl, hS, m0, m1, ok, fun n hn => ?_⟩
        obtain rfl := hn.uniq (hN _)
        walk_at "go"
        exact ⟨_, rfl⟩
      · rintro σ H3 ⟨rfl, v4, rfl⟩
        walk_at "go"
        exact q
def spCcounted_back (K : PySem.W.Frag) : Sp := fun vs H Q _ => ∃ (a : Addr) (good : List Int) (P c : Nat) (d : Int) (N : Int → Int), vs = [.ref a, .int (good.length : Int), .int d, .int (c : Int)] ∧ SqL K H a ((flags good P).map V.bl) ∧ 0 < P ∧ P ≤ 400 ∧ GOk P good ∧ good.Nodup ∧ good.length ≤ 400 ∧ (∀ d, IsLs (Gof good P) d (N d)) ∧ Q (.int (it (fun d => N (d + -1)) c d)) H
theorem ok_counted_back (F : FnP K "_law_counted_back" s_counted_back f fd) (m_int : mg "int" = none) (m_range : mg "range" = none) (m_len : mg "len" = none) (c_last : Cal P w K mg base 1 "_law_last" (spLastL K)) : FnOk P w K mg base CX0 2 f fd P_counted_back (spCcounted_back K) := by
  refine F.ok sc_counted_back (fun vs H Q E h => ?_) (fun cdv A outer s H vs Q E hr h => ?_)
  · obtain ⟨a, good, P, c, d, N, rfl, _⟩ := h
    rfl
  · obtain ⟨a, good, M, c, d, N, rfl, hS, m0, m1, ok, nd, lg, hN, q⟩ := h
    refine ⟨_, PSs.nox (pss_cons (ps_if (pt_cmpR op_eq (pv 3) pe_int (nomark _)) (pss_one (ps_ret (pv 2))) pss_nil)
      (pss_cons (ps_set (i := 2) sc_counted_back.nd rfl (by first | exact .inl rfl | exact .inr rfl) (pe_cl c_last hr (by decide) (by rfl) (pa_cons (pv 0) (pa_cons (pe_op op_sub (pv 2) pe_int) pa_nil))))
      (pss_cons (ps_set (i := 2) sc_counted_back.nd rfl (by first | exact .inl rfl | exact .inr rfl) (pe_op op_sub (pv 2) (pe_op op_mul (pe_callB call_len_seq (by rfl) m_len PySem.boot_len (pa_cons (pv 0) pa_nil)) (pe_op op_fdiv (pe_op op_sub (pv 3) pe_int) (pv 1)))))
      (pss_cons (ps_for PassesOwn.never rfl (pi_range1 (by rfl) m_range (pa_cons (pe_op op_mod (pe_callTy call_int1 (by rfl) m_int (by decide +kernel) (pa_cons (pe_op op_sub (pv 3) pe_int) pa_nil)) (pv 1)) pa_nil)) (pg_name (i := 4) sc_counted_back.nd rfl (by first | exact .inl rfl | exact .inr rfl))
        (pss_one (ps_set (i := 2) sc_counted_back.nd rfl (by first | exact .inl rfl | exact .inr rfl) (pe_cl c_last hr (by decide) (by rfl) (pa_cons (pv 0) (pa_cons (pe_op op_sub (pv 2) pe_int) pa_nil))))))
      (pss_one (ps_ret (pv 2))))))), ?_⟩
    have g0 : 0 < good.length := List.length_pos_iff.mpr ok.1
    walk_at "go"
    refine ite2 (fun e => ?_) (fun e => ?_)
    · have e : (c : Int) = 0 := V.int.inj (of_decide_eq_true e)
      obtain rfl : c = 0 := by omega
      walk_at "go"
      exact q
    · have c0 : 0 < c := Nat.pos_of_ne_zero fun z => e (decide_eq_true (by rw [z]; rfl))
      have key := it_count (G := fun d => N (d + -1)) (s := -(M : Int)) (d := d) (fun g hg => (it_back hN (gof_pdc good M) (cnt_good m0 nd ok.2) hg).trans (by omega)) (fun x => by have z := gof_pdc good M (x + -(M : Int)); rw [show x + -(M : Int) + (M : Int) = x by omega] at z; exact z.symm) (hN _).2.1 c0
      rw [key] at q
      walk_at "go"
      refine ⟨a, good, M, _, rfl, hS, m0, m1, ok, fun n hn => ?_⟩
      obtain rfl := hn.uniq (hN _)
      walk_at "go"
      refine ⟨a, _, rfl, .inl hS, ?_⟩
      rw [List.length_map, flags_len]
      walk_at "go"
      have e1 : ((c : Int) - 1) / (good.length : Int) = (((c - 1) / good.length : Nat) : Int) := by
        rw [Int.natCast_ediv]
        congr 1
        omega
      have e2 : ((c : Int) - 1) % (good.length : Int) = (((c - 1) % good.length : Nat) : Int) := by
        rw [Int.natCast_emod]
        congr 1
        omega
      have b0 := Int.emod_nonneg ((c : Int) - 1) (show (good.length : Int) ≠ 0 by omega)
      have b1 := Int.emod_lt_of_pos ((c : Int) - 1) (show (0 : Int) < good.length by omega)
      refine ⟨by omega, by omega, ?_⟩
      have eN : (((c : Int) - 1) % (good.length : Int)).toNat = (c - 1) % good.length := by rw [e2, Int.toNat_natCast]
      refine for_gen (n := (c - 1) % good.length) (fun i σ H1 => H1 = H ∧ ∃ v4 : Option V, σ = [some (.ref a), some (.int (good.length : Int)), some (.int (it (fun d => N (d + -1)) i (N (d + -1) + -(M : Int) * (((c - 1) / good.length : Nat) : Int)))), some (.int (c : Int)), v4]) ⟨rfl, none, ?_⟩ ?_ ?_ ?_ ?_
      · show [some (V.ref a), some (V.int (good.length : Int)), some (V.int (N (d - 1) - (M : Int) * (((c : Int) - 1) / (good.length : Int)))), some (V.int (c : Int)), none] = _
        rw [e1]
        rw [Int.sub_eq_add_neg, ← Int.neg_mul]
        rfl
      · intro i σ H3 hi _
        show i < (((c : Int) - 1) % (good.length : Int)).toNat
        omega
      · intro σ H3 _
        show (((c : Int) - 1) % (good.length : Int)).toNat ≤ _
        omega
      · rintro i σ H3 x H4 hi ⟨rfl, v4, rfl⟩ ⟨rfl, rfl⟩
        walk_at "go"
        refine ⟨a, good, M, _, rfl, hS, m0, m1, ok, fun n hn => ?_⟩
        obtain rfl := hn.uniq (hN _)
        walk_at "go"
        exact ⟨_, rfl⟩
      · rintro σ H3 ⟨rfl, v4, rfl⟩
        walk_at "go"
        exact q
end
end Z
set_option pp.maxSteps 700
set_option Elab.async false
set_option linter.all false
set_option maxRecDepth 100000
set_option maxHeartbeats 4000000
namespace Z
open Dy
open PySem PySem.Spec PyProof.Rows L2
open C8 (pss_cut tCut)
local macro_rules | `(tactic| walk_at "num") => `(tactic| first | rfl | omega | decide | exact Nat.le_of_lt (small1000 (by simp)) | exact ⟨by omega, by omega⟩ | exact ⟨by omega, by omega, by omega⟩ | exact ⟨by decide, by decide, by decide⟩ | exact Or.inl ⟨by omega, by omega⟩ | exact Or.inr ⟨by omega, by omega⟩)
local macro_rules | `(tactic| walk_at "go") => `(tactic| repeat (first | refine ⟨_, rfl, ?_⟩ | refine ⟨_, _, rfl, rfl, ?_⟩ | refine ⟨_, _, rfl, ?_⟩ | (refine ⟨_, _, rfl, rfl, ?_, ?_⟩; focus walk_at "num") | refine Or.inl ⟨_, rfl, ?_⟩ | refine ⟨_, _, _, _, rfl, rfl, (by assumption), (by rfl), ?_⟩ | refine ⟨_, _, _, _, _, rfl, (by assumption), (by assumption), (by assumption), (by rfl), ?_⟩ | refine ⟨rfl, ?_⟩ | (refine And.intro ?_ ?_; focus walk_at "num")))
abbrev s_told : Stmt := topS 32
abbrev N_told : List Str := ["_law_way", "_law_period", "_law_good_here", "_law_found", "e"]
abbrev P_told : List Str := ["_law_way", "_law_period", "_law_good_here"]
theorem sc_told : FnScope N_told P_told (defScope s_told) := ⟨rfl, rfl, rfl, by decide +kernel, rfl, by decide +kernel, by decide +kernel⟩
abbrev s_refusals_hold : Stmt := topS 33
abbrev N_refusals_hold : List Str := ["_law_period", "_law_good_here", "_law_draws_here", "_law_wrong", "_law_at", "_law_far", "_law_late", "_law_way"]
abbrev P_refusals_hold : List Str := ["_law_period", "_law_good_here", "_law_draws_here"]
theorem sc_refusals_hold : FnScope N_refusals_hold P_refusals_hold (defScope s_refusals_hold) := ⟨rfl, rfl, rfl, by decide +kernel, rfl, by decide +kernel, by decide +kernel⟩
section
variable {P : Program} {w : World} {K : PySem.W.Frag} {mg : Str → Option Value} {base : Heap} {f C CD CC CH : Addr} {fd : FuncData}
/-! ### _law_told -/
def spTold (K : PySem.W.Frag) : Sp := fun vs H Q _ => ∃ (b : Bool) (wy : Int) (a : Addr) (good : List Int) (P : Nat), vs = [.int wy, .int (P : Int), .ref a] ∧ SqK b K H a (good.map V.int) ∧ good.length ≤ 1000 ∧ 0 < P ∧ P ≤ 400 ∧
  (GOk P good → ∀ (t : Addr) H', Same H H' → H' t = some (.tup [.str "made", .int 0]) → Q (.ref t) H') ∧ (∀ i : Nat, GBad P good i → ∀ (t : Addr) H', Same H H' → H' t = some (.tup [.str "refused", .int (i : Int)]) → Q (.ref t) H') ∧ (GOk P good ∨ ∃ i, GBad P good i)
theorem ok_told (F : FnP K "_law_told" s_told f fd) (isC : C8.InsC K C) (m_isinstance : mg "isinstance" = none) (g_DayRule : mg "DayRule" = some (.ref C)) (g_HouseError : mg "HouseError" = some (.ref CH)) (g_BadDays : mg "BadDays" = some (.ref CD)) (g_BadCount : mg "BadCount" = some (.ref CC)) (te : PySem.W.exmOne K (.ref CD) (.ref CD) = some true) (ec : ExcC K CD) (k1 : PySem.W.kitOne K (.ref CD) (.ref CH) = some true) (k2 : PySem.W.kitOne K (.ref CD) (.ref CC) = some false) (xf_BadDays : XfC K CD) (no_BadDays_at : PySem.W.findIn K (.ref CD) "at" = some none) (ch_whole : CalH P w K mg base 1 "_law_whole" spWhole) (c_next_good : CalX P w K mg base 6 "next_good" (spNextG C CD K)) (c_last_good : CalX P w K mg base 6 "last_good" (spLastG C CD K)) : FnOk P w K mg base CX0 7 f fd P_told (spTold K) := by
  refine F.ok sc_told (fun vs H Q E h => ?_) (fun cdv A outer s H vs Q E hr h => ?_)
  · obtain ⟨b, wy, a, good, M, rfl, _⟩ := h
    rfl
  · obtain ⟨b, wy, a, good, M, rfl, hS, lg, m0, m1, q, qr, dec⟩ := h
    refine ⟨_, PSs.nox (pss_cons (L2N.ps_try_as (i := 4) rfl rfl sc_told.nd rfl rfl ⟨rfl, rfl, .inl g_BadDays⟩ takes0N (fun W pn xe tk po => (pss_one (ps_if (pt_cmpR op_eq (pv 0) pe_int (nomark _)) (pss_one (ps_set (i := 3) sc_told.nd rfl (by first | exact .inl rfl | exact .inr rfl) (pe_clE c_next_good (fun σ => L2N.passAt tk σ) hr (by decide) (by rfl) (pa_cons (pv 1) (pa_cons (pv 2) pa_nil))))) (pss_one (ps_set (i := 3) sc_told.nd rfl (by first | exact .inl rfl | exact .inr rfl) (pe_clE c_last_good (fun σ => L2N.passAt tk σ) hr (by decide) (by rfl) (pa_cons (pv 1) (pa_cons (pv 2) pa_nil))))))))
      (fun ex oe cls d pn hzn hf => (pss_cons (ps_if (PW.pt (pw_and (pt_val (pe_callB (call_isX hzn.zc hf) (by rfl) m_isinstance (by decide +kernel) (pa_cons (pv 4) (pa_cons (pe_glob (by rfl) g_HouseError relv_ref) pa_nil)))) (pw_and (pt_not (pt_val (pe_callB (call_isX hzn.zc hf) (by rfl) m_isinstance (by decide +kernel) (pa_cons (pv 4) (pa_cons (pe_glob (by rfl) g_BadCount relv_ref) pa_nil))))) (pw_and1 (pt_val (pe_clH ch_whole (room_mark hr) (by decide) (hotC_suite hzn hf) (by rfl) (pa_cons (pe_xf xf_BadDays no_BadDays_at hzn.zc hf (pv 4)) pa_nil))))))) (pss_one (ps_ret (pe_tup (pa_cons pe_str (pa_cons (pe_xf xf_BadDays no_BadDays_at hzn.zc hf (pv 4)) pa_nil))))) pss_nil)
      (pss_one (ps_ret (pe_tup (pa_cons pe_str (pa_cons pe_int pa_nil))))))))
      (pss_cons (ps_if (pt_val (pe_callB (C8.call_isC isC) (by rfl) m_isinstance (by decide +kernel) (pa_cons (pv 3) (pa_cons (pe_glob (by rfl) g_DayRule relv_ref) pa_nil)))) (pss_one (ps_ret (pe_tup (pa_cons pe_str (pa_cons pe_int pa_nil))))) pss_nil)
      (pss_one (ps_ret (pe_tup (pa_cons pe_str (pa_cons pe_int pa_nil))))))), ?_⟩
    walk_at "go"
    refine ite2 (fun _ => ?_) (fun _ => ?_)
    · walk_at "go"
      refine ⟨b, a, good, M, rfl, hS, by omega, m0, by omega, fun ok r H1 N s1 hN rF => ?_, fun i bad H1 d s1 nd => ?_⟩
      · obtain ⟨dx, fs, en⟩ := rF.at_
        walk_at "go"
        refine ⟨r, dx, _, rfl, en, ?_⟩
        walk_at "go"
        intro t nt
        exact q ok t _ (s1.trans (same_new nt)) upd_same
      · have s2 := same_new (o := .xd [("at", .int (i : Int))]) nd
        refine ⟨true, te, fun _ ad na => ?_, (fun z => by cases z)⟩
        walk_at "go"
        refine ⟨CD, d, _, .ref CH, .ref CH, true, rfl, rfl, ec, upd_same, rfl, (fun u z => by cases z; rfl), k1, ?_⟩
        walk_at "go"
        refine ⟨CD, d, _, .ref CC, .ref CC, false, rfl, rfl, ec, upd_same, rfl, (fun u z => by cases z; rfl), k2, ?_⟩
        walk_at "go"
        refine ⟨d, _, _, rfl, upd_same, rfl, ?_⟩
        walk_at "go"
        refine ⟨d, _, _, rfl, upd_same, rfl, ?_⟩
        walk_at "go"
        intro t nt
        exact qr i bad t _ (s1.trans (s2.trans (same_new nt))) upd_same
    · walk_at "go"
      refine ⟨b, a, good, M, rfl, hS, by omega, m0, by omega, fun ok r H1 N s1 hN rF => ?_, fun i bad H1 d s1 nd => ?_⟩
      · obtain ⟨dx, fs, en⟩ := rF.at_
        walk_at "go"
        refine ⟨r, dx, _, rfl, en, ?_⟩
        walk_at "go"
        intro t nt
        exact q ok t _ (s1.trans (same_new nt)) upd_same
      · have s2 := same_new (o := .xd [("at", .int (i : Int))]) nd
        refine ⟨true, te, fun _ ad na => ?_, (fun z => by cases z)⟩
        walk_at "go"
        refine ⟨CD, d, _, .ref CH, .ref CH, true, rfl, rfl, ec, upd_same, rfl, (fun u z => by cases z; rfl), k1, ?_⟩
        walk_at "go"
        refine ⟨CD, d, _, .ref CC, .ref CC, false, rfl, rfl, ec, upd_same, rfl, (fun u z => by cases z; rfl), k2, ?_⟩
        walk_at "go"
        refine ⟨d, _, _, rfl, upd_same, rfl, ?_⟩
        walk_at "go"
        refine ⟨d, _, _, rfl, upd_same, rfl, ?_⟩
        walk_at "go"
        intro t nt
        exact qr i bad t _ (s1.trans (s2.trans (same_new nt))) upd_same
/-! ### _law_refusals_hold -/
theorem dp_pair {K : PySem.W.Frag} {H : Hp} {t : Addr} {z : Str} {i : Int} (h : H t = some (.tup [.str z, .int i])) : Dp K H (.ref t) (.tuple [.str z, .int i]) := .tup (SqT.of h) (.cons (.str z) (.cons (.int i) .nil))
theorem sh_pair (z : Str) (i : Int) (hz : PyData.strOk z = true) : SeqAt.shaped (.tuple [.str z, .int i]) = true := by
  unfold SeqAt.shaped
  show (PyData.canLayAll0 [.str z, .int i] && decide (PyData.depthAll [.str z, .int i] + 1 ≤ 64)) = true
  simp [PyData.canLayAll0, PyData.canLay0, PyData.depthAll, PyData.depth, hz]
theorem dr_at {n k : Nat} {ds : List Int} (h : Dr n ds) (hk : k < n) : 0 ≤ ds.getD k 0 ∧ ds.getD k 0 < 1000000 := by
  have hl : k < ds.length := by rw [h.1]; exact hk
  rw [List.getD_eq_getElem?_getD, List.getElem?_eq_getElem hl]
  exact h.2 _ (List.getElem_mem hl)
theorem getD_set_ {xs : List Int} {i j : Nat} {y : Int} (h : j < xs.length) : (xs.set i y).getD j 0 = if i = j then y else xs.getD j 0 := by
  rw [List.getD_eq_getElem?_getD, List.getElem?_set]
  split
  · rename_i e
    subst e
    rw [if_pos h]
    rfl
  · rw [List.getD_eq_getElem?_getD]
def spRefH (K : PySem.W.Frag) : Sp := fun vs H Q _ => ∃ (a l : Addr) (good ds : List Int) (P n : Nat), vs = [.int (P : Int), .ref a, .ref l] ∧ SqL K H a (good.map V.int) ∧ GOk P good ∧ good.length ≤ 500 ∧ 0 < P ∧ P ≤ 400 ∧ SqL K H l (ds.map V.int) ∧ Dr n ds ∧ 56 ≤ n ∧ ∀ H', Same H H' → Q (.bl true) H'
theorem ok_refusals_hold (F : FnP K "_law_refusals_hold" s_refusals_hold f fd) (m_int : mg "int" = none) (m_len : mg "len" = none) (m_list : mg "list" = none) (m_tuple : mg "tuple" = none) (m_range : mg "range" = none) (c_told : Cal P w K mg base 7 "_law_told" (spTold K)) : FnOk P w K mg base CX0 8 f fd P_refusals_hold (spRefH K) := by
  refine F.ok sc_refusals_hold (fun vs H Q E h => ?_) (fun cdv A outer s H vs Q E hr h => ?_)
  · obtain ⟨a, l, good, ds, M, n, rfl, _⟩ := h
    rfl
  · obtain ⟨a, l, good, ds, M, n, rfl, hS, ok, lg, m0, m1, hD, dr, hn, q⟩ := h
    refine ⟨_, PSs.nox (pss_cons (ps_set (i := 3) sc_refusals_hold.nd rfl (by first | exact .inl rfl | exact .inr rfl) (pe_callTy call_list_of (by rfl) m_list (by decide +kernel) (pa_cons (pv 1) pa_nil)))
      (pss_cons (ps_set (i := 4) sc_refusals_hold.nd rfl (by first | exact .inl rfl | exact .inr rfl) (pe_op op_mod (pe_callTy call_int1 (by rfl) m_int (by decide +kernel) (pa_cons (pe_ix ix_list (pv 2) pe_int (fun _ _ => rfl)) pa_nil)) (pe_callB call_len_seq (by rfl) m_len PySem.boot_len (pa_cons (pv 3) pa_nil))))
      (pss_cons (ps_set (i := 5) sc_refusals_hold.nd rfl (by first | exact .inl rfl | exact .inr rfl) (pe_op op_mul (pe_ix ix_list (pv 2) pe_int (fun _ _ => rfl)) (pe_op op_pow pe_int pe_int)))
      (pss_cons (ps_asg (pe_ix ix_list (pe_lst (pa_cons (pe_op op_sub pe_int pe_int) (pa_cons (pv 0) (pa_cons (pe_op op_sub (pe_op op_sub pe_int pe_int) (pe_ix ix_list (pv 2) pe_int (fun _ _ => rfl))) (pa_cons (pe_op op_add (pv 0) (pe_ix ix_list (pv 2) pe_int (fun _ _ => rfl))) (pa_cons (pe_op op_sub (pe_op op_sub pe_int pe_int) (pv 5)) (pa_cons (pe_op op_add (pv 0) (pv 5)) pa_nil))))))) (pe_op op_mod (pe_callTy call_int1 (by rfl) m_int (by decide +kernel) (pa_cons (pe_ix ix_list (pv 2) pe_int (fun _ _ => rfl)) pa_nil)) pe_int) (fun _ _ => rfl)) (pg_sub (pv 3) (pv 4) set_list))
      (pss_cons (ps_set (i := 6) sc_refusals_hold.nd rfl (by first | exact .inl rfl | exact .inr rfl) (pe_callTy call_list_of (by rfl) m_list (by decide +kernel) (pa_cons (pv 3) pa_nil)))
      (pss_cons (ps_expr (pe_bm PySem.F.plainAttrs_list PySem.F.slot_list_append PySem.F.type_list_append mt_append (pv 6) (pa_cons (pe_op op_add (pv 0) pe_int) pa_nil)))
      (pss_cons (ps_for PassesOwn.never rfl (pi_range1 (by rfl) m_range (pa_cons pe_int pa_nil)) (pg_name (i := 7) sc_refusals_hold.nd rfl (by first | exact .inl rfl | exact .inr rfl))
        (pss_cons (ps_if (PW.pt (pw_or (pt_cmpR (op_neD hr.units) (pe_cl c_told hr (by decide) (by rfl) (pa_cons (pv 7) (pa_cons (pv 0) (pa_cons (pe_callTy call_list_of (by rfl) m_list (by decide +kernel) (pa_cons (pv 3) pa_nil)) pa_nil)))) (pe_tup (pa_cons pe_str (pa_cons (pv 4) pa_nil))) (nomark _)) (pw_or1 (pt_cmpR (op_neD hr.units) (pe_cl c_told hr (by decide) (by rfl) (pa_cons (pv 7) (pa_cons (pv 0) (pa_cons (pe_callTy call_tuple_of (by rfl) m_tuple (by decide +kernel) (pa_cons (pv 6) pa_nil)) pa_nil)))) (pe_tup (pa_cons pe_str (pa_cons (pv 4) pa_nil))) (nomark _))))) (pss_one (ps_ret pe_bl)) pss_nil)
      (pss_one (ps_if (PW.pt (pw_or (pt_cmpR (op_neD hr.units) (pe_cl c_told hr (by decide) (by rfl) (pa_cons (pv 7) (pa_cons (pv 0) (pa_cons (pe_lst pa_nil) pa_nil)))) (pe_tup (pa_cons pe_str (pa_cons pe_int pa_nil))) (nomark _)) (pw_or1 (pt_cmpR (op_neD hr.units) (pe_cl c_told hr (by decide) (by rfl) (pa_cons (pv 7) (pa_cons (pv 0) (pa_cons (pe_callTy call_tuple_of (by rfl) m_tuple (by decide +kernel) (pa_cons (pv 1) pa_nil)) pa_nil)))) (pe_tup (pa_cons pe_str (pa_cons pe_int pa_nil))) (nomark _))))) (pss_one (ps_ret pe_bl)) pss_nil))))
      (pss_one (ps_ret pe_bl))))))))), ?_⟩
    have lds : ds.length = n := dr.1
    obtain ⟨x0, x1⟩ := dr_at dr (k := 53) (by omega)
    obtain ⟨y0, y1⟩ := dr_at dr (k := 54) (by omega)
    obtain ⟨z0, z1⟩ := dr_at dr (k := 55) (by omega)
    have g0 : 0 < good.length := List.length_pos_iff.mpr ok.1
    walk_at "go"
    refine ⟨a, _, rfl, .inl hS, ?_⟩
    intro W nW
    generalize eH_ : upd H W _ = H1
    have s1 : Same H H1 := by rw [← eH_]; exact same_new nW
    have eW : H1 W = some (.lst (good.map V.int)) := by rw [← eH_]; exact upd_same
    clear eH_
    have hD1 := s1.seq hD
    walk_at "go"
    refine rd_at hD1 (by decide) (by rw [lds]; omega) ?_
    walk_at "go"
    refine ⟨W, _, rfl, .inl (SqL.of eW), ?_⟩
    rw [List.length_map]
    walk_at "go"
    have a0 := Int.emod_nonneg (ds.getD 53 0) (show (good.length : Int) ≠ 0 by omega)
    have a1 := Int.emod_lt_of_pos (ds.getD 53 0) (show (0 : Int) < good.length by omega)
    generalize eS : (fun i j : Int => V.int (i % j)) (ds.getD (53 : Int).toNat 0) (good.length : Int) = vS
    obtain ⟨at_, rfl, hat⟩ : ∃ k : Nat, vS = V.int (k : Int) ∧ k < good.length := by
      obtain ⟨k, hk⟩ := Int.eq_ofNat_of_zero_le a0
      refine ⟨k, by rw [← eS, ← hk]; rfl, by omega⟩
    clear eS
    walk_at "go"
    refine rd_at hD1 (by decide) (by rw [lds]; omega) ?_
    rw [show (54 : Int).toNat = 54 from rfl]
    walk_at "go"
    refine rd_at hD1 (by decide) (by rw [lds]; omega) ?_
    rw [show (54 : Int).toNat = 54 from rfl]
    walk_at "go"
    refine rd_at hD1 (by decide) (by rw [lds]; omega) ?_
    rw [show (54 : Int).toNat = 54 from rfl]
    walk_at "go"
    intro X nX
    generalize eH_ : upd H1 X _ = H2
    have s2 : Same H1 H2 := by rw [← eH_]; exact same_new nX
    have eX : H2 X = some (.lst (([0 - 1, (M : Int), 0 - 1 - ds.getD 54 0, M + ds.getD 54 0, 0 - 1 - ds.getD 54 0 * 10 ^ 50, M + ds.getD 54 0 * 10 ^ 50] : List Int).map V.int)) := by rw [← eH_]; exact upd_same
    clear eH_
    walk_at "go"
    refine rd_at (s2.seq hD1) (by decide) (by rw [lds]; omega) ?_
    rw [show (55 : Int).toNat = 55 from rfl]
    have key : ∀ idx : Int, 0 ≤ idx → idx < 6 → ∃ v : Int, atI (([0 - 1, (M : Int), 0 - 1 - ds.getD 54 0, M + ds.getD 54 0, 0 - 1 - ds.getD 54 0 * 10 ^ 50, M + ds.getD 54 0 * 10 ^ 50] : List Int).map V.int) idx = some (.int v) ∧ ¬ (0 ≤ v ∧ v < M) := by
      have f0 : 0 ≤ ds.getD 54 0 * 10 ^ 50 := Int.mul_nonneg y0 (by decide)
      intro idx i0 i1
      rcases (show idx = 0 ∨ idx = 1 ∨ idx = 2 ∨ idx = 3 ∨ idx = 4 ∨ idx = 5 by omega) with rfl | rfl | rfl | rfl | rfl | rfl
      · exact ⟨_, rfl, by omega⟩
      · exact ⟨_, rfl, by omega⟩
      · exact ⟨_, rfl, by omega⟩
      · exact ⟨_, rfl, by omega⟩
      · exact ⟨_, rfl, by omega⟩
      · exact ⟨_, rfl, by omega⟩
    obtain ⟨v, ev, bv⟩ := key (ds.getD 55 0 % 6) (by omega) (by omega)
    walk_at "go"
    refine ⟨X, _, _, _, rfl, rfl, SqL.of eX, ev, ?_⟩
    have eW2 := s2 _ _ eW
    walk_at "go"
    refine ⟨W, _, _, at_, rfl, rfl, eW2, (by unfold ixN; rw [List.length_map, if_pos (by omega), if_pos (by omega)]; rfl), ?_⟩
    have s3 : Same H (upd H2 W (.lst ((good.map V.int).set at_ (.int v)))) := Z.Same.mut (s1.trans s2) nW
    have eW3 : upd H2 W (.lst ((good.map V.int).set at_ (.int v))) W = some (.lst ((good.set at_ v).map V.int)) := by
      rw [upd_same, List.map_set]
    generalize upd H2 W _ = H3 at s3 eW3 ⊢
    have lw : (good.set at_ v).length = good.length := List.length_set ..
    have bw : GBad M (good.set at_ v) at_ := .inr ⟨by rw [lw]; exact hat, by rw [getD_set_ (by omega), if_pos rfl]; exact bv, fun j hj => by
      rw [getD_set_ (by omega), if_neg (by omega)]
      refine ok.2 _ ?_
      rw [List.getD_eq_getElem?_getD, List.getElem?_eq_getElem (show j < good.length by omega)]
      exact List.getElem_mem _⟩
    have bl : GBad M (good.set at_ v ++ [(M : Int) + 1]) at_ := by
      obtain ⟨h, _⟩ | ⟨h1, h2, h3⟩ := bw
      · rw [h] at lw
        simp at lw
        omega
      · exact .inr ⟨by rw [List.length_append]; omega, by rw [getD_app_left h1]; exact h2, fun j hj => by rw [getD_app_left (by omega)]; exact h3 j hj⟩
    generalize good.set at_ v = ws at eW3 lw bw bl
    clear eW2 eX eW s1 s2 hD1 key ev
    walk_at "go"
    refine ⟨W, _, rfl, .inl (SqL.of eW3), ?_⟩
    intro T nT
    generalize eH_ : upd H3 T _ = H4
    have s4 : Same H3 H4 := by rw [← eH_]; exact same_new nT
    have eT : H4 T = some (.lst (ws.map V.int)) := by rw [← eH_]; exact upd_same
    clear eH_
    have s34 := s3.trans s4
    have nHT : H T = none := by
      cases e : H T with
      | none => rfl
      | some o =>
        have := s3 T o e
        rw [nT] at this
        cases this
    have TW : W ≠ T := ne_of_none eW3 nT
    dsimp only [List.set]
    walk_at "go"
    refine ⟨.inl ⟨rfl, _, .inl (.inl eT)⟩, ?_⟩
    walk_at "go"
    refine ⟨_, _, _, rfl, rfl, eT, ?_, ?_⟩
    · rw [List.length_map]
      exact Nat.lt_of_lt_of_le (show ws.length < 1000 by omega) (by decide)
    have s5 : Same H (upd H4 T (.lst (ws.map V.int ++ [.int ((M : Int) + 1)]))) := Z.Same.mut s34 nHT
    have eT5 : upd H4 T (.lst (ws.map V.int ++ [.int ((M : Int) + 1)])) T = some (.lst ((ws ++ [(M : Int) + 1]).map V.int)) := by
      rw [upd_same, List.map_append]
      rfl
    have eW5 : upd H4 T (.lst (ws.map V.int ++ [.int ((M : Int) + 1)])) W = some (.lst (ws.map V.int)) := by
      rw [upd_ne TW]
      exact s4 _ _ eW3
    generalize upd H4 T _ = H5 at s5 eT5 eW5 ⊢
    clear eT s34 s4 eW3 s3
    walk_at "go"
    refine for_gen (n := 2) (fun i σ H6 => Same H5 H6 ∧ ∃ (v5 v7 : Option V), σ = [some (.int (M : Int)), some (.ref a), some (.ref l), some (.ref W), some (.int (at_ : Int)), v5, some (.ref T), v7]) ⟨Same.refl _, _, _, rfl⟩ (fun i σ H1 hi _ => hi) (fun σ H1 _ => Nat.le_refl _) ?_ ?_
    · rintro i σ H6 x H7 hi ⟨s6, v5, v7, rfl⟩ ⟨rfl, rfl⟩
      walk_at "go"
      refine ⟨W, _, rfl, .inl (SqL.of (s6 _ _ eW5)), ?_⟩
      intro A1 nA1
      generalize eH_ : upd H7 A1 _ = J1
      have t1 : Same H7 J1 := by rw [← eH_]; exact same_new nA1
      have eA1 : J1 A1 = some (.lst (ws.map V.int)) := by rw [← eH_]; exact upd_same
      clear eH_
      walk_at "go"
      refine ⟨true, _, A1, ws, M, rfl, SqL.of eA1, by omega, m0, m1, fun k => (bw.not k).elim, fun k bk T1 J2 t2 eT1 => ?_, .inr ⟨_, bw⟩⟩
      obtain rfl := bw.uniq bk
      walk_at "go"
      intro T2 nT2
      generalize eH_ : upd J2 T2 _ = J3
      have t3 : Same J2 J3 := by rw [← eH_]; exact same_new nT2
      have eT2 : J3 T2 = some (.tup [.str "refused", .int (at_ : Int)]) := by rw [← eH_]; exact upd_same
      clear eH_
      refine ⟨_, _, dp_pair (t3 _ _ eT1), dp_pair eT2, sh_pair _ _ (by decide +kernel), sh_pair _ _ (by decide +kernel), ?_⟩
      rw [eqv_same (sh_pair _ _ (by decide +kernel))]
      have t7 := s6.trans (t1.trans (t2.trans t3))
      clear t1 t2 t3 s6 eT1 eT2 eA1
      walk_at "go"
      refine ⟨T, _, rfl, .inl ⟨SqL.of (t7 _ _ eT5), ?_⟩⟩
      intro Bb nBb
      generalize eH_ : upd J3 Bb _ = Mb
      have ub : Same J3 Mb := by rw [← eH_]; exact same_new nBb
      have eBb : Mb Bb = some (.tup ((ws ++ [(M : Int) + 1]).map V.int)) := by rw [← eH_]; exact upd_same
      clear eH_
      walk_at "go"
      refine ⟨false, _, Bb, ws ++ [(M : Int) + 1], M, rfl, SqT.of eBb, by rw [List.length_append]; show ws.length + 1 ≤ 1000; omega, m0, m1, fun k => (bl.not k).elim, fun k bk Tb Nb vb eTb => ?_, .inr ⟨_, bl⟩⟩
      obtain rfl := bl.uniq bk
      walk_at "go"
      intro Db nDb
      generalize eH_ : upd Nb Db _ = Lb
      have wb : Same Nb Lb := by rw [← eH_]; exact same_new nDb
      have eDb : Lb Db = some (.tup [.str "refused", .int (at_ : Int)]) := by rw [← eH_]; exact upd_same
      clear eH_
      refine ⟨_, _, dp_pair (i := (at_ : Int)) (wb _ _ eTb), dp_pair (i := (at_ : Int)) eDb, sh_pair _ _ (by decide +kernel), sh_pair _ _ (by decide +kernel), ?_⟩
      rw [eqv_same (sh_pair _ _ (by decide +kernel))]
      have t7 := t7.trans (ub.trans (vb.trans wb))
      clear ub vb wb eTb eDb
      walk_at "go"
      intro Bc nBc
      generalize eH_ : upd Lb Bc _ = Mc
      have uc : Same Lb Mc := by rw [← eH_]; exact same_new nBc
      have eBc : Mc Bc = some (.lst (([] : List Int).map V.int)) := by rw [← eH_]; exact upd_same
      clear eH_
      walk_at "go"
      refine ⟨true, _, Bc, [], M, rfl, SqL.of eBc, by decide, m0, m1, fun k => (k.1 rfl).elim, fun k bk Tc Nc vc eTc => ?_, .inr ⟨0, .inl ⟨rfl, rfl⟩⟩⟩
      obtain rfl : k = 0 := bk.uniq (.inl ⟨rfl, rfl⟩)
      walk_at "go"
      intro Dc nDc
      generalize eH_ : upd Nc Dc _ = Lc
      have wc : Same Nc Lc := by rw [← eH_]; exact same_new nDc
      have eDc : Lc Dc = some (.tup [.str "refused", .int 0]) := by rw [← eH_]; exact upd_same
      clear eH_
      refine ⟨_, _, dp_pair (i := 0) (wc _ _ eTc), dp_pair (i := 0) eDc, sh_pair _ _ (by decide +kernel), sh_pair _ _ (by decide +kernel), ?_⟩
      rw [eqv_same (sh_pair _ _ (by decide +kernel))]
      have t7 := t7.trans (uc.trans (vc.trans wc))
      clear uc vc wc eTc eDc
      walk_at "go"
      refine ⟨a, _, rfl, .inl ⟨(s5.trans t7).seq hS, ?_⟩⟩
      intro Bd nBd
      generalize eH_ : upd Lc Bd _ = Md
      have ud : Same Lc Md := by rw [← eH_]; exact same_new nBd
      have eBd : Md Bd = some (.tup (good.map V.int)) := by rw [← eH_]; exact upd_same
      clear eH_
      walk_at "go"
      refine ⟨false, _, Bd, good, M, rfl, SqT.of eBd, by omega, m0, m1, fun k Td Nd vd eTd => ?_, fun k bk => (bk.not ok).elim, .inl ok⟩
      walk_at "go"
      intro Dd nDd
      generalize eH_ : upd Nd Dd _ = Ld
      have wd : Same Nd Ld := by rw [← eH_]; exact same_new nDd
      have eDd : Ld Dd = some (.tup [.str "made", .int 0]) := by rw [← eH_]; exact upd_same
      clear eH_
      refine ⟨_, _, dp_pair (i := 0) (wd _ _ eTd), dp_pair (i := 0) eDd, sh_pair _ _ (by decide +kernel), sh_pair _ _ (by decide +kernel), ?_⟩
      rw [eqv_same (sh_pair _ _ (by decide +kernel))]
      have t7 := t7.trans (ud.trans (vd.trans wd))
      clear ud vd wd eTd eDd
      walk_at "go"
      exact ⟨_, _, rfl⟩
    · rintro σ H6 ⟨s6, v5, v7, rfl⟩
      walk_at "go"
      exact q _ (s5.trans s6)
end
end Z
set_option pp.maxSteps 700
set_option Elab.async false
set_option linter.all false
set_option maxRecDepth 100000
set_option maxHeartbeats 4000000
namespace Z
open Dy
open PySem PySem.Spec PyProof.Rows L2
open C8 (pss_cut tCut)
local macro_rules | `(tactic| walk_at "num") => `(tactic| first | rfl | omega | decide | exact Nat.le_of_lt (small1000 (by simp)) | exact ⟨by omega, by omega⟩ | exact ⟨by omega, by omega, by omega⟩ | exact ⟨by decide, by decide, by decide⟩ | exact Or.inl ⟨by omega, by omega⟩ | exact Or.inr ⟨by omega, by omega⟩)
local macro_rules | `(tactic| walk_at "go") => `(tactic| repeat (first | refine ⟨_, rfl, ?_⟩ | refine ⟨_, _, rfl, rfl, ?_⟩ | refine ⟨_, _, rfl, ?_⟩ | (refine ⟨_, _, rfl, rfl, ?_, ?_⟩; focus walk_at "num") | refine Or.inl ⟨_, rfl, ?_⟩ | refine ⟨_, _, _, _, rfl, rfl, (by assumption), (by rfl), ?_⟩ | refine ⟨_, _, _, _, _, rfl, (by assumption), (by assumption), (by assumption), (by rfl), ?_⟩ | refine ⟨rfl, ?_⟩ | (refine And.intro ?_ ?_; focus walk_at "num")))
abbrev s_span : Stmt := topS 40
abbrev N_span : List Str := ["_law_one_here", "_law_other", "_law_span_here", "_law_k"]
abbrev P_span : List Str := ["_law_one_here", "_law_other"]
theorem sc_span : FnScope N_span P_span (defScope s_span) := ⟨rfl, rfl, rfl, by decide +kernel, rfl, by decide +kernel, by decide +kernel⟩
abbrev s_second : Stmt := topS 41
abbrev N_second : List Str := ["_law_first_here", "_law_second_here", "_law_draw", "_law_span_here", "_law_day", "_law_near", "_law_late", "_law_at", "_law_floor", "_law_kind"]
abbrev P_second : List Str := ["_law_first_here", "_law_second_here", "_law_draw"]
theorem sc_second : FnScope N_second P_second (defScope s_second) := ⟨rfl, rfl, rfl, by decide +kernel, rfl, by decide +kernel, by decide +kernel⟩
abbrev s_first_beyond : Stmt := topS 42
abbrev N_first_beyond : List Str := ["_law_first_here", "_law_second_here", "_law_day"]
abbrev P_first_beyond : List Str := ["_law_first_here", "_law_second_here"]
theorem sc_first_beyond : FnScope N_first_beyond P_first_beyond (defScope s_first_beyond) := ⟨rfl, rfl, rfl, by decide +kernel, rfl, by decide +kernel, by decide +kernel⟩
abbrev s_is : Stmt := topS 43
abbrev N_is : List Str := ["_law_found", "_law_due"]
abbrev P_is : List Str := ["_law_found", "_law_due"]
theorem sc_is : FnScope N_is P_is (defScope s_is) := ⟨rfl, rfl, rfl, by decide +kernel, rfl, by decide +kernel, by decide +kernel⟩
def ovr (ds : List Int) (m : Nat) : List Int := (List.range m).map fun (k : Nat) => dv ds (k : Int)
theorem ovr_len (ds : List Int) (m : Nat) : (ovr ds m).length = m := by
  unfold ovr
  rw [List.length_map, List.length_range]
theorem ovr_at {ds : List Int} {m i : Nat} (h : i < m) : (ovr ds m).getD i 0 = dv ds (i : Int) := by
  unfold ovr
  rw [List.getD_eq_getElem?_getD, List.getElem?_map, List.getElem?_range h]
  rfl
theorem ovr_of {ds : List Int} {k : Nat} (hp : 0 < ds.length) (hk : 0 < k) : Of (dv ds) (ovr ds (ds.length * k)) := by
  have h := of_dv hp
  refine ⟨?_, ?_, fun i hi => ?_⟩
  · rw [ovr_len]
    exact Nat.mul_pos hp hk
  · rw [ovr_len]
    intro d
    have := h.per.mul k d
    rw [Int.natCast_mul, Int.mul_comm]
    exact this
  · rw [ovr_len] at hi
    exact ovr_at hi
theorem Gd.step {ds : List Int} (g : Gd ds) (d : Int) : dv ds d ≤ dv ds (d + 1) := by
  have hp := g.pos
  have hn : 0 < (ds.length : Int) := by omega
  have h1 := Int.emod_nonneg d (show (ds.length : Int) ≠ 0 by omega)
  have h2 := Int.emod_lt_of_pos d hn
  have h3 := Int.emod_add_mul_ediv d (ds.length : Int)
  by_cases c : d % (ds.length : Int) + 1 < ds.length
  · have e1 : (d + 1) % (ds.length : Int) = d % (ds.length : Int) + 1 := by
      rw [Int.add_emod, Int.emod_eq_of_lt (a := 1) (by omega) (by omega), Int.emod_eq_of_lt (by omega) c]
    have e2 : (d + 1) / (ds.length : Int) = d / (ds.length : Int) := by
      have h4 := Int.emod_add_mul_ediv (d + 1) (ds.length : Int)
      rw [e1] at h4
      have h5 : (ds.length : Int) * ((d + 1) / (ds.length : Int)) = (ds.length : Int) * (d / (ds.length : Int)) := by omega
      exact Int.eq_of_mul_eq_mul_left (by omega) h5
    unfold dv
    rw [e1, e2]
    have := g.asc (d % (ds.length : Int)).toNat (by omega)
    rw [show (d % (ds.length : Int) + 1).toNat = (d % (ds.length : Int)).toNat + 1 by omega]
    omega
  · have e0 : d % (ds.length : Int) = ds.length - 1 := by omega
    have hper := (of_dv hp).per
    have e1 : d + 1 = 0 + (d / (ds.length : Int) + 1) * (ds.length : Int) := by
      rw [Int.add_mul, Int.one_mul, Int.mul_comm (d / _)]
      omega
    have e2 := hper.imul (d / (ds.length : Int) + 1) 0
    rw [← e1] at e2
    have e3 : dv ds 0 = ds.getD 0 0 := ((of_dv hp).at_ 0 hp).symm
    rw [e2, e3]
    unfold dv
    rw [e0, show ((ds.length : Int) - 1).toNat = ds.length - 1 by omega]
    have := g.fin
    rw [Int.add_mul, Int.one_mul, Int.mul_comm (ds.length : Int)]
    omega
theorem ovr_gd {ds : List Int} {k : Nat} (g : Gd ds) (hk : 0 < k) : Gd (ovr ds (ds.length * k)) := by
  have o := ovr_of g.pos hk
  refine ⟨o.pos, fun i hi => ?_, ?_⟩
  · rw [o.at_ i (by omega), o.at_ (i + 1) hi]
    exact Z.Gd.step g i
  · have hp := o.pos
    rw [o.at_ 0 hp, o.at_ _ (show (ovr ds (ds.length * k)).length - 1 < _ by omega)]
    have h1 := Z.Gd.step g (((ovr ds (ds.length * k)).length - 1 : Nat) : Int)
    have h2 := o.per 0
    rw [show (((ovr ds (ds.length * k)).length - 1 : Nat) : Int) + 1 = 0 + ((ovr ds (ds.length * k)).length : Int) by omega, h2] at h1
    exact h1
theorem getD_map_ {xs : List Int} {g : Int → Int} {i : Nat} (h : i < xs.length) : (xs.map g).getD i 0 = g (xs.getD i 0) := by
  rw [List.getD_eq_getElem?_getD, List.getElem?_map, List.getD_eq_getElem?_getD, List.getElem?_eq_getElem h]
  rfl
theorem Gd.shk {ds : List Int} (h : Gd ds) (k : Int) : Gd (ds.map fun x => x + k) := by
  have hp := h.pos
  have l : (ds.map fun x => x + k).length = ds.length := List.length_map ..
  refine ⟨by rw [l]; exact hp, fun i hi => ?_, ?_⟩
  · rw [l] at hi
    rw [getD_map_ (by omega), getD_map_ hi]
    have := h.asc i hi
    omega
  · rw [l, getD_map_ (by omega), getD_map_ hp]
    have := h.fin
    omega
theorem Gd.lower {ds : List Int} {i : Nat} (g : Gd ds) (hi : i < ds.length) (h : ds.getD i 0 > (if i = 0 then ds.getD (ds.length - 1) 0 - ds.length else ds.getD (i - 1) 0)) : Gd (ds.set i (ds.getD i 0 - 1)) := by
  have hp := g.pos
  have hf := g.fin
  refine ⟨by rw [List.length_set]; exact hp, fun j hj => ?_, ?_⟩
  · rw [List.length_set] at hj
    rw [getD_set_ (by omega), getD_set_ hj]
    have := g.asc j hj
    by_cases c : i = j
    · subst c
      rw [if_pos rfl, if_neg (by omega)]
      omega
    · rw [if_neg c]
      by_cases c2 : i = j + 1
      · subst c2
        rw [if_pos rfl]
        rw [if_neg (by omega), show j + 1 - 1 = j by omega] at h
        omega
      · rw [if_neg c2]
        exact this
  · rw [List.length_set, getD_set_ (by omega), getD_set_ hp]
    by_cases c : i = 0
    · subst c
      rw [if_pos rfl] at h
      rw [if_pos rfl]
      by_cases c2 : 0 = ds.length - 1
      · rw [if_pos c2]
        omega
      · rw [if_neg c2]
        omega
    · rw [if_neg c]
      by_cases c2 : i = ds.length - 1
      · rw [if_pos c2]
        subst c2
        omega
      · rw [if_neg c2]
        exact hf
section
variable {P : Program} {w : World} {K : PySem.W.Frag} {mg : Str → Option Value} {base : Heap} {f C CD CC CH : Addr} {fd : FuncData}
/-! ### span, is, first_beyond -/
def spSpan : Sp := fun vs H Q _ => ∃ (x y : Nat), vs = [.int (x : Int), .int (y : Int)] ∧ 0 < x ∧ 0 < y ∧ x ≤ 30000 ∧ y ≤ 30000 ∧ ∀ n : Nat, 0 < n → n ≤ x * y → n % x = 0 → n % y = 0 → Q (.int (n : Int)) H
theorem ok_span (F : FnP K "_law_span" s_span f fd) (m_int : mg "int" = none) (m_range : mg "range" = none) : FnOk P w K mg base CX0 1 f fd P_span spSpan := by
  refine F.ok sc_span (fun vs H Q E h => ?_) (fun cdv A outer s H vs Q E hr h => ?_)
  · obtain ⟨x, y, rfl, _⟩ := h
    rfl
  · obtain ⟨x, y, rfl, x0, y0, x1, y1, q⟩ := h
    refine ⟨_, PSs.nox (pss_cons (ps_set (i := 2) sc_span.nd rfl (by first | exact .inl rfl | exact .inr rfl) (pv 0))
      (pss_cons (ps_for PassesOwn.never rfl (pi_range1 (by rfl) m_range (pa_cons (pv 1) pa_nil)) (pg_name (i := 3) sc_span.nd rfl (by first | exact .inl rfl | exact .inr rfl))
        (pss_cons (ps_if (pt_cmpR op_eq (pe_op op_mod (pe_callTy call_int1 (by rfl) m_int (by decide +kernel) (pa_cons (pv 2) pa_nil)) (pv 1)) pe_int (nomark _)) (pss_one (ps_ret (pv 2))) pss_nil)
      (pss_one (ps_set (i := 2) sc_span.nd rfl (by first | exact .inl rfl | exact .inr rfl) (pe_op op_add (pv 2) (pv 0))))))
      (pss_one (ps_ret (pv 2))))), ?_⟩
    walk_at "go"
    refine for_gen (n := y) (fun i σ H1 => H1 = H ∧ i < y ∧ ∃ v3 : Option V, σ = [some (.int (x : Int)), some (.int (y : Int)), some (.int ((x * (i + 1) : Nat) : Int)), v3]) ⟨rfl, y0, none, by rw [Nat.zero_add, Nat.mul_one]; rfl⟩ ?_ ?_ ?_ ?_
    · intro i σ H1 hi _
      show i < (y : Int).toNat
      omega
    · intro σ H1 _
      show (y : Int).toNat ≤ y
      omega
    · rintro i σ H1 z H' hi ⟨rfl, hi2, v3, rfl⟩ ⟨rfl, rfl⟩
      walk_at "go"
      refine ite2 (fun e => ?_) (fun e => ?_)
      · have e := V.int.inj (of_decide_eq_true e)
        walk_at "go"
        exact q _ (Nat.mul_pos x0 (Nat.succ_pos _)) (Nat.mul_le_mul_left x hi2) (Nat.mul_mod_right _ _) (by
          have h : (((x * (i + 1)) % y : Nat) : Int) = 0 := by rw [Int.natCast_emod]; exact e
          omega)
      · walk_at "go"
        refine ⟨?_, some (.int (0 + (i : Int))), ?_⟩
        · apply Decidable.byContradiction
          intro z
          have : i + 1 = y := by omega
          refine e (decide_eq_true ?_)
          show V.int (((x * (i + 1) : Nat) : Int) % (y : Int)) = V.int 0
          rw [this, Int.natCast_mul, Int.mul_emod_left]
        · have e5 : ((x * (i + 1) : Nat) : Int) + (x : Int) = ((x * (i + 1 + 1) : Nat) : Int) := by
            rw [Nat.mul_succ x (i + 1), Int.natCast_add]
          rw [← e5]
          rfl
    · rintro σ H1 ⟨rfl, hi2, _⟩
      omega
def spIs : Sp := fun vs H Q _ => ∃ v : V, vs = [v, v] ∧ (v = .non ∨ ∃ i, v = .int i) ∧ Q (.bl true) H
theorem ok_is (F : FnP K "_law_is" s_is f fd) (c_same : Cal P w K mg base 2 "_law_same" spSame) : FnOk P w K mg base CX0 3 f fd P_is spIs := by
  refine F.ok sc_is (fun vs H Q E h => ?_) (fun cdv A outer s H vs Q E hr h => ?_)
  · obtain ⟨v, rfl, _⟩ := h
    rfl
  · obtain ⟨v, rfl, hv, q⟩ := h
    refine ⟨_, PSs.nox (pss_cons (ps_if (pt_cmpR op_isN (pv 1) pe_non (nomark _)) (pss_one (ps_ret (pe_cmpR op_isN (pv 0) pe_non (nomark _)))) pss_nil)
      (pss_one (ps_ret (pe_cl c_same hr (by decide) (by rfl) (pa_cons (pv 0) (pa_cons (pv 1) pa_nil)))))), ?_⟩
    rcases hv with rfl | ⟨i, rfl⟩
    · walk_at "go"
      exact q
    · walk_at "go"
      exact q
def spBey (K : PySem.W.Frag) : Sp := fun vs H Q _ => ∃ (a b : Addr) (ds es : List Int), vs = [.ref a, .ref b] ∧ SqL K H a (ds.map V.int) ∧ SqL K H b (es.map V.int) ∧ 0 < ds.length ∧ 0 < es.length ∧ ds.length ≤ 400 ∧ es.length ≤ 400 ∧ ∀ v, Bey (dv ds) (dv es) v → Q v H
theorem ok_first_beyond (F : FnP K "_law_first_beyond" s_first_beyond f fd) (m_len : mg "len" = none) (m_range : mg "range" = none) (c_span : Cal P w K mg base 1 "_law_span" spSpan) (c_value : Cal P w K mg base 1 "_law_value" (spValue K)) : FnOk P w K mg base CX0 2 f fd P_first_beyond (spBey K) := by
  refine F.ok sc_first_beyond (fun vs H Q E h => ?_) (fun cdv A outer s H vs Q E hr h => ?_)
  · obtain ⟨a, b, ds, es, rfl, _⟩ := h
    rfl
  · obtain ⟨a, b, ds, es, rfl, hA, hB, d0, e0, d1, e1, q⟩ := h
    refine ⟨_, PSs.nox (pss_cons (ps_for PassesOwn.never rfl (pi_range1 (by rfl) m_range (pa_cons (pe_cl c_span hr (by decide) (by rfl) (pa_cons (pe_callB call_len_seq (by rfl) m_len PySem.boot_len (pa_cons (pv 0) pa_nil)) (pa_cons (pe_callB call_len_seq (by rfl) m_len PySem.boot_len (pa_cons (pv 1) pa_nil)) pa_nil))) pa_nil)) (pg_name (i := 2) sc_first_beyond.nd rfl (by first | exact .inl rfl | exact .inr rfl))
        (pss_one (ps_if (pt_cmpR op_gt (pe_cl c_value hr (by decide) (by rfl) (pa_cons (pv 0) (pa_cons (pv 2) pa_nil))) (pe_cl c_value hr (by decide) (by rfl) (pa_cons (pv 1) (pa_cons (pv 2) pa_nil))) (nomark _)) (pss_one (ps_ret (pv 2))) pss_nil)))
      (pss_one (ps_ret pe_non))), ?_⟩
    walk_at "go"
    refine ⟨a, _, rfl, .inl (hA), ?_⟩
    rw [List.length_map]
    walk_at "go"
    refine ⟨b, _, rfl, .inl (hB), ?_⟩
    rw [List.length_map]
    walk_at "go"
    intro n n0 n1 n2 n3
    have n4 : n ≤ 160000 := Nat.le_trans n1 (Nat.mul_le_mul d1 e1)
    walk_at "go"
    refine for_gen (n := n) (fun i σ H3 => H3 = H ∧ (∀ e : Nat, e < i → ¬ dv ds e > dv es e) ∧ ∃ v2 : Option V, σ = [some (.ref a), some (.ref b), v2]) ⟨rfl, fun e h => absurd h (by omega), none, rfl⟩ ?_ ?_ ?_ ?_
    · intro i σ H3 hi _
      show i < (n : Int).toNat
      omega
    · intro σ H3 _
      show (n : Int).toNat ≤ n
      omega
    · rintro i σ H3 x H4 hi ⟨rfl, no, v2, rfl⟩ ⟨rfl, rfl⟩
      walk_at "go"
      refine ⟨a, ds, _, rfl, hA, d0, by omega, ?_⟩
      walk_at "go"
      refine ⟨b, es, _, rfl, hB, e0, by omega, ?_⟩
      walk_at "go"
      rw [show 0 + (i : Int) = (i : Int) by omega]
      refine ite2 (fun e => ?_) (fun e => ?_)
      · walk_at "go"
        exact q _ (.inl ⟨i, rfl, of_decide_eq_true e, no⟩)
      · refine ⟨rfl, fun e' he => ?_, _, rfl⟩
        by_cases c : e' = i
        · subst c
          exact fun z => e (decide_eq_true z)
        · exact no e' (by omega)
    · rintro σ H3 ⟨rfl, no, v2, rfl⟩
      walk_at "go"
      exact q _ (.inr ⟨rfl, none_of n0 ((of_dv d0).per.dvd n2) ((of_dv e0).per.dvd n3) no⟩)
/-! ### second -/
def spSecond (K : PySem.W.Frag) : Sp := fun vs H Q _ => ∃ (a b : Addr) (fs ss : List Int) (dr : Int), vs = [.ref a, .ref b, .int dr] ∧ SqL K H a (fs.map V.int) ∧ SqL K H b (ss.map V.int) ∧ Gd fs ∧ Gd ss ∧ fs.length ≤ 400 ∧ ss.length ≤ 400 ∧ fs.length * ss.length ≤ 30000 ∧ 0 ≤ dr ∧
  ∀ (L : Addr) H' (es : List Int) (M : Nat), Same H H' → H' L = some (.lst (es.map V.int)) → Gd es → es.length ≤ 400 → 0 < M → M ≤ 30000 → Per (dv fs) (M : Int) → Per (dv es) (M : Int) → Q (.ref L) H'
theorem ok_second (F : FnP K "_law_second" s_second f fd) (m_int : mg "int" = none) (m_len : mg "len" = none) (m_range : mg "range" = none) (m_max : mg "max" = none) (c_span : Cal P w K mg base 1 "_law_span" spSpan) (c_value : Cal P w K mg base 1 "_law_value" (spValue K)) : FnOk P w K mg base CX0 2 f fd P_second (spSecond K) := by
  refine F.ok sc_second (fun vs H Q E h => ?_) (fun cdv A outer s H vs Q E hr h => ?_)
  · obtain ⟨a, b, fs, ss, dr, rfl, _⟩ := h
    rfl
  · obtain ⟨a, b, fs, ss, dr, rfl, hA, hB, gF, gS, f1, s1, fs1, dr0, q⟩ := h
    refine ⟨_, PSs.nox (pss_cons (ps_set (i := 3) sc_second.nd rfl (by first | exact .inl rfl | exact .inr rfl) (pe_cl c_span hr (by decide) (by rfl) (pa_cons (pe_callB call_len_seq (by rfl) m_len PySem.boot_len (pa_cons (pv 0) pa_nil)) (pa_cons (pe_callB call_len_seq (by rfl) m_len PySem.boot_len (pa_cons (pv 1) pa_nil)) pa_nil))))
      (pss_cons (ps_set (i := 5) sc_second.nd rfl (by first | exact .inl rfl | exact .inr rfl) (pe_lc (own := [("_law_day", 4)]) (g := (gName 4)) (tt := tYes) (by rfl) sc_second.nd (pi_list (pv 1)) (blkOk_by (own := [("_law_day", 4)]) (N := N_second) (sc := defScope s_second) (by decide +kernel)) (fun _ _ _ _ _ => (pg_name (i := 4) sc_second.nd rfl (by first | exact .inl rfl | exact .inr rfl))) (fun _ _ _ _ _ => pts_nil) (fun _ _ _ _ _ => (pe_op op_sub (pe_op op_add (pe_op op_add (pe_op op_sub (pv 4) (pe_ix (ix_list_K (K := K) rfl) (pv 1) pe_int (fun _ _ => rfl))) (pe_ix (ix_list_K (K := K) rfl) (pv 0) pe_int (fun _ _ => rfl))) (pe_op op_mod (pe_callTy call_int1 (by rfl) m_int (by decide +kernel) (pa_cons (pe_op op_fdiv (pe_callTy call_int1 (by rfl) m_int (by decide +kernel) (pa_cons (pv 2) pa_nil)) pe_int) pa_nil)) pe_int)) pe_int))))
      (pss_cons (ps_setLc (i := 6) (own := [("_law_day", 4)]) (g := (gName 4)) (tt := tYes) (by rfl) sc_second.nd rfl rfl (sw_true rfl rfl rfl (by decide +kernel)) (pi_range1 (by rfl) m_range (pa_cons (pv 3) pa_nil)) (blkOk_by (own := [("_law_day", 4)]) (N := N_second) (sc := defScope s_second) (by decide +kernel)) (fun _ _ _ _ _ => (pg_name (i := 4) sc_second.nd rfl (by first | exact .inl rfl | exact .inr rfl))) (fun _ _ _ _ _ => pts_nil) (fun _ _ _ _ _ => (pe_callB (call_max2 rfl) (by rfl) m_max (by decide +kernel) (pa_cons (pe_cl c_value hr (by decide) (by rfl) (pa_cons (pv 0) (pa_cons (pv 4) pa_nil))) (pa_cons (pe_cl c_value hr (by decide) (by rfl) (pa_cons (pv 5) (pa_cons (pv 4) pa_nil))) pa_nil)))))
      (pss_cons (ps_set (i := 7) sc_second.nd rfl (by first | exact .inl rfl | exact .inr rfl) (pe_op op_mod (pe_callTy call_int1 (by rfl) m_int (by decide +kernel) (pa_cons (pe_op op_fdiv (pe_callTy call_int1 (by rfl) m_int (by decide +kernel) (pa_cons (pv 2) pa_nil)) pe_int) pa_nil)) (pv 3)))
      (pss_cons (ps_set (i := 8) sc_second.nd rfl (by first | exact .inl rfl | exact .inr rfl) (pe_op op_sub (pe_ix ix_list (pv 6) (pe_op op_sub (pv 3) pe_int) (fun _ _ => rfl)) (pv 3)))
      (pss_cut (ps_if (pt_cmpR op_gt (pv 7) pe_int (nomark _)) (pss_one (ps_set (i := 8) sc_second.nd rfl (by first | exact .inl rfl | exact .inr rfl) (pe_ix ix_list (pv 6) (pe_op op_sub (pv 7) pe_int) (fun _ _ => rfl)))) pss_nil)
      (pss_cons (ps_set (i := 9) sc_second.nd rfl (by first | exact .inl rfl | exact .inr rfl) (pe_op op_mod (pe_callTy call_int1 (by rfl) m_int (by decide +kernel) (pa_cons (pv 2) pa_nil)) pe_int))
      (pss_cons (ps_if (PW.pt (pw_or (pt_cmpR op_eq (pv 9) pe_int (nomark _)) (pw_or1 (pt_cmpR op_gt (pv 3) pe_int (nomark _))))) (pss_one (ps_ret (pv 5))) pss_nil)
      (pss_cut (ps_if (PW.pt (pw_and (pt_cmpR op_eq (pv 9) pe_int (nomark _)) (pw_and1 (pt_cmpR op_le (pe_callB call_len_seq (by rfl) m_len PySem.boot_len (pa_cons (pv 0) pa_nil)) pe_int (nomark _))))) (pss_one (ps_ret (pe_lc (own := [("_law_day", 4)]) (g := (gName 4)) (tt := tYes) (by rfl) sc_second.nd (pi_range1 (by rfl) m_range (pa_cons (pe_op op_mul pe_int (pe_callB call_len_seq (by rfl) m_len PySem.boot_len (pa_cons (pv 0) pa_nil))) pa_nil)) (blkOk_by (own := [("_law_day", 4)]) (N := N_second) (sc := defScope s_second) (by decide +kernel)) (fun _ _ _ _ _ => (pg_name (i := 4) sc_second.nd rfl (by first | exact .inl rfl | exact .inr rfl))) (fun _ _ _ _ _ => pts_nil) (fun _ _ _ _ _ => (pe_cl c_value hr (by decide) (by rfl) (pa_cons (pv 0) (pa_cons (pv 4) pa_nil))))))) pss_nil)
      (pss_cut (ps_if (PW.pt (pw_and (pt_cmpR op_eq (pv 9) pe_int (nomark _)) (pw_and1 (pt_cmpR op_gt (pe_ix ix_list (pv 6) (pv 7) (fun _ _ => rfl)) (pv 8) (nomark _))))) (pss_one (ps_asg (pe_op op_sub (pe_ix ix_list (pv 6) (pv 7) (fun _ _ => rfl)) pe_int) (pg_sub (pv 6) (pv 7) set_list))) pss_nil)
      (pss_one (ps_ret (pv 6))))))))))))), ?_⟩
    have f0 := gF.pos
    have s0 := gS.pos
    walk_at "go"
    refine ⟨a, _, rfl, .inl (hA), ?_⟩
    rw [List.length_map]
    walk_at "go"
    refine ⟨b, _, rfl, .inl (hB), ?_⟩
    rw [List.length_map]
    walk_at "go"
    intro n n0 n1 n2 n3
    have n4 : n ≤ 30000 := Nat.le_trans n1 fs1
    walk_at "go"
    refine ⟨⟨_, hB⟩, fun Ne nNe => ?_⟩
    refine lc_lst hB (fun x => x + (fs.getD 0 0 - ss.getD 0 0 + dr / 4 % 7 - 3)) (by omega) nNe (fun _ => rfl) ?_ ?_
    · intro x H1 Q1 hx s1' q1
      walk_at "go"
      refine rd_at (s1'.seq hB) (by decide) (by omega) ?_
      walk_at "go"
      refine rd_at (s1'.seq hA) (by decide) (by omega) ?_
      walk_at "go"
      have z := q1 _ (Same.refl _)
      rw [show x + (fs.getD 0 0 - ss.getD 0 0 + dr / 4 % 7 - 3) = x - ss.getD 0 0 + fs.getD 0 0 + dr / 4 % 7 - 3 by omega] at z
      exact z
    intro H1 t1 eN
    have gN := Gd.shk gS (fs.getD 0 0 - ss.getD 0 0 + dr / 4 % 7 - 3)
    have lN : (ss.map fun x => x + (fs.getD 0 0 - ss.getD 0 0 + dr / 4 % 7 - 3)).length = ss.length := List.length_map ..
    generalize ss.map (fun x => x + (fs.getD 0 0 - ss.getD 0 0 + dr / 4 % 7 - 3)) = nr at eN gN lN
    have p1 := of_dv f0
    have p2 := of_dv gN.pos
    have pa : Per (dv fs) (n : Int) := p1.per.dvd n2
    have pb : Per (dv nr) (n : Int) := p2.per.dvd (by rw [lN]; exact n3)
    walk_at "go"
    intro L nL
    refine lc_rng (K := K) (n := n) (fun k => max (dv fs (k : Int)) (dv nr (k : Int))) (by omega) nL (fun _ => rfl) ?_ ?_
    · intro k H2 Q1 hk s2 q1
      walk_at "go"
      refine ⟨a, fs, _, rfl, (t1.trans s2).seq hA, f0, by omega, ?_⟩
      walk_at "go"
      refine ⟨Ne, nr, _, rfl, SqL.of (s2 _ _ eN), gN.pos, by omega, ?_⟩
      have z := q1 _ (Same.refl _)
      rw [show max (dv fs (k : Int)) (dv nr (k : Int)) = if dv nr (0 + (k : Int)) > dv fs (0 + (k : Int)) then dv nr (0 + (k : Int)) else dv fs (0 + (k : Int)) by (rw [Int.zero_add]; split <;> omega)] at z
      exact ⟨_, _, rfl, z⟩
    intro H2 t2 eL
    have oL : Of (fun d => max (dv fs d) (dv nr d)) _ := of_range n0 (pa.max pb)
    have lL : ((List.range n).map fun (k : Nat) => max (dv fs (k : Int)) (dv nr (k : Int))).length = n := by rw [List.length_map, List.length_range]
    generalize (List.range n).map (fun (k : Nat) => max (dv fs (k : Int)) (dv nr (k : Int))) = ls at eL oL lL
    have gL := Gd.of oL ((Mon.dv gF).max (Mon.dv gN))
    have t12 := t1.trans t2
    have nHL : H L = none := by
      cases e : H L with
      | none => rfl
      | some o =>
        have := t1 L o e
        rw [nL] at this
        cases this
    walk_at "go"
    generalize eS : (fun i j : Int => V.int (i % j)) (dr / 28) (n : Int) = vS
    obtain ⟨at_, rfl, hat⟩ : ∃ k : Nat, vS = V.int (k : Int) ∧ k < n := by
      have a0 := Int.emod_nonneg (dr / 28) (show (n : Int) ≠ 0 by omega)
      have a1 := Int.emod_lt_of_pos (dr / 28) (show (0 : Int) < n by omega)
      obtain ⟨k, hk⟩ := Int.eq_ofNat_of_zero_le a0
      exact ⟨k, by rw [← eS, ← hk], by omega⟩
    clear eS
    walk_at "go"
    refine rd_at (SqL.of eL) (by omega) (by omega) ?_
    rw [show ((n : Int) - 1).toNat = n - 1 by omega]
    walk_at "go"
    dsimp only [List.set]
    refine ⟨fun σ' H' => H' = H2 ∧ σ' = [some (.ref a), some (.ref b), some (.int dr), some (.int (n : Int)), none, some (.ref Ne), some (.ref L), some (.int (at_ : Int)), some (.int (if at_ = 0 then ls.getD (ls.length - 1) 0 - ls.length else ls.getD (at_ - 1) 0)), none], ?_, ?_⟩
    · walk_at "go"
      refine ite2 (fun e => ?_) (fun e => ?_)
      · have e := of_decide_eq_true e
        walk_at "go"
        refine rd_at (SqL.of eL) (by omega) (by omega) ?_
        rw [show ((at_ : Int) - 1).toNat = at_ - 1 by omega, if_neg (by omega)]
        exact ⟨rfl, rfl⟩
      · have e : ¬ ((at_ : Int) > 0) := fun z => e (decide_eq_true z)
        have e : at_ = 0 := by omega
        rw [if_pos e, lL]
        exact ⟨rfl, rfl⟩
    rintro σ' H' ⟨rfl, rfl⟩
    have per_f := pa
    have per_n := pb
    have per_l : Per (dv ls) (n : Int) := fun d => by
      rw [oL.dv, oL.dv]
      exact (pa.max pb) d
    walk_at "go"
    have nearR : Q (.ref Ne) H' := q Ne _ nr (fs.length * ss.length) t12 (t2 _ _ eN) gN (by omega) (Nat.mul_pos f0 s0) fs1 (p1.per.dvd (Nat.mul_mod_right _ _)) (p2.per.dvd (by rw [lN]; exact Nat.mul_mod_left _ _))
    refine ite2 (fun e => ?_) (fun e => ?_)
    · refine ite2 (fun _ => ?_) (fun e => absurd rfl e)
      walk_at "go"
      exact nearR
    walk_at "go"
    refine ite2 (fun e2 => ?_) (fun e2 => ?_)
    · walk_at "go"
      exact nearR
    have e2 : ¬ ((n : Int) > 400) := fun z => e2 (decide_eq_true z)
    have n5 : n ≤ 400 := by omega
    clear nearR
    refine ⟨fun σ' H2 => H2 = H' ∧ σ' = [some (.ref a), some (.ref b), some (.int dr), some (.int (n : Int)), none, some (.ref Ne), some (.ref L), some (.int (at_ : Int)), some (.int (if at_ = 0 then ls.getD (ls.length - 1) 0 - ls.length else ls.getD (at_ - 1) 0)), some (.int (dr % 4))], ?_, ?_⟩
    · walk_at "go"
      refine ite2 (fun e => ?_) (fun e => ?_)
      · walk_at "go"
        refine ⟨a, _, rfl, .inl (t12.seq hA), ?_⟩
        rw [List.length_map]
        walk_at "go"
        refine ite2 (fun e => ?_) (fun e => ?_)
        · have e := of_decide_eq_true e
          walk_at "go"
          refine ⟨a, _, rfl, .inl (t12.seq hA), ?_⟩
          rw [List.length_map]
          walk_at "go"
          intro R nR
          rw [show (2 * (fs.length : Int)).toNat = fs.length * 2 by omega]
          refine lc_rng (K := K) (n := fs.length * 2) (fun k => dv fs (k : Int)) (by omega) nR (fun _ => rfl) ?_ ?_
          · intro k H3 Q1 hk s3 q1
            walk_at "go"
            refine ⟨a, fs, _, rfl, (t12.trans s3).seq hA, f0, by omega, ?_⟩
            rw [Int.zero_add]
            exact q1 _ (Same.refl _)
          intro H3 s3 eR
          have gR := ovr_gd (k := 2) gF (by decide)
          have oR := ovr_of (k := 2) f0 (by decide)
          have lR := ovr_len fs (fs.length * 2)
          have fR : dv (ovr fs (fs.length * 2)) = dv fs := funext oR.dv
          refine q R H3 (ovr fs (fs.length * 2)) fs.length (t12.trans s3) eR gR (by rw [lR]; omega) f0 (by omega) p1.per (by rw [fR]; exact p1.per)
        · exact ⟨rfl, rfl⟩
      · exact ⟨rfl, rfl⟩
    rintro σ' H3 ⟨rfl, rfl⟩
    walk_at "go"
    refine ⟨fun σ' H2 => Same H H2 ∧ (∃ es : List Int, H2 L = some (.lst (es.map V.int)) ∧ Gd es ∧ es.length = n) ∧ σ' = [some (.ref a), some (.ref b), some (.int dr), some (.int (n : Int)), none, some (.ref Ne), some (.ref L), some (.int (at_ : Int)), some (.int (if at_ = 0 then ls.getD (ls.length - 1) 0 - ls.length else ls.getD (at_ - 1) 0)), some (.int (dr % 4))], ?_, ?_⟩
    · walk_at "go"
      refine ite2 (fun e => ?_) (fun e => ?_)
      · walk_at "go"
        refine rd_at (SqL.of eL) (by omega) (by omega) ?_
        rw [Int.toNat_natCast]
        walk_at "go"
        refine ite2 (fun e => ?_) (fun e => ?_)
        · have e := of_decide_eq_true e
          walk_at "go"
          refine rd_at (SqL.of eL) (by omega) (by omega) ?_
          rw [Int.toNat_natCast]
          walk_at "go"
          refine ⟨L, _, _, at_, rfl, rfl, eL, (by unfold ixN; rw [List.length_map, if_pos (by omega), if_pos (by omega)]; rfl), ?_⟩
          refine ⟨Z.Same.mut t12 nHL, ⟨ls.set at_ (ls.getD at_ 0 - 1), ?_, Z.Gd.lower gL (by omega) e, by rw [List.length_set]; exact lL⟩, rfl⟩
          rw [upd_same, List.map_set]
        · exact ⟨t12, ⟨ls, eL, gL, lL⟩, rfl⟩
      · exact ⟨t12, ⟨ls, eL, gL, lL⟩, rfl⟩
    rintro σ' H4 ⟨s4, ⟨es, eE, gE, lE⟩, rfl⟩
    walk_at "go"
    have pe := (of_dv gE.pos).per
    rw [lE] at pe
    exact q L H4 es n s4 eE gE (by omega) n0 n4 pa pe
end
end Z
set_option pp.maxSteps 700
set_option Elab.async false
set_option linter.all false
set_option maxRecDepth 100000
set_option maxHeartbeats 4000000
namespace Z
open Dy
open PySem PySem.Spec PyProof.Rows L2
open C8 (pss_cut tCut)
local macro_rules | `(tactic| walk_at "num") => `(tactic| first | rfl | omega | decide | exact Nat.le_of_lt (small1000 (by simp)) | exact ⟨by omega, by omega⟩ | exact ⟨by omega, by omega, by omega⟩ | exact ⟨by decide, by decide, by decide⟩ | exact Or.inl ⟨by omega, by omega⟩ | exact Or.inr ⟨by omega, by omega⟩)
local macro_rules | `(tactic| walk_at "go") => `(tactic| repeat (first | refine ⟨_, rfl, ?_⟩ | refine ⟨_, _, rfl, rfl, ?_⟩ | refine ⟨_, _, rfl, ?_⟩ | (refine ⟨_, _, rfl, rfl, ?_, ?_⟩; focus walk_at "num") | refine Or.inl ⟨_, rfl, ?_⟩ | refine ⟨_, _, _, _, rfl, rfl, (by assumption), (by rfl), ?_⟩ | refine ⟨_, _, _, _, _, rfl, (by assumption), (by assumption), (by assumption), (by rfl), ?_⟩ | refine ⟨rfl, ?_⟩ | (refine And.intro ?_ ?_; focus walk_at "num")))
abbrev s_one : Stmt := topS 44
abbrev N_one : List Str := ["_law_script", "_law_draws_here", "_law_period", "_law_good_here", "_law_twice", "_law_k", "_law_passed", "_law_after", "_law_before", "_law_step", "_law_moved", "_law_count", "_law_counted_here", "_law_back", "_law_soon", "_law_earlier", "_law_asked_here", "_law_day", "_law_flags"]
abbrev P_one : List Str := ["_law_script"]
theorem sc_one : FnScope N_one P_one (defScope s_one) := ⟨rfl, rfl, rfl, by decide +kernel, rfl, by decide +kernel, by decide +kernel⟩
theorem op_isntB {X : Cx} : OpR X (compareOp .IsNot) (fun x y H Q => ∃ a b, x = .bl a ∧ y = .bl b ∧ Q (.bl (!decide (a = b))) H) := by
  intro pins s σ H x y v u Q I rx ry h
  obtain ⟨a, b, rfl, rfl, q⟩ := h
  cases (show v = Value.bool a from rx)
  cases (show u = Value.bool b from ry)
  exact wpAny_isNot_plain rfl (fin_bl I q (by cases a <;> cases b <;> rfl))
theorem RuleAt.sb {C m : Addr} {K : PySem.W.Frag} {H H' : Hp} {n : Addr} {ds : List Int} {ys : List V} (s : SB m H H') (hm : H m = some (.lst ys)) (h : RuleAt C K H n ds) : RuleAt C K H' n ds := by
  obtain ⟨dx, t, e, h2⟩ := h
  have ne : ∀ {a : Addr} {o : HO}, H a = some o → (∀ ys, o ≠ .lst ys) → a ≠ m := fun e z w => by
    rw [w, hm] at e
    exact z _ (Option.some.inj e).symm
  exact ⟨dx, t, s _ _ (ne e fun _ => nofun) e, s _ _ (ne h2 fun _ => nofun) h2⟩
theorem RuleF.sb {C m : Addr} {K : PySem.W.Frag} {H H' : Hp} {n : Addr} {M : Nat} {F : Int → Int} {ys : List V} (s : SB m H H') (hm : H m = some (.lst ys)) (h : RuleF C K H n M F) : RuleF C K H' n M F := by
  obtain ⟨⟨ds, a, b⟩, c, d⟩ := h
  exact ⟨⟨ds, Z.RuleAt.sb s hm a, b⟩, c, d⟩
theorem RuleF.same {C : Addr} {K : PySem.W.Frag} {H : Hp} {n m : Addr} {M N : Nat} {F G : Int → Int} (a : RuleF C K H n M F) (b : RuleF C K H m N G) (e : ∀ d, F d = G d) : ∃ ds, RuleAt C K H n ds ∧ RuleAt C K H m ds ∧ Of F ds ∧ Lp F ds.length := by
  have e2 : F = G := funext e
  subst e2
  obtain ⟨⟨ds, r, o, l⟩, _, _⟩ := a
  obtain ⟨⟨es, r2, o2, l2⟩, _, _⟩ := b
  have := o.eq o2 (l.uniq l2)
  subst this
  exact ⟨ds, r, r2, o, l⟩
theorem RuleF.shift1 {C : Addr} {K : PySem.W.Frag} {H : Hp} {n : Addr} {M : Nat} {c : Int} (h : RuleF C K H n M (fun d => d + c)) : RuleAt C K H n [c] := by
  obtain ⟨⟨ds, r, o, l⟩, _, _⟩ := h
  have h1 := l.least 1 (by decide) (fun d => by show d + ((1 : Nat) : Int) + c = d + c + ((1 : Nat) : Int); omega)
  have h2 := l.pos
  have e : ds = [c] := o.eq (F := fun d => d + c) ⟨by simp, fun d => (by show d + ((1 : Nat) : Int) + c = d + c + ((1 : Nat) : Int); omega), fun i hi => by
    obtain rfl : i = 0 := by simpa using hi
    show c = 0 + c
    omega⟩ (by simp; omega)
  rw [← e]
  exact r
theorem rd_call {C : Addr} {K : PySem.W.Frag} {H : Hp} {n : Addr} {M : Nat} {F : Int → Int} {d : Int} {Q : VK} {E : XK} (h : RuleF C K H n M F) (m0 : 0 < M) (m1 : M ≤ 30000) (q : Q (.int (F d)) H) : (∃ dx fs, H n = some (.ins C dx fs)) ∧ spCallR C K (.ref n :: ([.int d] ++ [])) H Q E := by
  obtain ⟨⟨es, rR, oR, lR⟩, pR, mR⟩ := h
  have les := lp_le lR m0 pR
  obtain ⟨dz, u, c1, c2⟩ := id rR
  exact ⟨⟨_, _, c1⟩, n, es, d, rfl, rR, oR.pos, by omega, by rw [oR.dv]; exact q⟩
theorem lc_rngV {K : PySem.W.Frag} {lo : Int} {D : Addr} {n : Nat} {H0 : Hp} {i : Nat} {te : TE} {vs : List Nat} {σ : L2.St} {Qd : Hp → Prop} (g : Nat → V) (hn : n ≤ 1000000) (nD : H0 D = none) (hw : ∀ k : Nat, wipe ((wipe σ vs).set i (some (.int (lo + k)))) vs = wipe σ vs)
    (ht : ∀ (k : Nat) H1 (Q : VK), k < n → Same H0 H1 → (∀ H2, Same H1 H2 → Q (g k) H2) → te ((wipe σ vs).set i (some (.int (lo + k)))) H1 Q)
    (hd : ∀ H1, Same H0 H1 → H1 D = some (.lst ((List.range n).map g)) → Qd H1) : lcW (Itr lo n) (gName i) tYes te vs σ D Qd H0 := by
  refine lc_flt (fun k => .int (lo + k)) (fun _ => true) g hn nD (fun k H1 hk _ => hk) (fun H1 _ => Nat.le_refl _) (fun k H1 x H2 _ _ y => ⟨by rw [y.1]; exact Same.refl _, y.2⟩) hw (fun k H1 Q hk s q => q _ (Same.refl _)) (fun k H1 Q hk _ s q => ht k H1 Q hk s q) (fun H1 s e => hd H1 s ?_)
  rw [e]
  unfold fltL
  rw [List.filter_eq_self.mpr (fun _ _ => rfl)]
theorem cut_map (xs : List Int) (lo hi : Option Int) : ∃ ys : List Int, cutV (xs.map V.int) lo hi = ys.map V.int ∧ ys.length ≤ xs.length := by
  refine ⟨(xs.drop (HT.sIx xs.length 0 lo)).take (HT.sIx xs.length xs.length hi - HT.sIx xs.length 0 lo), ?_, ?_⟩
  · unfold cutV
    rw [List.length_map, List.map_take, List.map_drop]
  · rw [List.length_take, List.length_drop]
    omega
section
variable {P : Program} {w : World} {K : PySem.W.Frag} {mg : Str → Option Value} {base : Heap} {f C CD CC CH : Addr} {fd : FuncData}
def spOne (K : PySem.W.Frag) : Sp := fun vs H Q _ => ∃ (a : Addr) (ns : List Int), vs = [.ref a] ∧ SqL K H a (ns.map V.int) ∧ ns.length ≤ 63 ∧ ∀ H', Same H H' → Q (.bl true) H'
theorem ok_one (F : FnP K "_law_one" s_one f fd) (isC : C8.InsC K C) (m_isinstance : mg "isinstance" = none) (g_DayRule : mg "DayRule" = some (.ref C)) (m_int : mg "int" = none) (m_len : mg "len" = none) (m_list : mg "list" = none) (m_range : mg "range" = none) (cls : Cls K C) (n_days : NoAttr K C "days")
    (c_draws : Cal P w K mg base 1 "_law_draws" spDraws) (c_cell : Cal P w K mg base 1 "_law_cell" (spCell K)) (c_good : Cal P w K mg base 2 "_law_good" (spGood K)) (c_asked : Cal P w K mg base 2 "_law_asked" (spAsked K)) (c_row_is : Cal P w K mg base 3 "_law_row_is" (spRow K)) (c_same : Cal P w K mg base 2 "_law_same" spSame) (c_next : Cal P w K mg base 1 "_law_next" (spNextL K)) (c_last : Cal P w K mg base 1 "_law_last" (spLastL K)) (c_counted : Cal P w K mg base 2 "_law_counted" (spCcounted K)) (c_counted_back : Cal P w K mg base 2 "_law_counted_back" (spCcounted_back K)) (c_refusals_hold : Cal P w K mg base 8 "_law_refusals_hold" (spRefH K))
    (c_shift : Cal P w K mg base 6 "shift" (spShift C K)) (c_next_good : CalX P w K mg base 6 "next_good" (spNextG C CD K)) (c_last_good : CalX P w K mg base 6 "last_good" (spLastG C CD K)) (co_call : Cob P w K mg base 2 C (spCallR C K)) (e_DayRule : Eqo P w K mg base 1 C (spEqR C K)) (me_latest : Met P w K mg base 6 C "latest" (spLatest C K)) (me_soonest : Met P w K mg base 6 C "soonest" (spSoonest C K)) (o_rshift : Bin2 P w K mg base 6 C "__rshift__" (spOp C K fun F G d => G (F d))) (o_mul : BinI P w K mg base 6 C .Mult (spMul C CC K)) : FnOk P w K mg base CX0 9 f fd P_one (spOne K) := by
  refine F.ok sc_one (fun vs H Q E h => ?_) (fun cdv A outer s H vs Q E hr h => ?_)
  · obtain ⟨a, ns, rfl, _⟩ := h
    rfl
  · obtain ⟨a, ns, rfl, hS, hl, q⟩ := h
    refine ⟨_, PSs.nox (pss_cons (ps_set (i := 1) sc_one.nd rfl (by first | exact .inl rfl | exact .inr rfl) (pe_cl c_draws hr (by decide) (by rfl) (pa_cons (pe_cl c_cell hr (by decide) (by rfl) (pa_cons (pv 0) (pa_cons pe_int pa_nil))) (pa_cons pe_int pa_nil))))
      (pss_cons (ps_set (i := 2) sc_one.nd rfl (by first | exact .inl rfl | exact .inr rfl) (pe_op op_add pe_int (pe_op op_mod (pe_callTy call_int1 (by rfl) m_int (by decide +kernel) (pa_cons (pe_ix ix_list (pv 1) pe_int (fun _ _ => rfl)) pa_nil)) pe_int)))
      (pss_cut (ps_if (pt_cmpR op_eq (pe_op op_mod (pe_callTy call_int1 (by rfl) m_int (by decide +kernel) (pa_cons (pe_cl c_cell hr (by decide) (by rfl) (pa_cons (pv 0) (pa_cons pe_int pa_nil))) pa_nil)) pe_int) pe_int (nomark _)) (pss_one (ps_set (i := 2) sc_one.nd rfl (by first | exact .inl rfl | exact .inr rfl) (pe_op op_add pe_int (pe_op op_mod (pe_callTy call_int1 (by rfl) m_int (by decide +kernel) (pa_cons (pe_ix ix_list (pv 1) pe_int (fun _ _ => rfl)) pa_nil)) pe_int)))) pss_nil)
      (pss_cons (ps_set (i := 3) sc_one.nd rfl (by first | exact .inl rfl | exact .inr rfl) (pe_cl c_good hr (by decide) (by rfl) (pa_cons (pv 1) (pa_cons (pv 2) pa_nil))))
      (pss_cons (ps_set (i := 4) sc_one.nd rfl (by first | exact .inl rfl | exact .inr rfl) (pe_callTy call_list_of (by rfl) m_list (by decide +kernel) (pa_cons (pv 3) pa_nil)))
      (pss_cons (ps_for PassesOwn.never rfl (pi_range1 (by rfl) m_range (pa_cons (pe_op op_mod (pe_callTy call_int1 (by rfl) m_int (by decide +kernel) (pa_cons (pe_ix ix_list (pv 1) pe_int (fun _ _ => rfl)) pa_nil)) pe_int) pa_nil)) (pg_name (i := 5) sc_one.nd rfl (by first | exact .inl rfl | exact .inr rfl))
        (pss_one (ps_expr (pe_bm PySem.F.plainAttrs_list PySem.F.slot_list_append PySem.F.type_list_append mt_append (pv 4) (pa_cons (pe_ix ix_list (pv 3) (pe_op op_mod (pe_callTy call_int1 (by rfl) m_int (by decide +kernel) (pa_cons (pe_ix ix_list (pv 1) (pe_op op_add pe_int (pv 5)) (fun _ _ => rfl)) pa_nil)) (pe_callB call_len_seq (by rfl) m_len PySem.boot_len (pa_cons (pv 3) pa_nil))) (fun _ _ => rfl)) pa_nil)))))
      (pss_cons (ps_set (i := 6) sc_one.nd rfl (by first | exact .inl rfl | exact .inr rfl) (pe_callTy call_list_of (by rfl) m_list (by decide +kernel) (pa_cons (pv 4) pa_nil)))
      (pss_cons (ps_set (i := 7) sc_one.nd rfl (by first | exact .inl rfl | exact .inr rfl) (pe_clE c_next_good (fun _ => passS0) hr (by decide) (by rfl) (pa_cons (pv 2) (pa_cons (pv 6) pa_nil))))
      (pss_cons (ps_set (i := 8) sc_one.nd rfl (by first | exact .inl rfl | exact .inr rfl) (pe_clE c_last_good (fun _ => passS0) hr (by decide) (by rfl) (pa_cons (pv 2) (pa_cons (pv 6) pa_nil))))
      (pss_cons (ps_if (PW.pt (pw_or (pt_cmpR (op_neD hr.units) (pv 6) (pv 4) (nomark _)) (pw_or1 (pt_not (pt_val (pe_cl c_refusals_hold hr (by decide) (by rfl) (pa_cons (pv 2) (pa_cons (pv 4) (pa_cons (pv 1) pa_nil))))))))) (pss_one (ps_ret pe_bl)) pss_nil)
      (pss_cons (ps_asg pe_int (pg_sub (pv 6) pe_int set_list))
      (pss_cons (ps_expr (pe_bm PySem.F.plainAttrs_list PySem.F.slot_list_append PySem.F.type_list_append mt_append (pv 6) (pa_cons pe_int pa_nil)))
      (pss_cons (ps_set (i := 9) sc_one.nd rfl (by first | exact .inl rfl | exact .inr rfl) (pe_op op_sub (pe_op op_mod (pe_callTy call_int1 (by rfl) m_int (by decide +kernel) (pa_cons (pe_cl c_cell hr (by decide) (by rfl) (pa_cons (pv 0) (pa_cons pe_int pa_nil))) pa_nil)) (pe_op op_add (pe_op op_mul pe_int (pe_op op_pow pe_int pe_int)) pe_int)) (pe_op op_pow pe_int pe_int)))
      (pss_cons (ps_set (i := 10) sc_one.nd rfl (by first | exact .inl rfl | exact .inr rfl) (pe_cl c_shift hr (by decide) (by rfl) (pa_cons (pv 9) pa_nil)))
      (pss_cons (ps_if (PW.pt (pw_or (pt_not (pt_val (pe_callB (C8.call_isC isC) (by rfl) m_isinstance (by decide +kernel) (pa_cons (pv 7) (pa_cons (pe_glob (by rfl) g_DayRule relv_ref) pa_nil))))) (pw_or (pt_not (pt_val (pe_callB (C8.call_isC isC) (by rfl) m_isinstance (by decide +kernel) (pa_cons (pv 8) (pa_cons (pe_glob (by rfl) g_DayRule relv_ref) pa_nil))))) (pw_or1 (pt_not (pt_val (pe_cl c_row_is hr (by decide) (by rfl) (pa_cons (pe_fld (pv 10) rfl) (pa_cons (pe_lst (pa_cons (pv 9) pa_nil)) pa_nil))))))))) (pss_one (ps_ret pe_bl)) pss_nil)
      (pss_cons (ps_if (PW.pt (pw_or (pt_cmpR op_isntB (pe_cmpR (op_own e_DayRule hr (by decide)) (pe_me0 me_latest (pv 7) hr (by decide)) (pv 8) (nomark _)) pe_bl (nomark _)) (pw_or1 (pt_cmpR op_isntB (pe_cmpR (op_own e_DayRule hr (by decide)) (pe_me0 me_soonest (pv 8) hr (by decide)) (pv 7) (nomark _)) pe_bl (nomark _))))) (pss_one (ps_ret pe_bl)) pss_nil)
      (pss_cons (ps_set (i := 11) sc_one.nd rfl (by first | exact .inl rfl | exact .inr rfl) (pe_op op_mod (pe_callTy call_int1 (by rfl) m_int (by decide +kernel) (pa_cons (pe_op op_fdiv (pe_callTy call_int1 (by rfl) m_int (by decide +kernel) (pa_cons (pe_cl c_cell hr (by decide) (by rfl) (pa_cons (pv 0) (pa_cons pe_int pa_nil))) pa_nil)) pe_int) pa_nil)) pe_int))
      (pss_cut (ps_if (pt_cmpR op_eq (pe_op op_mod (pe_callTy call_int1 (by rfl) m_int (by decide +kernel) (pa_cons (pe_op op_fdiv (pe_callTy call_int1 (by rfl) m_int (by decide +kernel) (pa_cons (pe_cl c_cell hr (by decide) (by rfl) (pa_cons (pv 0) (pa_cons pe_int pa_nil))) pa_nil)) pe_int) pa_nil)) pe_int) pe_int (nomark _)) (pss_one (ps_set (i := 11) sc_one.nd rfl (by first | exact .inl rfl | exact .inr rfl) (pe_op op_mod (pe_callTy call_int1 (by rfl) m_int (by decide +kernel) (pa_cons (pe_op op_fdiv (pe_callTy call_int1 (by rfl) m_int (by decide +kernel) (pa_cons (pe_cl c_cell hr (by decide) (by rfl) (pa_cons (pv 0) (pa_cons pe_int pa_nil))) pa_nil)) pe_int) pa_nil)) (pe_op op_add (pe_op op_pow pe_int pe_int) pe_int)))) pss_nil)
      (pss_cons (ps_set (i := 12) sc_one.nd rfl (by first | exact .inl rfl | exact .inr rfl) (pe_opE o_mul (fun _ => passS0) hr (by decide) (pe_op (op_bin o_rshift hr (by decide)) (pe_cl c_shift hr (by decide) (by rfl) (pa_cons pe_int pa_nil)) (pv 7)) (pv 11)))
      (pss_cons (ps_set (i := 13) sc_one.nd rfl (by first | exact .inl rfl | exact .inr rfl) (pe_opE o_mul (fun _ => passS0) hr (by decide) (pe_op (op_bin o_rshift hr (by decide)) (pe_cl c_shift hr (by decide) (by rfl) (pa_cons (pe_op op_sub pe_int pe_int) pa_nil)) (pv 8)) (pv 11)))
      (pss_cons (ps_set (i := 14) sc_one.nd rfl (by first | exact .inl rfl | exact .inr rfl) (pe_me0 me_soonest (pv 7) hr (by decide)))
      (pss_cons (ps_set (i := 15) sc_one.nd rfl (by first | exact .inl rfl | exact .inr rfl) (pe_op (op_bin o_rshift hr (by decide)) (pe_op (op_bin o_rshift hr (by decide)) (pe_cl c_shift hr (by decide) (by rfl) (pa_cons (pe_op op_sub pe_int pe_int) pa_nil)) (pv 8)) (pe_cl c_shift hr (by decide) (by rfl) (pa_cons pe_int pa_nil))))
      (pss_cons (ps_set (i := 16) sc_one.nd rfl (by first | exact .inl rfl | exact .inr rfl) (pe_cl c_asked hr (by decide) (by rfl) (pa_cons (pv 0) (pa_cons pe_int pa_nil))))
      (pss_cut (ps_if (pt_cmpR op_gt (pv 2) pe_int (nomark _)) (pss_one (ps_set (i := 16) sc_one.nd rfl (by first | exact .inl rfl | exact .inr rfl) (pe_slice sl_list (pv 16) po_none (po_some pe_int)))) pss_nil)
      (pss_cons (ps_setLc (i := 18) (own := [("_law_day", 17)]) (g := (gName 17)) (tt := tYes) (by rfl) sc_one.nd rfl rfl (sw_true rfl rfl rfl (by decide +kernel)) (pi_range1 (by rfl) m_range (pa_cons (pv 2) pa_nil)) (blkOk_by (own := [("_law_day", 17)]) (N := N_one) (sc := defScope s_one) (by decide +kernel)) (fun _ _ _ _ _ => (pg_name (i := 17) sc_one.nd rfl (by first | exact .inl rfl | exact .inr rfl))) (fun _ _ _ _ _ => pts_nil) (fun _ _ _ _ _ => (pe_cmpR (op_in_seq_K (K := K) rfl) (pv 17) (pv 3) (by rfl))))
      (pss_cons (ps_for PassesOwn.never rfl (pi_list (pv 16)) (pg_name (i := 17) sc_one.nd rfl (by first | exact .inl rfl | exact .inr rfl))
        (pss_cons (ps_if (PW.pt (pw_or (pt_not (pt_val (pe_cl c_same hr (by decide) (by rfl) (pa_cons (pe_co co_call (pv 7) hr (by decide) (pa_cons (pv 17) pa_nil)) (pa_cons (pe_cl c_next hr (by decide) (by rfl) (pa_cons (pv 18) (pa_cons (pv 17) pa_nil))) pa_nil))))) (pw_or1 (pt_not (pt_val (pe_cl c_same hr (by decide) (by rfl) (pa_cons (pe_co co_call (pv 8) hr (by decide) (pa_cons (pv 17) pa_nil)) (pa_cons (pe_cl c_last hr (by decide) (by rfl) (pa_cons (pv 18) (pa_cons (pv 17) pa_nil))) pa_nil)))))))) (pss_one (ps_ret pe_bl)) pss_nil)
      (pss_cons (ps_if (pt_not (pt_val (pe_cl c_same hr (by decide) (by rfl) (pa_cons (pe_co co_call (pv 10) hr (by decide) (pa_cons (pv 17) pa_nil)) (pa_cons (pe_op op_add (pv 17) (pv 9)) pa_nil))))) (pss_one (ps_ret pe_bl)) pss_nil)
      (pss_cons (ps_if (pt_not (pt_val (pe_cl c_same hr (by decide) (by rfl) (pa_cons (pe_co co_call (pv 12) hr (by decide) (pa_cons (pv 17) pa_nil)) (pa_cons (pe_cl c_counted hr (by decide) (by rfl) (pa_cons (pv 18) (pa_cons (pe_callB call_len_seq (by rfl) m_len PySem.boot_len (pa_cons (pv 3) pa_nil)) (pa_cons (pv 17) (pa_cons (pv 11) pa_nil))))) pa_nil))))) (pss_one (ps_ret pe_bl)) pss_nil)
      (pss_cons (ps_if (pt_not (pt_val (pe_cl c_same hr (by decide) (by rfl) (pa_cons (pe_co co_call (pv 13) hr (by decide) (pa_cons (pv 17) pa_nil)) (pa_cons (pe_cl c_counted_back hr (by decide) (by rfl) (pa_cons (pv 18) (pa_cons (pe_callB call_len_seq (by rfl) m_len PySem.boot_len (pa_cons (pv 3) pa_nil)) (pa_cons (pv 17) (pa_cons (pv 11) pa_nil))))) pa_nil))))) (pss_one (ps_ret pe_bl)) pss_nil)
      (pss_one (ps_if (PW.pt (pw_or (pt_not (pt_val (pe_cl c_same hr (by decide) (by rfl) (pa_cons (pe_co co_call (pv 14) hr (by decide) (pa_cons (pv 17) pa_nil)) (pa_cons (pe_co co_call (pv 15) hr (by decide) (pa_cons (pv 17) pa_nil)) pa_nil))))) (pw_or1 (pt_not (pt_val (pe_cl c_same hr (by decide) (by rfl) (pa_cons (pe_co co_call (pv 7) hr (by decide) (pa_cons (pv 17) pa_nil)) (pa_cons (pe_cl c_next hr (by decide) (by rfl) (pa_cons (pv 18) (pa_cons (pv 17) pa_nil))) pa_nil)))))))) (pss_one (ps_ret pe_bl)) pss_nil)))))))
      (pss_one (ps_ret pe_bl)))))))))))))))))))))))))))), ?_⟩
    walk_at "go"
    refine ⟨a, ns, 0, rfl, hS, ?_⟩
    walk_at "go"
    intro D ds nD hd
    have sD := same_new (o := .lst (ds.map V.int)) nD
    have eD := upd_same (H := H) (a := D) (o := .lst (ds.map V.int))
    generalize upd H D (.lst (ds.map V.int)) = H1 at sD eD ⊢
    have lds : ds.length = 60 := hd.1
    obtain ⟨x0, x1⟩ := dr_at hd (k := 56) (by decide)
    obtain ⟨y0, y1⟩ := dr_at hd (k := 57) (by decide)
    walk_at "go"
    refine rd_at (SqL.of eD) (by decide) (by omega) ?_
    rw [show (56 : Int).toNat = 56 from rfl]
    walk_at "go"
    refine ⟨fun σ' H' => H' = H1 ∧ ∃ M : Nat, 0 < M ∧ M ≤ 400 ∧ σ' = [some (.ref a), some (.ref D), some (.int (M : Int)), none, none, none, none, none, none, none, none, none, none, none, none, none, none, none, none], ?_, ?_⟩
    · walk_at "go"
      refine ⟨a, ns, 1, rfl, sD.seq hS, ?_⟩
      walk_at "go"
      refine ite2 (fun e => ?_) (fun e => ?_)
      · walk_at "go"
        refine rd_at (SqL.of eD) (by decide) (by omega) ?_
        rw [show (56 : Int).toNat = 56 from rfl]
        walk_at "go"
        refine ⟨(1 + ds.getD 56 0 % 400).toNat, by omega, by omega, ?_⟩
        rw [Int.toNat_of_nonneg (by omega)]
        rfl
      · refine ⟨rfl, (1 + ds.getD 56 0 % 9).toNat, by omega, by omega, ?_⟩
        rw [Int.toNat_of_nonneg (by omega)]
        rfl
    rintro σ' H' ⟨rfl, M, m0, m1, rfl⟩
    walk_at "go"
    refine ⟨D, 60, M, ds, rfl, eD, hd, m0, m1, fun G H2 good s2 nG eG gok nd lg => ?_⟩
    have s12 := sD.trans s2
    have g0 : 0 < good.length := List.length_pos_iff.mpr gok.1
    walk_at "go"
    refine ⟨G, _, rfl, .inl (SqL.of eG), ?_⟩
    intro T nT
    generalize eH_ : upd H2 T _ = H3
    have s3 : Same H2 H3 := by rw [← eH_]; exact same_new nT
    have eT : H3 T = some (.lst (good.map V.int)) := by rw [← eH_]; exact upd_same
    clear eH_
    have s13 := s12.trans s3
    have eD3 := s3 _ _ (s2 _ _ eD)
    have eG3 := s3 _ _ eG
    have nHT : H T = none := by
      cases e : H T with
      | none => rfl
      | some o =>
        have := s12 T o e
        rw [nT] at this
        cases this
    have DT : D ≠ T := ne_of_none (s2 _ _ eD) nT
    have GT : G ≠ T := ne_of_none eG nT
    walk_at "go"
    refine rd_at (SqL.of eD3) (by decide) (by omega) ?_
    rw [show (57 : Int).toNat = 57 from rfl]
    walk_at "go"
    refine for_gen (n := (ds.getD 57 0 % 3).toNat) (fun i σ H4 => Same H H4 ∧ H4 D = some (.lst (ds.map V.int)) ∧ H4 G = some (.lst (good.map V.int)) ∧ (∃ tw : List Int, H4 T = some (.lst (tw.map V.int)) ∧ (∀ x, x ∈ tw ↔ x ∈ good) ∧ tw.length = good.length + i) ∧ ∃ v5 : Option V, σ = [some (.ref a), some (.ref D), some (.int (M : Int)), some (.ref G), some (.ref T), v5, none, none, none, none, none, none, none, none, none, none, none, none, none]) ⟨s13, eD3, eG3, ⟨good, eT, fun x => Iff.rfl, rfl⟩, none, rfl⟩ (fun i σ H1 hi _ => hi) (fun σ H1 _ => Nat.le_refl _) ?_ ?_
    · rintro i σ H4 x H5 hi ⟨s4, eD4, eG4, ⟨tw, eT4, iff, lt⟩, v5, rfl⟩ ⟨rfl, rfl⟩
      walk_at "go"
      refine ⟨.inl ⟨rfl, _, .inl (.inl eT4)⟩, ?_⟩
      have hi2 : i < 2 := by omega
      have a0 := Int.emod_nonneg (ds.getD (58 + (0 + (i : Int))).toNat 0) (show (good.length : Int) ≠ 0 by omega)
      have a1 := Int.emod_lt_of_pos (ds.getD (58 + (0 + (i : Int))).toNat 0) (show (0 : Int) < good.length by omega)
      walk_at "go"
      refine rd_at (SqL.of eD4) (by omega) (by omega) ?_
      walk_at "go"
      refine ⟨G, _, rfl, .inl (SqL.of eG4), ?_⟩
      rw [List.length_map]
      walk_at "go"
      refine rd_at (SqL.of eG4) a0 a1 ?_
      walk_at "go"
      refine ⟨_, _, _, rfl, rfl, eT4, ?_, ?_⟩
      · rw [List.length_map]
        exact Nat.lt_of_lt_of_le (show tw.length < 1000 by omega) (by decide)
      have hm : good.getD (ds.getD (58 + (0 + (i : Int))).toNat 0 % (good.length : Int)).toNat 0 ∈ good := by
        rw [List.getD_eq_getElem?_getD, List.getElem?_eq_getElem (show (ds.getD (58 + (0 + (i : Int))).toNat 0 % (good.length : Int)).toNat < good.length by omega)]
        exact List.getElem_mem _
      generalize good.getD (ds.getD (58 + (0 + (i : Int))).toNat 0 % (good.length : Int)).toNat 0 = y at hm
      refine ⟨Z.Same.mut s4 nHT, by rw [upd_ne DT]; exact eD4, by rw [upd_ne GT]; exact eG4, ⟨tw ++ [y], ?_, fun x => ?_, ?_⟩, _, rfl⟩
      · rw [upd_same, List.map_append]
        rfl
      · rw [List.mem_append, List.mem_singleton, iff]
        exact ⟨fun z => z.elim id fun z => z ▸ hm, .inl⟩
      · rw [List.length_append, lt]
        rfl
    · rintro σ H4 ⟨s4, eD4, eG4, ⟨tw, eT4, iff, lt⟩, v5, rfl⟩
      clear s3 s13 eD3 eG3 eG s2 s12 eT nT nHT DT GT sD nD nG
      have ltw : tw.length ≤ 402 := by omega
      have tok : GOk M tw := ⟨fun z => by
        obtain ⟨x, r, e⟩ := List.exists_cons_of_ne_nil gok.1
        have := (iff x).mpr (by rw [e]; simp)
        rw [z] at this
        simp at this, fun x hx => gok.2 x ((iff x).mp hx)⟩
      have eGf : Gof tw M = Gof good M := funext fun d => propext (iff _)
      walk_at "go"
      refine ⟨T, _, rfl, .inl (SqL.of eT4), ?_⟩
      intro Ps nPs
      generalize eH_ : upd H4 Ps _ = H5
      have s5 : Same H4 H5 := by rw [← eH_]; exact same_new nPs
      have ePs : H5 Ps = some (.lst (tw.map V.int)) := by rw [← eH_]; exact upd_same
      clear eH_
      walk_at "go"
      refine ⟨true, Ps, tw, M, rfl, SqL.of ePs, by omega, m0, by omega, fun _ rA H6 N s6 hN RA => ?_, fun i bad => (bad.not tok).elim⟩
      have ePs6 := s6 _ _ ePs
      walk_at "go"
      refine ⟨true, Ps, tw, M, rfl, SqL.of ePs6, by omega, m0, by omega, fun _ rB H7 L s7 hL RB => ?_, fun i bad => (bad.not tok).elim⟩
      rw [eGf] at hN hL
      have RA7 := RA.mono s7
      have ePs7 := s7 _ _ ePs6
      have s57 := s5.trans (s6.trans s7)
      walk_at "go"
      refine same2 (d := intsD true tw) (dp_ints (b := true) (SqL.of ePs7)) (dp_ints (b := true) (SqL.of (s57 _ _ eT4))) (shaped_ints _ _) ?_
      rw [eqv_same (shaped_ints _ _)]
      walk_at "go"
      refine ⟨T, D, tw, ds, M, 60, rfl, SqL.of (s57 _ _ eT4), tok, by omega, m0, m1, SqL.of (s57 _ _ eD4), hd, by decide, fun H8 s8 => ?_⟩
      have RA8 := RA7.mono s8
      have RB8 := RB.mono s8
      have ePs8 := s8 _ _ ePs7
      have s58 := s57.trans s8
      clear RA RA7 RB ePs ePs6 ePs7 s6 s7 s8 s57
      dsimp only [List.set]
      walk_at "go"
      refine ⟨Ps, _, _, 0, rfl, rfl, ePs8, (by unfold ixN; rw [List.length_map, if_pos (by omega), if_pos (by omega)]; rfl), ?_⟩
      have sb9 : SB Ps H8 (upd H8 Ps (.lst ((tw.map V.int).set 0 (.int 0)))) := SB.upd (Z.Same.sb (Same.refl _))
      have RA9 := Z.RuleF.sb sb9 ePs8 RA8
      have RB9 := Z.RuleF.sb sb9 ePs8 RB8
      have s49 : Same H4 (upd H8 Ps (.lst ((tw.map V.int).set 0 (.int 0)))) := Z.Same.mut s58 nPs
      have eP9 := upd_same (H := H8) (a := Ps) (o := .lst ((tw.map V.int).set 0 (.int 0)))
      generalize upd H8 Ps _ = H9 at RA9 RB9 s49 eP9 ⊢
      clear sb9 RA8 RB8 ePs8 s58
      walk_at "go"
      refine ⟨.inl ⟨rfl, _, .inl (.inl eP9)⟩, ?_⟩
      walk_at "go"
      refine ⟨_, _, _, rfl, rfl, eP9, ?_, ?_⟩
      · rw [List.length_set, List.length_map]
        exact Nat.lt_of_lt_of_le (show tw.length < 1000 by omega) (by decide)
      have sb10 : SB Ps H9 (upd H9 Ps (.lst ((tw.map V.int).set 0 (.int 0) ++ [.int 0]))) := SB.upd (Z.Same.sb (Same.refl _))
      have RA := Z.RuleF.sb sb10 eP9 RA9
      have RB := Z.RuleF.sb sb10 eP9 RB9
      have s10 : Same H4 (upd H9 Ps (.lst ((tw.map V.int).set 0 (.int 0) ++ [.int 0]))) := Z.Same.mut s49 nPs
      generalize upd H9 Ps _ = H10 at RA RB s10 ⊢
      have sH := s4.trans s10
      have eG := s10 _ _ eG4
      clear sb10 RA9 RB9 s49 eP9 nPs s5 s10 eD4 eG4 eT4 s4 hd eD
      walk_at "go"
      refine ⟨a, ns, 2, rfl, sH.seq hS, ?_⟩
      walk_at "go"
      refine ⟨by show (0 : Int) < 2 * 10 ^ 39 + 1; omega, ?_⟩
      walk_at "go"
      generalize eX : (fun i j : Int => V.int (i - j)) _ _ = vX
      obtain ⟨st, rfl⟩ : ∃ st, vX = V.int st := ⟨_, eX.symm⟩
      clear eX
      walk_at "go"
      refine ⟨st, M, rfl, fun rM H11 s11 RM => ?_⟩
      replace RA := RA.mono s11
      replace RB := RB.mono s11
      replace eG := s11 _ _ eG
      replace sH := sH.trans s11
      clear s11
      obtain ⟨dxA, fsA, enA⟩ := RA.at_
      obtain ⟨dxB, fsB, enB⟩ := RB.at_
      obtain ⟨dxm, tm, enM, etM⟩ := RM.shift1
      walk_at "go"
      refine ⟨rA, dxA, _, rfl, enA, ?_⟩
      walk_at "go"
      refine ⟨rB, dxB, _, rfl, enB, ?_⟩
      walk_at "go"
      intro Y nY
      generalize eH_ : upd H11 Y _ = H12
      have s12 : Same H11 H12 := by rw [← eH_]; exact same_new nY
      have eY : H12 Y = some (.lst (([st] : List Int).map V.int)) := by rw [← eH_]; exact upd_same
      clear eH_
      walk_at "go"
      refine ⟨tm, Y, [st], rfl, s12 _ _ etM, SqL.of eY, (show 1 ≤ 100000 by decide), ?_⟩
      replace RA := RA.mono s12
      replace RB := RB.mono s12
      replace RM := RM.mono s12
      replace eG := s12 _ _ eG
      replace sH := sH.trans s12
      clear s12 enA enB enM etM eY nY
      obtain ⟨dxA, tA, enA⟩ := RA.at2
      walk_at "go"
      refine ⟨rA, dxA, _, rfl, enA, rfl, rA, M, _, rfl, RA, m0, by omega, fun r H13 L' s13 lat R => ?_⟩
      replace RA := RA.mono s13
      replace RB := RB.mono s13
      replace RM := RM.mono s13
      replace eG := s13 _ _ eG
      replace sH := sH.trans s13
      clear s13 enA
      obtain ⟨d1, u1, u2, _, _⟩ := R.same RB (fun d => lat.uniq (nx_lat hN hL) d)
      obtain ⟨dy1, t1, e1, _⟩ := id u1
      obtain ⟨dy2, t2, e2, _⟩ := id u2
      walk_at "go"
      refine ⟨r, rB, dy1, dy2, _, _, rfl, rfl, e1, e2, r, rB, _, _, rfl, u1, u2, _, rfl, ?_⟩
      rw [decide_eq_true rfl]
      clear R u1 u2 e1 e2 lat
      obtain ⟨dxB, tB, enB⟩ := RB.at2
      walk_at "go"
      refine ⟨rB, dxB, _, rfl, enB, rfl, rB, M, _, rfl, RB, m0, by omega, fun r H14 S s14 soo R => ?_⟩
      replace RA := RA.mono s14
      replace RB := RB.mono s14
      replace RM := RM.mono s14
      replace eG := s14 _ _ eG
      replace sH := sH.trans s14
      clear s14 enB
      obtain ⟨d1, u1, u2, _, _⟩ := R.same RA (fun d => soo.uniq (nx_lat hN hL).flip d)
      obtain ⟨dy1, t1, e1, _⟩ := id u1
      obtain ⟨dy2, t2, e2, _⟩ := id u2
      walk_at "go"
      refine ⟨r, rA, dy1, dy2, _, _, rfl, rfl, e1, e2, r, rA, _, _, rfl, u1, u2, _, rfl, ?_⟩
      rw [decide_eq_true rfl]
      clear R u1 u2 e1 e2 soo
      dsimp only [List.set]
      walk_at "go"
      refine ⟨a, ns, 1, rfl, sH.seq hS, ?_⟩
      walk_at "go"
      refine ⟨fun σ' H' => H' = H14 ∧ ∃ c : Nat, σ' = [some (.ref a), some (.ref D), some (.int (M : Int)), some (.ref G), some (.ref T), v5, some (.ref Ps), some (.ref rA), some (.ref rB), some (.int st), some (.ref rM), some (.int (c : Int)), none, none, none, none, none, none, none], ?_, ?_⟩
      · walk_at "go"
        refine ⟨a, ns, 1, rfl, sH.seq hS, ?_⟩
        walk_at "go"
        refine ite2 (fun e => ?_) (fun e => ?_)
        · walk_at "go"
          refine ⟨a, ns, 1, rfl, sH.seq hS, ?_⟩
          walk_at "go"
          refine ⟨by show (0 : Int) < 10 ^ 30 + 1; omega, ?_⟩
          have z0 := Int.emod_nonneg (ns.getD 1 0 / 1488) (show (10 ^ Int.toNat 30 + 1 : Int) ≠ 0 by decide)
          obtain ⟨c, hc⟩ := Int.eq_ofNat_of_zero_le z0
          exact ⟨rfl, c, by rw [← hc]; rfl⟩
        · obtain ⟨c, hc⟩ := Int.eq_ofNat_of_zero_le (show 0 ≤ ns.getD 1 0 / 16 % 31 by omega)
          exact ⟨rfl, c, by rw [← hc]; rfl⟩
      rintro σ' H' ⟨eH, c, rfl⟩
      subst eH
      refine ⟨1, M, rfl, fun q1 K1 k1 Q1 => ?_⟩
      replace RA := RA.mono k1
      replace RB := RB.mono k1
      replace RM := RM.mono k1
      replace eG := k1 _ _ eG
      replace sH := sH.trans k1
      clear k1
      walk_at "go"
      refine rd_bin Q1 RA m0 (by omega) (fun q2 K2 k2 Q2 => ?_)
      replace RA := RA.mono k2
      replace RB := RB.mono k2
      replace RM := RM.mono k2
      replace eG := k2 _ _ eG
      replace sH := sH.trans k2
      clear k2
      obtain ⟨dz3, tz3, en3⟩ := Q2.at2
      walk_at "go"
      refine ⟨q2, (c : Int), dz3, _, rfl, rfl, en3, q2, M, _, (c : Int), rfl, Q2, m0, by omega, fun kk hk q3 K3 k3 RC => ⟨q3, rfl, ?_⟩, fun z => by omega⟩
      obtain rfl : c = kk := by omega
      clear en3
      replace RA := RA.mono k3
      replace RB := RB.mono k3
      replace RM := RM.mono k3
      replace eG := k3 _ _ eG
      replace sH := sH.trans k3
      clear k3
      clear Q1 Q2
      walk_at "go"
      refine ⟨0 - 1, M, rfl, fun q4 K4 k4 Q4 => ?_⟩
      replace RA := RA.mono k4
      replace RB := RB.mono k4
      replace RM := RM.mono k4
      replace RC := RC.mono k4
      replace eG := k4 _ _ eG
      replace sH := sH.trans k4
      clear k4
      walk_at "go"
      refine rd_bin Q4 RB m0 (by omega) (fun q5 K5 k5 Q5 => ?_)
      replace RA := RA.mono k5
      replace RB := RB.mono k5
      replace RM := RM.mono k5
      replace RC := RC.mono k5
      replace eG := k5 _ _ eG
      replace sH := sH.trans k5
      clear k5
      obtain ⟨dz6, tz6, en6⟩ := Q5.at2
      walk_at "go"
      refine ⟨q5, (c : Int), dz6, _, rfl, rfl, en6, q5, M, _, (c : Int), rfl, Q5, m0, by omega, fun kk hk q6 K6 k6 RD => ⟨q6, rfl, ?_⟩, fun z => by omega⟩
      obtain rfl : c = kk := by omega
      clear en6
      replace RA := RA.mono k6
      replace RB := RB.mono k6
      replace RM := RM.mono k6
      replace RC := RC.mono k6
      replace eG := k6 _ _ eG
      replace sH := sH.trans k6
      clear k6
      clear Q4 Q5
      obtain ⟨dxA, tA, enA⟩ := RA.at2
      walk_at "go"
      refine ⟨rA, dxA, _, rfl, enA, rfl, rA, M, _, rfl, RA, m0, by omega, fun q7 K7 S k7 soo RS => ?_⟩
      clear enA
      replace RA := RA.mono k7
      replace RB := RB.mono k7
      replace RM := RM.mono k7
      replace RC := RC.mono k7
      replace RD := RD.mono k7
      replace eG := k7 _ _ eG
      replace sH := sH.trans k7
      clear k7
      dsimp only [List.set]
      walk_at "go"
      refine ⟨0 - 1, M, rfl, fun q8 K8 k8 Q8 => ?_⟩
      replace RA := RA.mono k8
      replace RB := RB.mono k8
      replace RM := RM.mono k8
      replace RC := RC.mono k8
      replace RD := RD.mono k8
      replace RS := RS.mono k8
      replace eG := k8 _ _ eG
      replace sH := sH.trans k8
      clear k8
      walk_at "go"
      refine rd_bin Q8 RB m0 (by omega) (fun q9 K9 k9 Q9 => ?_)
      replace RA := RA.mono k9
      replace RB := RB.mono k9
      replace RM := RM.mono k9
      replace RC := RC.mono k9
      replace RD := RD.mono k9
      replace RS := RS.mono k9
      replace eG := k9 _ _ eG
      replace sH := sH.trans k9
      clear k9
      walk_at "go"
      refine ⟨1, M, rfl, fun q10 K10 k10 Q10 => ?_⟩
      replace RA := RA.mono k10
      replace RB := RB.mono k10
      replace RM := RM.mono k10
      replace RC := RC.mono k10
      replace RD := RD.mono k10
      replace RS := RS.mono k10
      replace Q9 := Q9.mono k10
      replace eG := k10 _ _ eG
      replace sH := sH.trans k10
      clear k10
      walk_at "go"
      refine rd_bin Q9 Q10 m0 (by omega) (fun q11 K11 k11 RE => ?_)
      replace RA := RA.mono k11
      replace RB := RB.mono k11
      replace RM := RM.mono k11
      replace RC := RC.mono k11
      replace RD := RD.mono k11
      replace RS := RS.mono k11
      replace eG := k11 _ _ eG
      replace sH := sH.trans k11
      clear k11
      clear Q8 Q9 Q10
      walk_at "go"
      refine ⟨a, ns, 4, rfl, sH.seq hS, hl, by decide, fun AL K12 xs k12 nAL eAL _ lx => ?_⟩
      replace RA := RA.mono k12
      replace RB := RB.mono k12
      replace RM := RM.mono k12
      replace RC := RC.mono k12
      replace RD := RD.mono k12
      replace RS := RS.mono k12
      replace RE := RE.mono k12
      replace eG := k12 _ _ eG
      replace sH := sH.trans k12
      clear k12
      walk_at "go"
      refine ⟨fun σ' H' => Same K12 H' ∧ ∃ (AL : Addr) (xs : List Int), H' AL = some (.lst (xs.map V.int)) ∧ xs.length ≤ 1000 ∧ σ' = [some (.ref a), some (.ref D), some (.int (M : Int)), some (.ref G), some (.ref T), v5, some (.ref Ps), some (.ref rA), some (.ref rB), some (.int st), some (.ref rM), some (.int (c : Int)), some (.ref q3), some (.ref q6), some (.ref q7), some (.ref q11), some (.ref AL), none, none], ?_, ?_⟩
      · walk_at "go"
        refine ite2 (fun e => ?_) (fun e => ?_)
        · walk_at "go"
          refine ⟨AL, _, rfl, SqL.of eAL, ?_⟩
          obtain ⟨ys, ey, ly⟩ := cut_map xs none (some 25)
          rw [ey]
          intro B nB
          generalize eH_ : upd K12 B _ = J1
          have j1 : Same K12 J1 := by rw [← eH_]; exact same_new nB
          have eB : J1 B = some (.lst (ys.map V.int)) := by rw [← eH_]; exact upd_same
          clear eH_
          exact ⟨j1, B, ys, eB, by omega, rfl⟩
        · exact ⟨Same.refl _, AL, xs, eAL, lx, rfl⟩
      clear eAL nAL lx
      rintro σ' K13 ⟨k13, AL, xs, eAL, lx, rfl⟩
      replace RA := RA.mono k13
      replace RB := RB.mono k13
      replace RM := RM.mono k13
      replace RC := RC.mono k13
      replace RD := RD.mono k13
      replace RS := RS.mono k13
      replace RE := RE.mono k13
      replace eG := k13 _ _ eG
      replace sH := sH.trans k13
      clear k13
      walk_at "go"
      intro FL nFL
      refine lc_rngV (K := K) (n := M) (fun k => .bl (decide ((k : Int) ∈ good))) (by omega) nFL (fun _ => rfl) ?_ ?_
      · intro k J Q1 hk s1' q1
        walk_at "go"
        refine ⟨G, _, rfl, .inl (SqL.of (s1' _ _ eG)), rfl, flat_ints _, ?_⟩
        have z := q1 _ (Same.refl _)
        rw [show (k : Int) = 0 + (k : Int) by omega, ← in_ints] at z
        exact z
      intro K14 k14 eFL
      replace eFL : K14 FL = some (.lst ((flags good M).map V.bl)) := by
        rw [eFL]
        unfold flags
        rw [List.map_map]
        rfl
      replace eAL := k14 _ _ eAL
      replace RA := RA.mono k14
      replace RB := RB.mono k14
      replace RM := RM.mono k14
      replace RC := RC.mono k14
      replace RD := RD.mono k14
      replace RS := RS.mono k14
      replace RE := RE.mono k14
      replace eG := k14 _ _ eG
      replace sH := sH.trans k14
      clear k14
      walk_at "go"
      refine ⟨⟨_, SqL.of eAL⟩, ?_⟩
      refine for_lst (SqL.of eAL) (fun k σ J => J = K14 ∧ ∃ v17 : Option V, σ = [some (.ref a), some (.ref D), some (.int (M : Int)), some (.ref G), some (.ref T), v5, some (.ref Ps), some (.ref rA), some (.ref rB), some (.int st), some (.ref rM), some (.int (c : Int)), some (.ref q3), some (.ref q6), some (.ref q7), some (.ref q11), some (.ref AL), v17, some (.ref FL)]) ⟨rfl, _, rfl⟩ (fun k σ H2 p => by rw [p.1]; exact Same.refl _) ?_ ?_
      · rintro k x σ J ex ⟨rfl, v17, rfl⟩
        have qF := SqL.of (K := K) eFL
        dsimp only [List.set]
        walk_at "go"
        refine rd_call RA m0 (by omega) ?_
        walk_at "go"
        refine ⟨FL, good, M, x, rfl, qF, m0, m1, gok, fun n hn => ?_⟩
        obtain rfl := hn.uniq (hN x)
        walk_at "go"
        refine rd_call RB m0 (by omega) ?_
        walk_at "go"
        refine ⟨FL, good, M, x, rfl, qF, m0, m1, gok, fun n hn => ?_⟩
        obtain rfl := hn.uniq (hL x)
        walk_at "go"
        refine rd_call RM m0 (by omega) ?_
        walk_at "go"
        refine rd_call RC m0 (by omega) ?_
        walk_at "go"
        refine ⟨G, _, rfl, .inl (SqL.of eG), ?_⟩
        rw [List.length_map]
        walk_at "go"
        refine ⟨FL, good, M, c, x, N, rfl, qF, m0, m1, gok, nd, lg, hN, ?_⟩
        walk_at "go"
        refine rd_call RD m0 (by omega) ?_
        walk_at "go"
        refine ⟨G, _, rfl, .inl (SqL.of eG), ?_⟩
        rw [List.length_map]
        walk_at "go"
        refine ⟨FL, good, M, c, x, L, rfl, qF, m0, m1, gok, nd, lg, hL, ?_⟩
        walk_at "go"
        refine rd_call RS m0 (by omega) ?_
        walk_at "go"
        refine rd_call RE m0 (by omega) ?_
        walk_at "go"
        have eS : S x = L (x - 1) + 1 := soo.uniq (nx_lat hN hL).soo x
        refine ⟨S x, ?_, ?_⟩
        · show [V.int (S x), V.int (L (x + (0 - 1)) + 1)] = [V.int (S x), V.int (S x)]
          rw [eS, show x + (0 - 1) = x - 1 by omega]
        walk_at "go"
        refine rd_call RA m0 (by omega) ?_
        walk_at "go"
        refine ⟨FL, good, M, x, rfl, qF, m0, m1, gok, fun n hn => ?_⟩
        obtain rfl := hn.uniq (hN x)
        walk_at "go"
        exact ⟨_, rfl⟩
      · rintro σ J ⟨rfl, v17, rfl⟩
        walk_at "go"
        exact q _ sH
end
end Z
set_option pp.maxSteps 700
set_option Elab.async false
set_option linter.all false
set_option maxRecDepth 100000
set_option maxHeartbeats 4000000
namespace Z
open Dy
open PySem PySem.Spec PyProof.Rows L2
open C8 (pss_cut tCut)
local macro_rules | `(tactic| walk_at "num") => `(tactic| first | rfl | omega | decide | exact Nat.le_of_lt (small1000 (by simp)) | exact ⟨by omega, by omega⟩ | exact ⟨by omega, by omega, by omega⟩ | exact ⟨by decide, by decide, by decide⟩ | exact Or.inl ⟨by omega, by omega⟩ | exact Or.inr ⟨by omega, by omega⟩)
local macro_rules | `(tactic| walk_at "go") => `(tactic| repeat (first | refine ⟨_, rfl, ?_⟩ | refine ⟨_, _, rfl, rfl, ?_⟩ | refine ⟨_, _, rfl, ?_⟩ | (refine ⟨_, _, rfl, rfl, ?_, ?_⟩; focus walk_at "num") | refine Or.inl ⟨_, rfl, ?_⟩ | refine ⟨_, _, _, _, rfl, rfl, (by assumption), (by rfl), ?_⟩ | refine ⟨_, _, _, _, _, rfl, (by assumption), (by assumption), (by assumption), (by rfl), ?_⟩ | refine ⟨rfl, ?_⟩ | (refine And.intro ?_ ?_; focus walk_at "num")))
abbrev s_two : Stmt := topS 45
abbrev N_two : List Str := ["_law_script", "_law_draws_here", "_law_place", "_law_sizes", "_law_pairs", "_law_first_here", "_law_other", "_law_second_here", "_law_f", "_law_g", "_law_one_here", "_law_two_here", "_law_days_here", "_law_later"]
abbrev P_two : List Str := ["_law_script"]
theorem sc_two : FnScope N_two P_two (defScope s_two) := ⟨rfl, rfl, rfl, by decide +kernel, rfl, by decide +kernel, by decide +kernel⟩
abbrev s_law : Stmt := topS 46
abbrev N_law : List Str := ["_law_script"]
abbrev P_law : List Str := ["_law_script"]
theorem sc_law : FnScope N_law P_law (defScope s_law) := ⟨rfl, rfl, rfl, by decide +kernel, rfl, by decide +kernel, by decide +kernel⟩
section
variable {P : Program} {w : World} {K : PySem.W.Frag} {mg : Str → Option Value} {base : Heap} {f C CD CC CH : Addr} {fd : FuncData}
theorem ok_two (F : FnP K "_law_two" s_two f fd) (m_int : mg "int" = none) (m_len : mg "len" = none) (m_list : mg "list" = none) (cls : Cls K C) (n_days : NoAttr K C "days")
    (c_draws : Cal P w K mg base 1 "_law_draws" spDraws) (c_cell : Cal P w K mg base 1 "_law_cell" (spCell K)) (c_take : Cal P w K mg base 1 "_law_take" (spTake K)) (c_size : Cal P w K mg base 2 "_law_size" (spSize K)) (c_days : Cal P w K mg base 2 "_law_days" (spDays K)) (c_second : Cal P w K mg base 2 "_law_second" (spSecond K)) (c_first_beyond : Cal P w K mg base 2 "_law_first_beyond" (spBey K)) (c_is : Cal P w K mg base 3 "_law_is" spIs) (c_same : Cal P w K mg base 2 "_law_same" spSame) (c_least : Cal P w K mg base 3 "_law_least" (spLeastL K)) (c_row_is : Cal P w K mg base 3 "_law_row_is" (spRow K)) (c_shift : Cal P w K mg base 6 "shift" (spShift C K))
    (k_DayRule : MakX P w K mg base 4 "DayRule" C (spInit C CD K)) (me_exceeds : Met P w K mg base 3 C "exceeds" (spExc C K)) (o_rshift : Bin2 P w K mg base 6 C "__rshift__" (spOp C K fun F G d => G (F d))) (o_or : Bin2 P w K mg base 6 C "__or__" (spOp C K fun F G d => max (F d) (G d))) (o_and : Bin2 P w K mg base 6 C "__and__" (spOp C K fun F G d => min (F d) (G d))) : FnOk P w K mg base CX0 7 f fd P_two (spOne K) := by
  refine F.ok sc_two (fun vs H Q E h => ?_) (fun cdv A outer s H vs Q E hr h => ?_)
  · obtain ⟨a, ns, rfl, _⟩ := h
    rfl
  · obtain ⟨a, ns, rfl, hS, hl, q⟩ := h
    refine ⟨_, PSs.nox (pss_cons (ps_set (i := 1) sc_two.nd rfl (by first | exact .inl rfl | exact .inr rfl) (pe_cl c_draws hr (by decide) (by rfl) (pa_cons (pe_cl c_cell hr (by decide) (by rfl) (pa_cons (pv 0) (pa_cons pe_int pa_nil))) (pa_cons pe_int pa_nil))))
      (pss_cons (ps_set (i := 2) sc_two.nd rfl (by first | exact .inl rfl | exact .inr rfl) (pe_lst (pa_cons pe_int pa_nil)))
      (pss_cons (ps_set (i := 3) sc_two.nd rfl (by first | exact .inl rfl | exact .inr rfl) (pe_lst (pa_cons (pe_cl c_size hr (by decide) (by rfl) (pa_cons (pv 1) (pa_cons (pv 2) (pa_cons pe_int pa_nil)))) (pa_cons (pe_cl c_size hr (by decide) (by rfl) (pa_cons (pv 1) (pa_cons (pv 2) (pa_cons pe_int pa_nil)))) pa_nil))))
      (pss_cut (ps_if (pt_cmpR op_eq (pe_op op_mod (pe_callTy call_int1 (by rfl) m_int (by decide +kernel) (pa_cons (pe_cl c_cell hr (by decide) (by rfl) (pa_cons (pv 0) (pa_cons pe_int pa_nil))) pa_nil)) pe_int) pe_int (nomark _)) (pss_cons (ps_set (i := 4) sc_two.nd rfl (by first | exact .inl rfl | exact .inr rfl) (pe_lst (pa_cons (pe_lst (pa_cons pe_int (pa_cons pe_int pa_nil))) (pa_cons (pe_lst (pa_cons pe_int (pa_cons pe_int pa_nil))) (pa_cons (pe_lst (pa_cons pe_int (pa_cons pe_int pa_nil))) (pa_cons (pe_lst (pa_cons pe_int (pa_cons pe_int pa_nil))) (pa_cons (pe_lst (pa_cons pe_int (pa_cons pe_int pa_nil))) (pa_cons (pe_lst (pa_cons pe_int (pa_cons pe_int pa_nil))) (pa_cons (pe_lst (pa_cons pe_int (pa_cons pe_int pa_nil))) (pa_cons (pe_lst (pa_cons pe_int (pa_cons pe_int pa_nil))) pa_nil))))))))))
      (pss_one (ps_set (i := 3) sc_two.nd rfl (by first | exact .inl rfl | exact .inr rfl) (pe_ix ix_list (pv 4) (pe_op op_mod (pe_callTy call_int1 (by rfl) m_int (by decide +kernel) (pa_cons (pe_op op_fdiv (pe_callTy call_int1 (by rfl) m_int (by decide +kernel) (pa_cons (pe_cl c_cell hr (by decide) (by rfl) (pa_cons (pv 0) (pa_cons pe_int pa_nil))) pa_nil)) pe_int) pa_nil)) pe_int) (fun _ _ => rfl))))) pss_nil)
      (pss_cons (ps_set (i := 5) sc_two.nd rfl (by first | exact .inl rfl | exact .inr rfl) (pe_cl c_days hr (by decide) (by rfl) (pa_cons (pv 1) (pa_cons (pv 2) (pa_cons (pe_ix ix_list (pv 3) pe_int (fun _ _ => rfl)) pa_nil)))))
      (pss_cons (ps_set (i := 6) sc_two.nd rfl (by first | exact .inl rfl | exact .inr rfl) (pe_cl c_days hr (by decide) (by rfl) (pa_cons (pv 1) (pa_cons (pv 2) (pa_cons (pe_ix ix_list (pv 3) pe_int (fun _ _ => rfl)) pa_nil)))))
      (pss_cons (ps_set (i := 7) sc_two.nd rfl (by first | exact .inl rfl | exact .inr rfl) (pe_cl c_second hr (by decide) (by rfl) (pa_cons (pv 5) (pa_cons (pv 6) (pa_cons (pe_cl c_take hr (by decide) (by rfl) (pa_cons (pv 1) (pa_cons (pv 2) pa_nil))) pa_nil)))))
      (pss_cons (ps_set (i := 8) sc_two.nd rfl (by first | exact .inl rfl | exact .inr rfl) (pe_mkE k_DayRule (fun _ => passS0) hr (by decide) (by rfl) (pa_cons (pe_callTy call_list_of (by rfl) m_list (by decide +kernel) (pa_cons (pv 5) pa_nil)) pa_nil)))
      (pss_cons (ps_set (i := 9) sc_two.nd rfl (by first | exact .inl rfl | exact .inr rfl) (pe_mkE k_DayRule (fun _ => passS0) hr (by decide) (by rfl) (pa_cons (pe_callTy call_list_of (by rfl) m_list (by decide +kernel) (pa_cons (pv 7) pa_nil)) pa_nil)))
      (pss_cons (ps_set (i := 10) sc_two.nd rfl (by first | exact .inl rfl | exact .inr rfl) (pe_cl c_first_beyond hr (by decide) (by rfl) (pa_cons (pv 5) (pa_cons (pv 7) pa_nil))))
      (pss_cons (ps_set (i := 11) sc_two.nd rfl (by first | exact .inl rfl | exact .inr rfl) (pe_cl c_first_beyond hr (by decide) (by rfl) (pa_cons (pv 7) (pa_cons (pv 5) pa_nil))))
      (pss_cons (ps_if (PW.pt (pw_or (pt_not (pt_val (pe_cl c_is hr (by decide) (by rfl) (pa_cons (pe_me me_exceeds (pv 8) hr (by decide) (pa_cons (pv 9) pa_nil)) (pa_cons (pv 10) pa_nil))))) (pw_or (pt_not (pt_val (pe_cl c_is hr (by decide) (by rfl) (pa_cons (pe_me me_exceeds (pv 9) hr (by decide) (pa_cons (pv 8) pa_nil)) (pa_cons (pv 11) pa_nil))))) (pw_or1 (pt_not (pt_val (pe_cl c_is hr (by decide) (by rfl) (pa_cons (pe_me me_exceeds (pv 8) hr (by decide) (pa_cons (pv 9) pa_nil)) (pa_cons (pv 10) pa_nil))))))))) (pss_one (ps_ret pe_bl)) pss_nil)
      (pss_cons (ps_if (PW.pt (pw_or (pt_not (pt_val (pe_cl c_is hr (by decide) (by rfl) (pa_cons (pe_me me_exceeds (pe_op (op_bin o_or hr (by decide)) (pv 8) (pv 9)) hr (by decide) (pa_cons (pv 9) pa_nil)) (pa_cons (pv 10) pa_nil))))) (pw_or1 (pt_not (pt_val (pe_cl c_is hr (by decide) (by rfl) (pa_cons (pe_me me_exceeds (pe_op (op_bin o_or hr (by decide)) (pv 9) (pv 8)) hr (by decide) (pa_cons (pv 8) pa_nil)) (pa_cons (pv 11) pa_nil)))))))) (pss_one (ps_ret pe_bl)) pss_nil)
      (pss_cons (ps_if (PW.pt (pw_or (pt_cmpR op_notN (pe_me me_exceeds (pe_op (op_bin o_and hr (by decide)) (pv 8) (pv 9)) hr (by decide) (pa_cons (pv 8) pa_nil)) pe_non (nomark _)) (pw_or (pt_cmpR op_notN (pe_me me_exceeds (pe_op (op_bin o_and hr (by decide)) (pv 8) (pv 9)) hr (by decide) (pa_cons (pv 9) pa_nil)) pe_non (nomark _)) (pw_or1 (pt_cmpR op_notN (pe_me me_exceeds (pv 8) hr (by decide) (pa_cons (pv 8) pa_nil)) pe_non (nomark _)))))) (pss_one (ps_ret pe_bl)) pss_nil)
      (pss_cons (ps_set (i := 12) sc_two.nd rfl (by first | exact .inl rfl | exact .inr rfl) (pe_op op_sub (pe_op op_mod (pe_callTy call_int1 (by rfl) m_int (by decide +kernel) (pa_cons (pe_cl c_cell hr (by decide) (by rfl) (pa_cons (pv 0) (pa_cons pe_int pa_nil))) pa_nil)) (pe_op op_add (pe_op op_mul pe_int (pe_op op_pow pe_int pe_int)) pe_int)) (pe_op op_pow pe_int pe_int)))
      (pss_cons (ps_if (pt_not (pt_val (pe_cl c_is hr (by decide) (by rfl) (pa_cons (pe_me me_exceeds (pe_op (op_bin o_rshift hr (by decide)) (pv 8) (pe_cl c_shift hr (by decide) (by rfl) (pa_cons (pv 12) pa_nil))) hr (by decide) (pa_cons (pe_op (op_bin o_rshift hr (by decide)) (pv 9) (pe_cl c_shift hr (by decide) (by rfl) (pa_cons (pv 12) pa_nil))) pa_nil)) (pa_cons (pv 10) pa_nil))))) (pss_one (ps_ret pe_bl)) pss_nil)
      (pss_cons (ps_set (i := 13) sc_two.nd rfl (by first | exact .inl rfl | exact .inr rfl) (pe_op (op_bin o_rshift hr (by decide)) (pv 8) (pe_cl c_shift hr (by decide) (by rfl) (pa_cons pe_int pa_nil))))
      (pss_cons (ps_if (PW.pt (pw_or (pt_cmpR op_notN (pe_me me_exceeds (pv 8) hr (by decide) (pa_cons (pv 13) pa_nil)) pe_non (nomark _)) (pw_or1 (pt_not (pt_val (pe_cl c_same hr (by decide) (by rfl) (pa_cons (pe_me me_exceeds (pv 13) hr (by decide) (pa_cons (pv 8) pa_nil)) (pa_cons pe_int pa_nil)))))))) (pss_one (ps_ret pe_bl)) pss_nil)
      (pss_one (ps_ret (pe_and (pe_cl c_row_is hr (by decide) (by rfl) (pa_cons (pe_fld (pv 8) rfl) (pa_cons (pe_slice sl_list (pv 5) po_none (po_some (pe_cl c_least hr (by decide) (by rfl) (pa_cons (pv 5) pa_nil)))) pa_nil))) (pe_one (pe_cl c_row_is hr (by decide) (by rfl) (pa_cons (pe_fld (pv 9) rfl) (pa_cons (pe_slice sl_list (pv 7) po_none (po_some (pe_cl c_least hr (by decide) (by rfl) (pa_cons (pv 7) pa_nil)))) pa_nil))))))))))))))))))))))))), ?_⟩
    walk_at "go"
    refine ⟨a, ns, 0, rfl, hS, ?_⟩
    walk_at "go"
    intro D ds nD hd
    have sD := same_new (o := .lst (ds.map V.int)) nD
    have eD := upd_same (H := H) (a := D) (o := .lst (ds.map V.int))
    generalize upd H D (.lst (ds.map V.int)) = H1 at sD eD ⊢
    walk_at "go"
    intro p np
    have sp := same_new (o := .lst [.int 0]) np
    have Dp : D ≠ p := ne_of_none eD np
    have hT : Tk K D p ds 420 (upd H1 p (.lst [.int 0])) (upd H1 p (.lst [.int 0])) := ⟨sp _ _ eD, hd, Dp, Z.Same.sb (Same.refl _), 0, upd_same⟩
    have fr : ∀ H2, Tk K D p ds 420 (upd H1 p (.lst [.int 0])) H2 → Same H H2 := fun H2 t b o h => t.sb b o (ne_of_none (sD b o h) np) (sp b o (sD b o h))
    generalize upd H1 p (.lst [.int 0]) = H0 at hT fr ⊢
    clear sp sD eD
    walk_at "go"
    refine ⟨D, p, 420, 7, ds, rfl, hT, by decide, fun z1 H2 hT2 z10 z11 => ?_⟩
    have hT2' : Tk K D p ds 420 H2 H2 := ⟨hT2.hA, hT2.hd, hT2.ne, Z.Same.sb (Same.refl _), hT2.pl⟩
    walk_at "go"
    refine ⟨D, p, 420, 7, ds, rfl, hT2', by decide, fun z2 H3 hT3 z20 z21 => ?_⟩
    have hT3 : Tk K D p ds 420 H0 H3 := ⟨hT3.hA, hT3.hd, hT3.ne, hT2.sb.trans hT3.sb, hT3.pl⟩
    walk_at "go"
    intro S nS
    generalize eH_ : upd H3 S _ = H4
    have s4 : Same H3 H4 := by rw [← eH_]; exact same_new nS
    have eS : H4 S = some (.lst (([(z1 : Int), (z2 : Int)] : List Int).map V.int)) := by rw [← eH_]; exact upd_same
    clear eH_
    have hT4 := hT3.more s4
    walk_at "go"
    refine ⟨fun σ' H' => Tk K D p ds 420 H0 H' ∧ ∃ (S : Addr) (z1 z2 : Nat) (v4 : Option V), H' S = some (.lst (([(z1 : Int), (z2 : Int)] : List Int).map V.int)) ∧ S ≠ p ∧ 0 < z1 ∧ z1 ≤ 400 ∧ 0 < z2 ∧ z2 ≤ 400 ∧ z1 * z2 ≤ 30000 ∧ σ' = [some (.ref a), some (.ref D), some (.ref p), some (.ref S), v4, none, none, none, none, none, none, none, none, none], ?_, ?_⟩
    · walk_at "go"
      refine ⟨a, ns, 1, rfl, (fr _ hT4).seq hS, ?_⟩
      walk_at "go"
      refine ite2 (fun e => ?_) (fun e => ?_)
      rotate_left
      · obtain ⟨m, em⟩ := hT3.pl
        refine ⟨hT4, S, z1, z2, none, eS, (ne_of_none em nS).symm, z10, by omega, z20, by omega, Nat.le_trans (Nat.mul_le_mul z11 z21) (by decide), rfl⟩
      walk_at "go"
      intro Q0 nQ0
      generalize eH_ : upd H4 Q0 _ = J0
      have u0 : Same H4 J0 := by rw [← eH_]; exact same_new nQ0
      have eQ0 : J0 Q0 = some (.lst (([((8 : Nat) : Int), ((125 : Nat) : Int)] : List Int).map V.int)) := by rw [← eH_]; exact upd_same
      clear eH_
      walk_at "go"
      intro Q1 nQ1
      generalize eH_ : upd J0 Q1 _ = J1
      have u1 : Same J0 J1 := by rw [← eH_]; exact same_new nQ1
      have eQ1 : J1 Q1 = some (.lst (([((125 : Nat) : Int), ((8 : Nat) : Int)] : List Int).map V.int)) := by rw [← eH_]; exact upd_same
      clear eH_
      walk_at "go"
      intro Q2 nQ2
      generalize eH_ : upd J1 Q2 _ = J2
      have u2 : Same J1 J2 := by rw [← eH_]; exact same_new nQ2
      have eQ2 : J2 Q2 = some (.lst (([((200 : Nat) : Int), ((125 : Nat) : Int)] : List Int).map V.int)) := by rw [← eH_]; exact upd_same
      clear eH_
      walk_at "go"
      intro Q3 nQ3
      generalize eH_ : upd J2 Q3 _ = J3
      have u3 : Same J2 J3 := by rw [← eH_]; exact same_new nQ3
      have eQ3 : J3 Q3 = some (.lst (([((31 : Nat) : Int), ((30 : Nat) : Int)] : List Int).map V.int)) := by rw [← eH_]; exact upd_same
      clear eH_
      walk_at "go"
      intro Q4 nQ4
      generalize eH_ : upd J3 Q4 _ = J4
      have u4 : Same J3 J4 := by rw [← eH_]; exact same_new nQ4
      have eQ4 : J4 Q4 = some (.lst (([((20 : Nat) : Int), ((19 : Nat) : Int)] : List Int).map V.int)) := by rw [← eH_]; exact upd_same
      clear eH_
      walk_at "go"
      intro Q5 nQ5
      generalize eH_ : upd J4 Q5 _ = J5
      have u5 : Same J4 J5 := by rw [← eH_]; exact same_new nQ5
      have eQ5 : J5 Q5 = some (.lst (([((12 : Nat) : Int), ((18 : Nat) : Int)] : List Int).map V.int)) := by rw [← eH_]; exact upd_same
      clear eH_
      walk_at "go"
      intro Q6 nQ6
      generalize eH_ : upd J5 Q6 _ = J6
      have u6 : Same J5 J6 := by rw [← eH_]; exact same_new nQ6
      have eQ6 : J6 Q6 = some (.lst (([((400 : Nat) : Int), ((5 : Nat) : Int)] : List Int).map V.int)) := by rw [← eH_]; exact upd_same
      clear eH_
      walk_at "go"
      intro Q7 nQ7
      generalize eH_ : upd J6 Q7 _ = J7
      have u7 : Same J6 J7 := by rw [← eH_]; exact same_new nQ7
      have eQ7 : J7 Q7 = some (.lst (([((16 : Nat) : Int), ((62 : Nat) : Int)] : List Int).map V.int)) := by rw [← eH_]; exact upd_same
      clear eH_
      walk_at "go"
      intro U nU
      generalize eH_ : upd J7 U _ = JU
      have uu : Same J7 JU := by rw [← eH_]; exact same_new nU
      have eU : JU U = some (.lst [.ref Q0, .ref Q1, .ref Q2, .ref Q3, .ref Q4, .ref Q5, .ref Q6, .ref Q7]) := by rw [← eH_]; exact upd_same
      clear eH_
      obtain ⟨mp, emp⟩ := hT4.pl
      have ep0 := u0 _ _ emp
      have ep1 := u1 _ _ ep0
      have ep2 := u2 _ _ ep1
      have ep3 := u3 _ _ ep2
      have ep4 := u4 _ _ ep3
      have ep5 := u5 _ _ ep4
      have ep6 := u6 _ _ ep5
      have ep7 := u7 _ _ ep6
      have hTU := ((((((((hT4.more u0).more u1).more u2).more u3).more u4).more u5).more u6).more u7).more uu
      walk_at "go"
      refine ⟨a, ns, 1, rfl, (fr _ hTU).seq hS, ?_⟩
      walk_at "go"
      have key : ∀ idx : Int, 0 ≤ idx → idx < 8 → ∃ (q : Addr) (x y : Nat), atI [V.ref Q0, V.ref Q1, V.ref Q2, V.ref Q3, V.ref Q4, V.ref Q5, V.ref Q6, V.ref Q7] idx = some (.ref q) ∧ JU q = some (.lst (([(x : Int), (y : Int)] : List Int).map V.int)) ∧ q ≠ p ∧ 0 < x ∧ x ≤ 400 ∧ 0 < y ∧ y ≤ 400 ∧ x * y ≤ 30000 := by
        intro idx i0 i1
        rcases (show idx = 0 ∨ idx = 1 ∨ idx = 2 ∨ idx = 3 ∨ idx = 4 ∨ idx = 5 ∨ idx = 6 ∨ idx = 7 by omega) with rfl | rfl | rfl | rfl | rfl | rfl | rfl | rfl
        · exact ⟨Q0, 8, 125, rfl, uu _ _ (u7 _ _ (u6 _ _ (u5 _ _ (u4 _ _ (u3 _ _ (u2 _ _ (u1 _ _ (eQ0)))))))), (ne_of_none emp nQ0).symm, by decide, by decide, by decide, by decide, by decide⟩
        · exact ⟨Q1, 125, 8, rfl, uu _ _ (u7 _ _ (u6 _ _ (u5 _ _ (u4 _ _ (u3 _ _ (u2 _ _ (eQ1))))))), (ne_of_none ep0 nQ1).symm, by decide, by decide, by decide, by decide, by decide⟩
        · exact ⟨Q2, 200, 125, rfl, uu _ _ (u7 _ _ (u6 _ _ (u5 _ _ (u4 _ _ (u3 _ _ (eQ2)))))), (ne_of_none ep1 nQ2).symm, by decide, by decide, by decide, by decide, by decide⟩
        · exact ⟨Q3, 31, 30, rfl, uu _ _ (u7 _ _ (u6 _ _ (u5 _ _ (u4 _ _ (eQ3))))), (ne_of_none ep2 nQ3).symm, by decide, by decide, by decide, by decide, by decide⟩
        · exact ⟨Q4, 20, 19, rfl, uu _ _ (u7 _ _ (u6 _ _ (u5 _ _ (eQ4)))), (ne_of_none ep3 nQ4).symm, by decide, by decide, by decide, by decide, by decide⟩
        · exact ⟨Q5, 12, 18, rfl, uu _ _ (u7 _ _ (u6 _ _ (eQ5))), (ne_of_none ep4 nQ5).symm, by decide, by decide, by decide, by decide, by decide⟩
        · exact ⟨Q6, 400, 5, rfl, uu _ _ (u7 _ _ (eQ6)), (ne_of_none ep5 nQ6).symm, by decide, by decide, by decide, by decide, by decide⟩
        · exact ⟨Q7, 16, 62, rfl, uu _ _ (eQ7), (ne_of_none ep6 nQ7).symm, by decide, by decide, by decide, by decide, by decide⟩
      obtain ⟨q, x, y, hat, eq, qp, b1, b2, b3, b4, b5⟩ := key (ns.getD 1 0 / 16 % 8) (by omega) (by omega)
      refine ⟨U, _, _, _, rfl, rfl, SqL.of eU, hat, ?_⟩
      walk_at "go"
      exact ⟨q, x, y, _, eq, qp, b1, b2, b3, b4, b5, rfl⟩
    clear hT2 hT2' hT3 hT4 s4 eS nS z10 z11 z20 z21
    rintro σ' H5 ⟨hT5, S, z1, z2, v4, eS, Sp, z10, z11, z20, z21, z12, rfl⟩
    walk_at "go"
    refine ⟨S, _, 0, _, rfl, rfl, SqL.of eS, rfl, ?_⟩
    have self : ∀ G, Tk K D p ds 420 H0 G → Tk K D p ds 420 G G := fun G h => ⟨h.hA, h.hd, h.ne, Z.Same.sb (Same.refl _), h.pl⟩
    walk_at "go"
    refine ⟨D, p, 420, z1, ds, rfl, self _ hT5, z10, by omega, fun A1 H6 fs nA1 A1p hT6 eA1 lA1 gA1 bA1 => ?_⟩
    have eS6 := hT6.sb _ _ Sp eS
    have hT6 : Tk K D p ds 420 H0 H6 := ⟨hT6.hA, hT6.hd, hT6.ne, hT5.sb.trans hT6.sb, hT6.pl⟩
    walk_at "go"
    refine ⟨S, _, 1, _, rfl, rfl, SqL.of eS6, rfl, ?_⟩
    walk_at "go"
    refine ⟨D, p, 420, z2, ds, rfl, self _ hT6, z20, by omega, fun A2 H7 gs nA2 A2p hT7 eA2 lA2 gA2 bA2 => ?_⟩
    have eA1 := hT7.sb _ _ A1p eA1
    have hT7 : Tk K D p ds 420 H0 H7 := ⟨hT7.hA, hT7.hd, hT7.ne, hT6.sb.trans hT7.sb, hT7.pl⟩
    have s7 := fr _ hT7
    walk_at "go"
    obtain ⟨mm, em⟩ := hT7.pl
    refine ⟨D, p, 420, mm, ds, rfl, SqL.of hT7.hA, hT7.hd, em, hT7.ne, fun r0 k2 k3 => ?_⟩
    obtain ⟨hT8, sb8⟩ := hT7.next em
    replace eA1 := sb8 _ _ A1p eA1
    replace eA2 := sb8 _ _ A2p eA2
    generalize upd H7 p (.lst [.int ((mm + 1 : Nat) : Int)]) = H8 at hT8 eA1 eA2 ⊢
    have s8 := fr _ hT8
    clear nA2 nA1 hT6 hT5 fr self eS6 eS hT hT7 hT8 Sp A2p A1p sb8 em
    dsimp only [List.set]
    walk_at "go"
    refine ⟨A1, A2, fs, gs, r0, rfl, SqL.of eA1, SqL.of eA2, gA1, gA2, by omega, by omega, by rw [lA1, lA2]; exact z12, k2, fun L H9 es M s9 eL gE lE M0 M1 pF pE => ?_⟩
    have o1 := of_dv gA1.pos
    have o2 := of_dv gE.pos
    have l1 : fs.length ≤ 400 := by omega
    replace eA1 := s9 _ _ eA1
    have sH := s8.trans s9
    clear s9 s8 eA2
    walk_at "go"
    refine ⟨A1, _, rfl, .inl (SqL.of eA1), ?_⟩
    intro B1 nB1
    generalize eH_ : upd H9 B1 _ = H10
    have s10 : Same H9 H10 := by rw [← eH_]; exact same_new nB1
    have eB1 : H10 B1 = some (.lst (fs.map V.int)) := by rw [← eH_]; exact upd_same
    clear eH_
    walk_at "go"
    intro f1 dx n1 n2 n3
    refine mk_rule (b := true) (M := M) n1 n2 n3 eB1 (by omega) o1 (Mon.dv gA1) pF (fun H11 s11 rF => ?_)
    clear n1 n2 n3 dx eB1
    replace eA1 := s11 _ _ (s10 _ _ eA1)
    replace eL := s11 _ _ (s10 _ _ eL)
    replace sH := sH.trans (s10.trans s11)
    clear s10 s11
    walk_at "go"
    refine ⟨L, _, rfl, .inl (SqL.of eL), ?_⟩
    intro B2 nB2
    generalize eH_ : upd H11 B2 _ = H12
    have s12 : Same H11 H12 := by rw [← eH_]; exact same_new nB2
    have eB2 : H12 B2 = some (.lst (es.map V.int)) := by rw [← eH_]; exact upd_same
    clear eH_
    walk_at "go"
    intro g1 dx n1 n2 n3
    refine mk_rule (b := true) (M := M) n1 n2 n3 eB2 (by omega) o2 (Mon.dv gE) pE (fun H13 s13 rG => ?_)
    clear n1 n2 n3 dx eB2
    replace rF := rF.mono (s12.trans s13)
    replace eA1 := s13 _ _ (s12 _ _ eA1)
    replace eL := s13 _ _ (s12 _ _ eL)
    replace sH := sH.trans (s12.trans s13)
    clear s12 s13
    dsimp only [List.set]
    walk_at "go"
    refine ⟨A1, L, fs, es, rfl, SqL.of eA1, SqL.of eL, gA1.pos, gE.pos, l1, lE, fun v1 b1 => ?_⟩
    walk_at "go"
    refine ⟨L, A1, es, fs, rfl, SqL.of eL, SqL.of eA1, gE.pos, gA1.pos, lE, l1, fun v2 b2 => ?_⟩
    dsimp only [List.set]
    walk_at "go"
    obtain ⟨dx1, t1, en1⟩ := rF.at2
    refine ⟨f1, dx1, _, rfl, en1, rfl, ?_⟩
    clear en1
    walk_at "go"
    refine ⟨f1, g1, M, _, _, rfl, rF, rG, M0, M1, fun w2 J2 j2 B2 => ?_⟩
    obtain rfl : v1 = w2 := (B2.uniq b1).symm
    clear B2
    replace rF := rF.mono j2
    replace rG := rG.mono j2
    replace eA1 := j2 _ _ eA1
    replace eL := j2 _ _ eL
    replace sH := sH.trans j2
    clear j2
    walk_at "go"
    refine ⟨b1.kind, ?_⟩
    walk_at "go"
    obtain ⟨dx3, t3, en3⟩ := rG.at2
    refine ⟨g1, dx3, _, rfl, en3, rfl, ?_⟩
    clear en3
    walk_at "go"
    refine ⟨g1, f1, M, _, _, rfl, rG, rF, M0, M1, fun w4 J4 j4 B4 => ?_⟩
    obtain rfl : v2 = w4 := (B4.uniq b2).symm
    clear B4
    replace rF := rF.mono j4
    replace rG := rG.mono j4
    replace eA1 := j4 _ _ eA1
    replace eL := j4 _ _ eL
    replace sH := sH.trans j4
    clear j4
    walk_at "go"
    refine ⟨b2.kind, ?_⟩
    walk_at "go"
    obtain ⟨dx5, t5, en5⟩ := rF.at2
    refine ⟨f1, dx5, _, rfl, en5, rfl, ?_⟩
    clear en5
    walk_at "go"
    refine ⟨f1, g1, M, _, _, rfl, rF, rG, M0, M1, fun w6 J6 j6 B6 => ?_⟩
    obtain rfl : v1 = w6 := (B6.uniq b1).symm
    clear B6
    replace rF := rF.mono j6
    replace rG := rG.mono j6
    replace eA1 := j6 _ _ eA1
    replace eL := j6 _ _ eL
    replace sH := sH.trans j6
    clear j6
    walk_at "go"
    refine ⟨b1.kind, ?_⟩
    walk_at "go"
    refine rd_bin rF rG M0 M1 (fun q7 J7 j7 Q7 => ?_)
    replace rF := rF.mono j7
    replace rG := rG.mono j7
    replace eA1 := j7 _ _ eA1
    replace eL := j7 _ _ eL
    replace sH := sH.trans j7
    clear j7
    walk_at "go"
    obtain ⟨dx8, t8, en8⟩ := Q7.at2
    refine ⟨q7, dx8, _, rfl, en8, rfl, ?_⟩
    clear en8
    walk_at "go"
    refine ⟨q7, g1, M, _, _, rfl, Q7, rG, M0, M1, fun w9 J9 j9 B9 => ?_⟩
    obtain rfl : v1 = w9 := ((B9.congr (fun d => by show max (dv fs d) (dv es d) > dv es d ↔ dv fs d > dv es d; omega)).uniq b1).symm
    clear B9
    replace rF := rF.mono j9
    replace rG := rG.mono j9
    replace eA1 := j9 _ _ eA1
    replace eL := j9 _ _ eL
    replace sH := sH.trans j9
    clear j9
    walk_at "go"
    refine ⟨b1.kind, ?_⟩
    walk_at "go"
    refine rd_bin rG rF M0 M1 (fun q10 J10 j10 Q10 => ?_)
    replace rF := rF.mono j10
    replace rG := rG.mono j10
    replace eA1 := j10 _ _ eA1
    replace eL := j10 _ _ eL
    replace sH := sH.trans j10
    clear j10
    walk_at "go"
    obtain ⟨dx11, t11, en11⟩ := Q10.at2
    refine ⟨q10, dx11, _, rfl, en11, rfl, ?_⟩
    clear en11
    walk_at "go"
    refine ⟨q10, f1, M, _, _, rfl, Q10, rF, M0, M1, fun w12 J12 j12 B12 => ?_⟩
    obtain rfl : v2 = w12 := ((B12.congr (fun d => by show max (dv es d) (dv fs d) > dv fs d ↔ dv es d > dv fs d; omega)).uniq b2).symm
    clear B12
    replace rF := rF.mono j12
    replace rG := rG.mono j12
    replace eA1 := j12 _ _ eA1
    replace eL := j12 _ _ eL
    replace sH := sH.trans j12
    clear j12
    walk_at "go"
    refine ⟨b2.kind, ?_⟩
    walk_at "go"
    refine rd_bin rF rG M0 M1 (fun q13 J13 j13 Q13 => ?_)
    replace rF := rF.mono j13
    replace rG := rG.mono j13
    replace eA1 := j13 _ _ eA1
    replace eL := j13 _ _ eL
    replace sH := sH.trans j13
    clear j13
    walk_at "go"
    obtain ⟨dx14, t14, en14⟩ := Q13.at2
    refine ⟨q13, dx14, _, rfl, en14, rfl, ?_⟩
    clear en14
    walk_at "go"
    refine ⟨q13, f1, M, _, _, rfl, Q13, rF, M0, M1, fun w15 J15 j15 B15 => ?_⟩
    obtain rfl : .non = w15 := (B15.uniq (.inr ⟨rfl, fun d => by show ¬ min (dv fs d) (dv es d) > dv fs d; omega⟩)).symm
    clear B15
    replace rF := rF.mono j15
    replace rG := rG.mono j15
    replace eA1 := j15 _ _ eA1
    replace eL := j15 _ _ eL
    replace sH := sH.trans j15
    clear j15
    walk_at "go"
    refine rd_bin rF rG M0 M1 (fun q16 J16 j16 Q16 => ?_)
    replace rF := rF.mono j16
    replace rG := rG.mono j16
    replace eA1 := j16 _ _ eA1
    replace eL := j16 _ _ eL
    replace sH := sH.trans j16
    clear j16
    walk_at "go"
    obtain ⟨dx17, t17, en17⟩ := Q16.at2
    refine ⟨q16, dx17, _, rfl, en17, rfl, ?_⟩
    clear en17
    walk_at "go"
    refine ⟨q16, g1, M, _, _, rfl, Q16, rG, M0, M1, fun w18 J18 j18 B18 => ?_⟩
    obtain rfl : .non = w18 := (B18.uniq (.inr ⟨rfl, fun d => by show ¬ min (dv fs d) (dv es d) > dv es d; omega⟩)).symm
    clear B18
    replace rF := rF.mono j18
    replace rG := rG.mono j18
    replace eA1 := j18 _ _ eA1
    replace eL := j18 _ _ eL
    replace sH := sH.trans j18
    clear j18
    walk_at "go"
    obtain ⟨dx19, t19, en19⟩ := rF.at2
    refine ⟨f1, dx19, _, rfl, en19, rfl, ?_⟩
    clear en19
    walk_at "go"
    refine ⟨f1, f1, M, _, _, rfl, rF, rF, M0, M1, fun w20 J20 j20 B20 => ?_⟩
    obtain rfl : .non = w20 := (B20.uniq (.inr ⟨rfl, fun d => by omega⟩)).symm
    clear B20
    replace rF := rF.mono j20
    replace rG := rG.mono j20
    replace eA1 := j20 _ _ eA1
    replace eL := j20 _ _ eL
    replace sH := sH.trans j20
    clear j20
    walk_at "go"
    refine ⟨a, ns, 2, rfl, sH.seq hS, ?_⟩
    walk_at "go"
    refine ⟨by show (0 : Int) < 2 * 10 ^ 39 + 1; omega, ?_⟩
    walk_at "go"
    generalize eX : (fun i j : Int => V.int (i - j)) _ _ = vX
    obtain ⟨st, rfl⟩ : ∃ st, vX = V.int st := ⟨_, eX.symm⟩
    clear eX
    walk_at "go"
    refine ⟨st, M, rfl, fun q21 J21 j21 Q21 => ?_⟩
    replace rF := rF.mono j21
    replace rG := rG.mono j21
    replace eA1 := j21 _ _ eA1
    replace eL := j21 _ _ eL
    replace sH := sH.trans j21
    clear j21
    walk_at "go"
    refine rd_bin rF Q21 M0 M1 (fun q22 J22 j22 Q22 => ?_)
    replace rF := rF.mono j22
    replace rG := rG.mono j22
    replace eA1 := j22 _ _ eA1
    replace eL := j22 _ _ eL
    replace sH := sH.trans j22
    clear j22
    walk_at "go"
    obtain ⟨dx23, t23, en23⟩ := Q22.at2
    refine ⟨q22, dx23, _, rfl, en23, rfl, ?_⟩
    clear en23
    walk_at "go"
    refine ⟨st, M, rfl, fun q24 J24 j24 Q24 => ?_⟩
    replace rF := rF.mono j24
    replace rG := rG.mono j24
    replace Q22 := Q22.mono j24
    replace eA1 := j24 _ _ eA1
    replace eL := j24 _ _ eL
    replace sH := sH.trans j24
    clear j24
    walk_at "go"
    refine rd_bin rG Q24 M0 M1 (fun q25 J25 j25 Q25 => ?_)
    replace rF := rF.mono j25
    replace rG := rG.mono j25
    replace Q22 := Q22.mono j25
    replace eA1 := j25 _ _ eA1
    replace eL := j25 _ _ eL
    replace sH := sH.trans j25
    clear j25
    walk_at "go"
    refine ⟨q22, q25, M, _, _, rfl, Q22, Q25, M0, M1, fun w26 J26 j26 B26 => ?_⟩
    obtain rfl : v1 = w26 := ((B26.congr (fun d => by show dv fs d + st > dv es d + st ↔ dv fs d > dv es d; omega)).uniq b1).symm
    clear B26
    replace rF := rF.mono j26
    replace rG := rG.mono j26
    replace Q22 := Q22.mono j26
    replace eA1 := j26 _ _ eA1
    replace eL := j26 _ _ eL
    replace sH := sH.trans j26
    clear j26
    walk_at "go"
    refine ⟨b1.kind, ?_⟩
    walk_at "go"
    refine ⟨1, M, rfl, fun q27 J27 j27 Q27 => ?_⟩
    replace rF := rF.mono j27
    replace rG := rG.mono j27
    replace eA1 := j27 _ _ eA1
    replace eL := j27 _ _ eL
    replace sH := sH.trans j27
    clear j27
    walk_at "go"
    refine rd_bin rF Q27 M0 M1 (fun q28 J28 j28 Q28 => ?_)
    replace rF := rF.mono j28
    replace rG := rG.mono j28
    replace eA1 := j28 _ _ eA1
    replace eL := j28 _ _ eL
    replace sH := sH.trans j28
    clear j28
    walk_at "go"
    obtain ⟨dx29, t29, en29⟩ := rF.at2
    refine ⟨f1, dx29, _, rfl, en29, rfl, ?_⟩
    clear en29
    walk_at "go"
    refine ⟨f1, q28, M, _, _, rfl, rF, Q28, M0, M1, fun w30 J30 j30 B30 => ?_⟩
    obtain rfl : .non = w30 := (B30.uniq (.inr ⟨rfl, fun d => by show ¬ dv fs d > dv fs d + 1; omega⟩)).symm
    clear B30
    replace rF := rF.mono j30
    replace rG := rG.mono j30
    replace Q28 := Q28.mono j30
    replace eA1 := j30 _ _ eA1
    replace eL := j30 _ _ eL
    replace sH := sH.trans j30
    clear j30
    walk_at "go"
    obtain ⟨dx31, t31, en31⟩ := Q28.at2
    refine ⟨q28, dx31, _, rfl, en31, rfl, ?_⟩
    clear en31
    walk_at "go"
    refine ⟨q28, f1, M, _, _, rfl, Q28, rF, M0, M1, fun w32 J32 j32 B32 => ?_⟩
    obtain rfl : .int 0 = w32 := (B32.uniq (.inl ⟨0, rfl, by show dv fs ((0 : Nat) : Int) + 1 > dv fs ((0 : Nat) : Int); omega, fun e h => absurd h (by omega)⟩)).symm
    clear B32
    replace rF := rF.mono j32
    replace rG := rG.mono j32
    replace Q28 := Q28.mono j32
    replace eA1 := j32 _ _ eA1
    replace eL := j32 _ _ eL
    replace sH := sH.trans j32
    clear j32
    walk_at "go"
    obtain ⟨⟨z33ds, z33rN, z33oF, z33lF⟩, _, _⟩ := id rF
    obtain ⟨z33dx, z33t, z33a, z33b⟩ := z33rN
    have lz33ds := lp_le z33lF M0 rF.per
    walk_at "go"
    refine ⟨A1, fs, rfl, SqL.of eA1, gA1.pos, by omega, fun z33p z33lp => ?_⟩
    obtain rfl := z33lp.uniq z33lF
    obtain ⟨z33q1, z33q2, z33q3⟩ := o1.take z33lp
    walk_at "go"
    refine ⟨A1, _, rfl, SqL.of eA1, ?_⟩
    rw [cut_take z33q1, z33q3.eq z33oF z33q2]
    intro Yz33 nYz33
    generalize eH_ : upd J32 Yz33 _ = Kz33
    have sz33 : Same J32 Kz33 := by rw [← eH_]; exact same_new nYz33
    have eYz33 : Kz33 Yz33 = some (.lst (z33ds.map V.int)) := by rw [← eH_]; exact upd_same
    clear eH_
    replace z33b := sz33 _ _ z33b
    replace rF := rF.mono sz33
    replace rG := rG.mono sz33
    replace Q28 := Q28.mono sz33
    replace eA1 := sz33 _ _ eA1
    replace eL := sz33 _ _ eL
    replace sH := sH.trans sz33
    clear sz33
    walk_at "go"
    refine ⟨z33t, Yz33, z33ds, rfl, z33b, SqL.of eYz33, by omega, ?_⟩
    walk_at "go"
    obtain ⟨⟨z34ds, z34rN, z34oF, z34lF⟩, _, _⟩ := id rG
    obtain ⟨z34dx, z34t, z34a, z34b⟩ := z34rN
    have lz34ds := lp_le z34lF M0 rG.per
    walk_at "go"
    refine ⟨L, es, rfl, SqL.of eL, gE.pos, by omega, fun z34p z34lp => ?_⟩
    obtain rfl := z34lp.uniq z34lF
    obtain ⟨z34q1, z34q2, z34q3⟩ := o2.take z34lp
    walk_at "go"
    refine ⟨L, _, rfl, SqL.of eL, ?_⟩
    rw [cut_take z34q1, z34q3.eq z34oF z34q2]
    intro Yz34 nYz34
    generalize eH_ : upd Kz33 Yz34 _ = Kz34
    have sz34 : Same Kz33 Kz34 := by rw [← eH_]; exact same_new nYz34
    have eYz34 : Kz34 Yz34 = some (.lst (z34ds.map V.int)) := by rw [← eH_]; exact upd_same
    clear eH_
    replace z34b := sz34 _ _ z34b
    replace rF := rF.mono sz34
    replace rG := rG.mono sz34
    replace Q28 := Q28.mono sz34
    replace eA1 := sz34 _ _ eA1
    replace eL := sz34 _ _ eL
    replace sH := sH.trans sz34
    clear sz34
    walk_at "go"
    refine ⟨z34t, Yz34, z34ds, rfl, z34b, SqL.of eYz34, by omega, ?_⟩
    walk_at "go"
    exact q _ sH
def spLaw (K : PySem.W.Frag) : Sp := fun vs H Q _ => ∃ (a : Addr) (ns : List Int), vs = [.ref a] ∧ SqL K H a (ns.map V.int) ∧ ns.length ≤ 63 ∧ ∀ H', Q (.bl true) H'
theorem ok_law (F : FnP K "law" s_law f fd) (c_one : Cal P w K mg base 9 "_law_one" (spOne K)) (c_two : Cal P w K mg base 7 "_law_two" (spOne K)) : FnOk P w K mg base CX0 10 f fd P_law (spLaw K) := by
  refine F.ok sc_law (fun vs H Q E h => ?_) (fun cdv A outer s H vs Q E hr h => ?_)
  · obtain ⟨a, ns, rfl, _⟩ := h
    rfl
  · obtain ⟨a, ns, rfl, hS, hl, q⟩ := h
    refine ⟨_, PSs.nox (pss_one (ps_ret (pe_and (pe_cl c_one hr (by decide) (by rfl) (pa_cons (pv 0) pa_nil)) (pe_one (pe_cl c_two hr (by decide) (by rfl) (pa_cons (pv 0) pa_nil)))))), ?_⟩
    walk_at "go"
    refine ⟨a, ns, rfl, hS, hl, fun H1 s1 => ?_⟩
    walk_at "go"
    refine ⟨a, ns, rfl, s1.seq hS, hl, fun H2 s2 => ?_⟩
    exact q _
end
end Z
set_option pp.maxSteps 700
set_option Elab.async false
set_option linter.all false
set_option maxRecDepth 100000
set_option maxHeartbeats 4000000
set_option maxHeartbeats 0
namespace Z
open PySem PySem.Spec PyProof.Rows L2 Dy
def d_common_divisor : He.DefD := ⟨("common_divisor", none), "common_divisor", "common_divisor", defArgs s_common_divisor, defBody s_common_divisor, defScope s_common_divisor, [], []⟩
def d_check_days : He.DefD := ⟨("check_days", none), "check_days", "check_days", defArgs s_check_days, defBody s_check_days, defScope s_check_days, [], []⟩
def d_least_period : He.DefD := ⟨("least_period", none), "least_period", "least_period", defArgs s_least_period, defBody s_least_period, defScope s_least_period, [], []⟩
def d_day_at : He.DefD := ⟨("day_at", none), "day_at", "day_at", defArgs s_day_at, defBody s_day_at, defScope s_day_at, [], []⟩
def d_used_times : He.DefD := ⟨("used_times", none), "used_times", "used_times", defArgs s_used_times, defBody s_used_times, defScope s_used_times, [], []⟩
def d_latest_days : He.DefD := ⟨("latest_days", none), "latest_days", "latest_days", defArgs s_latest_days, defBody s_latest_days, defScope s_latest_days, [], []⟩
def d_common_period : He.DefD := ⟨("common_period", none), "common_period", "common_period", defArgs s_common_period, defBody s_common_period, defScope s_common_period, [], []⟩
def d_shift : He.DefD := ⟨("shift", none), "shift", "shift", defArgs s_shift, defBody s_shift, defScope s_shift, [], []⟩
def d_check_good : He.DefD := ⟨("check_good", none), "check_good", "check_good", defArgs s_check_good, defBody s_check_good, defScope s_check_good, [], []⟩
def d_next_good : He.DefD := ⟨("next_good", none), "next_good", "next_good", defArgs s_next_good, defBody s_next_good, defScope s_next_good, [], []⟩
def d_last_good : He.DefD := ⟨("last_good", none), "last_good", "last_good", defArgs s_last_good, defBody s_last_good, defScope s_last_good, [], []⟩
def d_DayRule___init__ : He.DefD := ⟨("DayRule", some "__init__"), "__init__", "DayRule.__init__", defArgs s_DayRule___init__, defBody s_DayRule___init__, defScope s_DayRule___init__, [], []⟩
def d_DayRule___call__ : He.DefD := ⟨("DayRule", some "__call__"), "__call__", "DayRule.__call__", defArgs s_DayRule___call__, defBody s_DayRule___call__, defScope s_DayRule___call__, [], []⟩
def d_DayRule___eq__ : He.DefD := ⟨("DayRule", some "__eq__"), "__eq__", "DayRule.__eq__", defArgs s_DayRule___eq__, defBody s_DayRule___eq__, defScope s_DayRule___eq__, [], []⟩
def d_DayRule___rshift__ : He.DefD := ⟨("DayRule", some "__rshift__"), "__rshift__", "DayRule.__rshift__", defArgs s_DayRule___rshift__, defBody s_DayRule___rshift__, defScope s_DayRule___rshift__, [], []⟩
def d_DayRule___or__ : He.DefD := ⟨("DayRule", some "__or__"), "__or__", "DayRule.__or__", defArgs s_DayRule___or__, defBody s_DayRule___or__, defScope s_DayRule___or__, [], []⟩
def d_DayRule___and__ : He.DefD := ⟨("DayRule", some "__and__"), "__and__", "DayRule.__and__", defArgs s_DayRule___and__, defBody s_DayRule___and__, defScope s_DayRule___and__, [], []⟩
def d_DayRule___mul__ : He.DefD := ⟨("DayRule", some "__mul__"), "__mul__", "DayRule.__mul__", defArgs s_DayRule___mul__, defBody s_DayRule___mul__, defScope s_DayRule___mul__, [], []⟩
def d_DayRule_latest : He.DefD := ⟨("DayRule", some "latest"), "latest", "DayRule.latest", defArgs s_DayRule_latest, defBody s_DayRule_latest, defScope s_DayRule_latest, [], []⟩
def d_DayRule_soonest : He.DefD := ⟨("DayRule", some "soonest"), "soonest", "DayRule.soonest", defArgs s_DayRule_soonest, defBody s_DayRule_soonest, defScope s_DayRule_soonest, [], []⟩
def d_DayRule_exceeds : He.DefD := ⟨("DayRule", some "exceeds"), "exceeds", "DayRule.exceeds", defArgs s_DayRule_exceeds, defBody s_DayRule_exceeds, defScope s_DayRule_exceeds, [], []⟩
def d_cell : He.DefD := ⟨("_law_cell", none), "_law_cell", "_law_cell", defArgs s_cell, defBody s_cell, defScope s_cell, [], []⟩
def d_draws : He.DefD := ⟨("_law_draws", none), "_law_draws", "_law_draws", defArgs s_draws, defBody s_draws, defScope s_draws, [], []⟩
def d_take : He.DefD := ⟨("_law_take", none), "_law_take", "_law_take", defArgs s_take, defBody s_take, defScope s_take, [], []⟩
def d_whole : He.DefD := ⟨("_law_whole", none), "_law_whole", "_law_whole", defArgs s_whole, defBody s_whole, defScope s_whole, [], []⟩
def d_same : He.DefD := ⟨("_law_same", none), "_law_same", "_law_same", defArgs s_same, defBody s_same, defScope s_same, [], []⟩
def d_row_is : He.DefD := ⟨("_law_row_is", none), "_law_row_is", "_law_row_is", defArgs s_row_is, defBody s_row_is, defScope s_row_is, [], []⟩
def d_asked : He.DefD := ⟨("_law_asked", none), "_law_asked", "_law_asked", defArgs s_asked, defBody s_asked, defScope s_asked, [], []⟩
def d_good : He.DefD := ⟨("_law_good", none), "_law_good", "_law_good", defArgs s_good, defBody s_good, defScope s_good, [], []⟩
def d_next : He.DefD := ⟨("_law_next", none), "_law_next", "_law_next", defArgs s_next, defBody s_next, defScope s_next, [], []⟩
def d_last : He.DefD := ⟨("_law_last", none), "_law_last", "_law_last", defArgs s_last, defBody s_last, defScope s_last, [], []⟩
def d_counted : He.DefD := ⟨("_law_counted", none), "_law_counted", "_law_counted", defArgs s_counted, defBody s_counted, defScope s_counted, [], []⟩
def d_counted_back : He.DefD := ⟨("_law_counted_back", none), "_law_counted_back", "_law_counted_back", defArgs s_counted_back, defBody s_counted_back, defScope s_counted_back, [], []⟩
def d_told : He.DefD := ⟨("_law_told", none), "_law_told", "_law_told", defArgs s_told, defBody s_told, defScope s_told, [], []⟩
def d_refusals_hold : He.DefD := ⟨("_law_refusals_hold", none), "_law_refusals_hold", "_law_refusals_hold", defArgs s_refusals_hold, defBody s_refusals_hold, defScope s_refusals_hold, [], []⟩
def d_first : He.DefD := ⟨("_law_first", none), "_law_first", "_law_first", defArgs s_first, defBody s_first, defScope s_first, [], []⟩
def d_size : He.DefD := ⟨("_law_size", none), "_law_size", "_law_size", defArgs s_size, defBody s_size, defScope s_size, [], []⟩
def d_days : He.DefD := ⟨("_law_days", none), "_law_days", "_law_days", defArgs s_days, defBody s_days, defScope s_days, [], []⟩
def d_value : He.DefD := ⟨("_law_value", none), "_law_value", "_law_value", defArgs s_value, defBody s_value, defScope s_value, [], []⟩
def d_repeats : He.DefD := ⟨("_law_repeats", none), "_law_repeats", "_law_repeats", defArgs s_repeats, defBody s_repeats, defScope s_repeats, [], []⟩
def d_least : He.DefD := ⟨("_law_least", none), "_law_least", "_law_least", defArgs s_least, defBody s_least, defScope s_least, [], []⟩
def d_span : He.DefD := ⟨("_law_span", none), "_law_span", "_law_span", defArgs s_span, defBody s_span, defScope s_span, [], []⟩
def d_second : He.DefD := ⟨("_law_second", none), "_law_second", "_law_second", defArgs s_second, defBody s_second, defScope s_second, [], []⟩
def d_first_beyond : He.DefD := ⟨("_law_first_beyond", none), "_law_first_beyond", "_law_first_beyond", defArgs s_first_beyond, defBody s_first_beyond, defScope s_first_beyond, [], []⟩
def d_is : He.DefD := ⟨("_law_is", none), "_law_is", "_law_is", defArgs s_is, defBody s_is, defScope s_is, [], []⟩
def d_one : He.DefD := ⟨("_law_one", none), "_law_one", "_law_one", defArgs s_one, defBody s_one, defScope s_one, [], []⟩
def d_two : He.DefD := ⟨("_law_two", none), "_law_two", "_law_two", defArgs s_two, defBody s_two, defScope s_two, [], []⟩
def d_law : He.DefD := ⟨("law", none), "law", "law", defArgs s_law, defBody s_law, defScope s_law, [], []⟩
abbrev s_BadDays___init__ : Stmt := inClass (topS 6) 0
theorem xn_BadDays {P : Program} {w : World} {K : PySem.W.Frag} {mg : Str → Option Value} {base : Heap} {fl : Str} (h1 : supObs K "BadDays" = supVal "BadDays.__init__" s_BadDays___init__) (h : ExnF K (He.ga K "BadDays") "BadDays.__init__" "at" fl) (hfl : ((P.main.file : Str) == fl) = true) (htop : (P.main.scope.names.lookup ("super" : Str)).isSome = false) (g : mg "BadDays" = some (.ref (He.ga K "BadDays"))) (m_super : mg "super" = none) : Exn P w K mg base "BadDays" (He.ga K "BadDays") "at" := by
  obtain ⟨c, cc, fd, kV, doc, pm, ct, an, hfd, S, hcd⟩ := sup_of h1 h.sup hfl htop
  refine ⟨S.oex, g, He.ma K _ "__init__", fd, ["self", "at"], h.ini, h.ty, ?_, ?_⟩
  · exact exn_ok (v := "at") (F := ⟨"__init__", "BadDays.__init__", defArgs s_BadDays___init__, defBody s_BadDays___init__, defScope s_BadDays___init__, [("__class__", cc)], c⟩) hfd S hcd (NdefX.nscope_by (sc := defScope s_BadDays___init__) (by decide +kernel)) rfl rfl rfl (show (defScope s_BadDays___init__).names.lookup ("super" : Str) = some .globalImplicit by decide +kernel) m_super h.no (by decide) (by decide) rfl (fun _ _ _ _ _ => rfl) (fun _ _ _ _ _ => rfl) (fun _ _ _ _ _ => rfl) (fun _ _ _ _ _ => rfl)
  · subst hfd
    exact Binds.all fun us hl => match us, hl with | [_, _], _ => rfl
abbrev s_BadCount___init__ : Stmt := inClass (topS 5) 0
theorem xn_BadCount {P : Program} {w : World} {K : PySem.W.Frag} {mg : Str → Option Value} {base : Heap} {fl : Str} (h1 : supObs K "BadCount" = supVal "BadCount.__init__" s_BadCount___init__) (h : ExnF K (He.ga K "BadCount") "BadCount.__init__" "value" fl) (hfl : ((P.main.file : Str) == fl) = true) (htop : (P.main.scope.names.lookup ("super" : Str)).isSome = false) (g : mg "BadCount" = some (.ref (He.ga K "BadCount"))) (m_super : mg "super" = none) : Exn P w K mg base "BadCount" (He.ga K "BadCount") "value" := by
  obtain ⟨c, cc, fd, kV, doc, pm, ct, an, hfd, S, hcd⟩ := sup_of h1 h.sup hfl htop
  refine ⟨S.oex, g, He.ma K _ "__init__", fd, ["self", "value"], h.ini, h.ty, ?_, ?_⟩
  · exact exn_ok (v := "value") (F := ⟨"__init__", "BadCount.__init__", defArgs s_BadCount___init__, defBody s_BadCount___init__, defScope s_BadCount___init__, [("__class__", cc)], c⟩) hfd S hcd (NdefX.nscope_by (sc := defScope s_BadCount___init__) (by decide +kernel)) rfl rfl rfl (show (defScope s_BadCount___init__).names.lookup ("super" : Str) = some .globalImplicit by decide +kernel) m_super h.no (by decide) (by decide) rfl (fun _ _ _ _ _ => rfl) (fun _ _ _ _ _ => rfl) (fun _ _ _ _ _ => rfl) (fun _ _ _ _ _ => rfl)
  · subst hfd
    exact Binds.all fun us hl => match us, hl with | [_, _], _ => rfl
def xns : List (PySem.W.Frag → SupV) := [fun K => supObs K "BadDays", fun K => supObs K "BadCount"]
def exPr (K : PySem.W.Frag) : List Bool := []
def xvs : List SupV := [supVal "BadDays.__init__" s_BadDays___init__, supVal "BadCount.__init__" s_BadCount___init__]
def exXn (fl : Str) (K : PySem.W.Frag) : List Bool := [exnB fl "BadDays.__init__" "at" K (He.ga K "BadDays"), exnB fl "BadCount.__init__" "value" K (He.ga K "BadCount")]
def fn : List He.DefD := [d_common_divisor, d_check_days, d_least_period, d_day_at, d_used_times, d_latest_days, d_common_period, d_shift, d_check_good, d_next_good, d_last_good, d_DayRule___init__, d_DayRule___call__, d_DayRule___eq__, d_DayRule___rshift__, d_DayRule___or__, d_DayRule___and__, d_DayRule___mul__, d_DayRule_latest, d_DayRule_soonest, d_DayRule_exceeds, d_cell, d_draws, d_take, d_whole, d_same, d_row_is, d_asked, d_good, d_next, d_last, d_counted, d_counted_back, d_told, d_refusals_hold, d_first, d_size, d_days, d_value, d_repeats, d_least, d_span, d_second, d_first_beyond, d_is, d_one, d_two, d_law]
def fa : List He.Fa := [.glo "common_divisor", .glo "check_days", .glo "least_period", .glo "day_at", .glo "used_times", .glo "latest_days", .glo "common_period", .glo "shift", .glo "check_good", .glo "next_good", .glo "last_good", .glo "_law_cell", .glo "_law_draws", .glo "_law_take", .glo "_law_whole", .glo "_law_same", .glo "_law_row_is", .glo "_law_asked", .glo "_law_good", .glo "_law_next", .glo "_law_last", .glo "_law_counted", .glo "_law_counted_back", .glo "_law_told", .glo "_law_refusals_hold", .glo "_law_first", .glo "_law_size", .glo "_law_days", .glo "_law_value", .glo "_law_repeats", .glo "_law_least", .glo "_law_span", .glo "_law_second", .glo "_law_first_beyond", .glo "_law_is", .glo "_law_one", .glo "_law_two", .glo "law", .free "abs", .free "all", .free "bool", .free "enumerate", .free "int", .free "isinstance", .free "len", .free "list", .free "max", .free "min", .free "range", .free "super", .free "tuple", .glo "DayRule", .cls "DayRule", .mkr "DayRule", .noat "DayRule" "days", .meth "DayRule" "latest", .meth "DayRule" "soonest", .meth "DayRule" "exceeds", .glo "HouseError", .glo "BadDays", .glo "BadCount"]
def loose : List Str := [("_wall" : Str), ("common_divisor" : Str), ("HouseError" : Str), ("BadCount" : Str), ("BadDays" : Str), ("check_days" : Str), ("least_period" : Str), ("day_at" : Str), ("used_times" : Str), ("latest_days" : Str), ("common_period" : Str), ("DayRule" : Str), ("shift" : Str), ("check_good" : Str), ("next_good" : Str), ("last_good" : Str), ("_law_cell" : Str), ("_law_draws" : Str), ("_law_take" : Str), ("_law_whole" : Str), ("_law_same" : Str), ("_law_row_is" : Str), ("_law_asked" : Str), ("_law_good" : Str), ("_law_next" : Str), ("_law_last" : Str), ("_law_counted" : Str), ("_law_counted_back" : Str), ("_law_told" : Str), ("_law_refusals_hold" : Str), ("_law_first" : Str), ("_law_size" : Str), ("_law_days" : Str), ("_law_value" : Str), ("_law_repeats" : Str), ("_law_least" : Str), ("_law_span" : Str), ("_law_second" : Str), ("_law_first_beyond" : Str), ("_law_is" : Str), ("_law_one" : Str), ("_law_two" : Str)]
def fl : Str := PySem.Challenge.pw_signedpacts_k64_good_days_and_exceeds.main.file
def exL (K : PySem.W.Frag) : List Bool := [isB K (He.ga K "DayRule"), spB K (He.ga K "DayRule") "__call__", spB K (He.ga K "DayRule") "__eq__",
  spB K (He.ga K "DayRule") "__rshift__", spB K (He.ga K "DayRule") "__or__", spB K (He.ga K "DayRule") "__and__", spB K (He.ga K "DayRule") "__mul__",
  PySem.W.selfFirst K (He.ga K "DayRule"), He.eqO (PySem.W.findIn K (.ref (He.ga K "DayRule")) "__rmul__") (some none), (PySem.W.findIn K (.type "int") "__mul__").isSome, (PySem.W.findIn K (.type "int") "__rmul__").isSome, decide (PySem.W.subIn K (.type "int") (.ref (He.ga K "DayRule")) = some false),
  exmB K (He.ga K "BadDays") (He.ga K "BadDays"), kitVB K (He.ga K "BadDays") (.ref (He.ga K "HouseError")) true, kitVB K (He.ga K "BadDays") (.ref (He.ga K "BadCount")) false]
def ex (K : PySem.W.Frag) : Bool := (exL K).all id && ((exXn fl K).all id && (exPr K).all id)
abbrev R : PySem.W.OpenRow := PySem.W.OpenLaw.row PySem.Challenge.rw_signedpacts_k64_good_days_and_exceeds
abbrev hk : PySem.W.Hook := hookY 5 fa fn xns xvs ex
def ob (s : PySem.W.SharedT) : He.AlD × (List SupV × Bool) := obY 5 fa fn xns ex (HandSHeadRun.getT s)
theorem ob_eq (s : PySem.W.SharedT) : ob s = hk.obs s.abs := obY_eq (HandSHeadRun.getT_eq s)
theorem run (w : World) : HandSHeadRun.RunEq R (PySem.W.view R.prog [46]) hk ob 8000 loose w := by
  intro os
  kernel_rfl
theorem facts {P : Program} {w : World} {K : PySem.W.Frag} {h : Heap} {mg : Str → Option Value} {f : Addr} (X : K.In h) (G : h.Ns mainGlobals mg) (hfa : mg ("law" : Str) = some (.ref f)) (c : He.SaysD fa fn K) (cs : xns.map (fun f => f K) = xvs) (cx : ex K = true) (hfl : ((P.main.file : Str) == fl) = true) (htop : (P.main.scope.names.lookup ("super" : Str)).isSome = false) :
    ∃ fd : FuncData, (∀ (s : Shared) (v : Value), BindsTo s fd ⟨[v], []⟩ [("_law_script", v)]) ∧ ∀ base : Heap, K.In base → base.Ns mainGlobals mg → FnOk P w K mg base CX0 10 f fd ["_law_script"] (spLaw K) := by
  obtain ⟨cx, cy⟩ := He.ba cx
  obtain ⟨cy, cp⟩ := He.ba cy
  obtain ⟨fd_common_divisor, F_common_divisor⟩ := c.def_ 0 (d := d_common_divisor) rfl
  have F_common_divisor : FnP K "common_divisor" s_common_divisor _ fd_common_divisor := F_common_divisor
  have g_common_divisor := He.glo_ok X G (c.fact 0 (f := .glo "common_divisor") rfl)
  have b_common_divisor : Binds K fd_common_divisor P_common_divisor [] := F_common_divisor.bindsN fun _ _ _ _ _ _ us hl => match us, hl with | [_], _ => rfl
  obtain ⟨fd_check_days, F_check_days⟩ := c.def_ 1 (d := d_check_days) rfl
  have F_check_days : FnP K "check_days" s_check_days _ fd_check_days := F_check_days
  have g_check_days := He.glo_ok X G (c.fact 1 (f := .glo "check_days") rfl)
  have b_check_days : Binds K fd_check_days P_check_days [] := F_check_days.bindsN fun _ _ _ _ _ _ us hl => match us, hl with | [_], _ => rfl
  obtain ⟨fd_least_period, F_least_period⟩ := c.def_ 2 (d := d_least_period) rfl
  have F_least_period : FnP K "least_period" s_least_period _ fd_least_period := F_least_period
  have g_least_period := He.glo_ok X G (c.fact 2 (f := .glo "least_period") rfl)
  have b_least_period : Binds K fd_least_period P_least_period [] := F_least_period.bindsN fun _ _ _ _ _ _ us hl => match us, hl with | [_], _ => rfl
  obtain ⟨fd_day_at, F_day_at⟩ := c.def_ 3 (d := d_day_at) rfl
  have F_day_at : FnP K "day_at" s_day_at _ fd_day_at := F_day_at
  have g_day_at := He.glo_ok X G (c.fact 3 (f := .glo "day_at") rfl)
  have b_day_at : Binds K fd_day_at P_day_at [] := F_day_at.bindsN fun _ _ _ _ _ _ us hl => match us, hl with | [_, _], _ => rfl
  obtain ⟨fd_used_times, F_used_times⟩ := c.def_ 4 (d := d_used_times) rfl
  have F_used_times : FnP K "used_times" s_used_times _ fd_used_times := F_used_times
  have g_used_times := He.glo_ok X G (c.fact 4 (f := .glo "used_times") rfl)
  have b_used_times : Binds K fd_used_times P_used_times [] := F_used_times.bindsN fun _ _ _ _ _ _ us hl => match us, hl with | [_, _], _ => rfl
  obtain ⟨fd_latest_days, F_latest_days⟩ := c.def_ 5 (d := d_latest_days) rfl
  have F_latest_days : FnP K "latest_days" s_latest_days _ fd_latest_days := F_latest_days
  have g_latest_days := He.glo_ok X G (c.fact 5 (f := .glo "latest_days") rfl)
  have b_latest_days : Binds K fd_latest_days P_latest_days [] := F_latest_days.bindsN fun _ _ _ _ _ _ us hl => match us, hl with | [_], _ => rfl
  obtain ⟨fd_common_period, F_common_period⟩ := c.def_ 6 (d := d_common_period) rfl
  have F_common_period : FnP K "common_period" s_common_period _ fd_common_period := F_common_period
  have g_common_period := He.glo_ok X G (c.fact 6 (f := .glo "common_period") rfl)
  have b_common_period : Binds K fd_common_period P_common_period [] := F_common_period.bindsN fun _ _ _ _ _ _ us hl => match us, hl with | [_], _ => rfl
  obtain ⟨fd_shift, F_shift⟩ := c.def_ 7 (d := d_shift) rfl
  have F_shift : FnP K "shift" s_shift _ fd_shift := F_shift
  have g_shift := He.glo_ok X G (c.fact 7 (f := .glo "shift") rfl)
  have b_shift : Binds K fd_shift P_shift [] := F_shift.bindsN fun _ _ _ _ _ _ us hl => match us, hl with | [_], _ => rfl
  obtain ⟨fd_check_good, F_check_good⟩ := c.def_ 8 (d := d_check_good) rfl
  have F_check_good : FnP K "check_good" s_check_good _ fd_check_good := F_check_good
  have g_check_good := He.glo_ok X G (c.fact 8 (f := .glo "check_good") rfl)
  have b_check_good : Binds K fd_check_good P_check_good [] := F_check_good.bindsN fun _ _ _ _ _ _ us hl => match us, hl with | [_, _], _ => rfl
  obtain ⟨fd_next_good, F_next_good⟩ := c.def_ 9 (d := d_next_good) rfl
  have F_next_good : FnP K "next_good" s_next_good _ fd_next_good := F_next_good
  have g_next_good := He.glo_ok X G (c.fact 9 (f := .glo "next_good") rfl)
  have b_next_good : Binds K fd_next_good P_next_good [] := F_next_good.bindsN fun _ _ _ _ _ _ us hl => match us, hl with | [_, _], _ => rfl
  obtain ⟨fd_last_good, F_last_good⟩ := c.def_ 10 (d := d_last_good) rfl
  have F_last_good : FnP K "last_good" s_last_good _ fd_last_good := F_last_good
  have g_last_good := He.glo_ok X G (c.fact 10 (f := .glo "last_good") rfl)
  have b_last_good : Binds K fd_last_good P_last_good [] := F_last_good.bindsN fun _ _ _ _ _ _ us hl => match us, hl with | [_, _], _ => rfl
  obtain ⟨fd_DayRule___init__, F_DayRule___init__⟩ := c.def_ 11 (d := d_DayRule___init__) rfl
  have F_DayRule___init__ : FnM K "__init__" "DayRule.__init__" s_DayRule___init__ (He.ma K (He.ga K "DayRule") "__init__") fd_DayRule___init__ := F_DayRule___init__
  have b_DayRule___init__ : Binds K fd_DayRule___init__ P_DayRule___init__ [] := F_DayRule___init__.bindsN fun _ _ _ _ _ _ us hl => match us, hl with | [_, _], _ => rfl
  obtain ⟨fd_DayRule___call__, F_DayRule___call__⟩ := c.def_ 12 (d := d_DayRule___call__) rfl
  have F_DayRule___call__ : FnM K "__call__" "DayRule.__call__" s_DayRule___call__ (He.ma K (He.ga K "DayRule") "__call__") fd_DayRule___call__ := F_DayRule___call__
  have b_DayRule___call__ : Binds K fd_DayRule___call__ P_DayRule___call__ [] := F_DayRule___call__.bindsN fun _ _ _ _ _ _ us hl => match us, hl with | [_, _], _ => rfl
  obtain ⟨fd_DayRule___eq__, F_DayRule___eq__⟩ := c.def_ 13 (d := d_DayRule___eq__) rfl
  have F_DayRule___eq__ : FnM K "__eq__" "DayRule.__eq__" s_DayRule___eq__ (He.ma K (He.ga K "DayRule") "__eq__") fd_DayRule___eq__ := F_DayRule___eq__
  have b_DayRule___eq__ : Binds K fd_DayRule___eq__ P_DayRule___eq__ [] := F_DayRule___eq__.bindsN fun _ _ _ _ _ _ us hl => match us, hl with | [_, _], _ => rfl
  obtain ⟨fd_DayRule___rshift__, F_DayRule___rshift__⟩ := c.def_ 14 (d := d_DayRule___rshift__) rfl
  have F_DayRule___rshift__ : FnM K "__rshift__" "DayRule.__rshift__" s_DayRule___rshift__ (He.ma K (He.ga K "DayRule") "__rshift__") fd_DayRule___rshift__ := F_DayRule___rshift__
  have b_DayRule___rshift__ : Binds K fd_DayRule___rshift__ P_DayRule___rshift__ [] := F_DayRule___rshift__.bindsN fun _ _ _ _ _ _ us hl => match us, hl with | [_, _], _ => rfl
  obtain ⟨fd_DayRule___or__, F_DayRule___or__⟩ := c.def_ 15 (d := d_DayRule___or__) rfl
  have F_DayRule___or__ : FnM K "__or__" "DayRule.__or__" s_DayRule___or__ (He.ma K (He.ga K "DayRule") "__or__") fd_DayRule___or__ := F_DayRule___or__
  have b_DayRule___or__ : Binds K fd_DayRule___or__ P_DayRule___or__ [] := F_DayRule___or__.bindsN fun _ _ _ _ _ _ us hl => match us, hl with | [_, _], _ => rfl
  obtain ⟨fd_DayRule___and__, F_DayRule___and__⟩ := c.def_ 16 (d := d_DayRule___and__) rfl
  have F_DayRule___and__ : FnM K "__and__" "DayRule.__and__" s_DayRule___and__ (He.ma K (He.ga K "DayRule") "__and__") fd_DayRule___and__ := F_DayRule___and__
  have b_DayRule___and__ : Binds K fd_DayRule___and__ P_DayRule___and__ [] := F_DayRule___and__.bindsN fun _ _ _ _ _ _ us hl => match us, hl with | [_, _], _ => rfl
  obtain ⟨fd_DayRule___mul__, F_DayRule___mul__⟩ := c.def_ 17 (d := d_DayRule___mul__) rfl
  have F_DayRule___mul__ : FnM K "__mul__" "DayRule.__mul__" s_DayRule___mul__ (He.ma K (He.ga K "DayRule") "__mul__") fd_DayRule___mul__ := F_DayRule___mul__
  have b_DayRule___mul__ : Binds K fd_DayRule___mul__ P_DayRule___mul__ [] := F_DayRule___mul__.bindsN fun _ _ _ _ _ _ us hl => match us, hl with | [_, _], _ => rfl
  obtain ⟨fd_DayRule_latest, F_DayRule_latest⟩ := c.def_ 18 (d := d_DayRule_latest) rfl
  have F_DayRule_latest : FnM K "latest" "DayRule.latest" s_DayRule_latest (He.ma K (He.ga K "DayRule") "latest") fd_DayRule_latest := F_DayRule_latest
  have b_DayRule_latest : Binds K fd_DayRule_latest P_DayRule_latest [] := F_DayRule_latest.bindsN fun _ _ _ _ _ _ us hl => match us, hl with | [_], _ => rfl
  obtain ⟨fd_DayRule_soonest, F_DayRule_soonest⟩ := c.def_ 19 (d := d_DayRule_soonest) rfl
  have F_DayRule_soonest : FnM K "soonest" "DayRule.soonest" s_DayRule_soonest (He.ma K (He.ga K "DayRule") "soonest") fd_DayRule_soonest := F_DayRule_soonest
  have b_DayRule_soonest : Binds K fd_DayRule_soonest P_DayRule_soonest [] := F_DayRule_soonest.bindsN fun _ _ _ _ _ _ us hl => match us, hl with | [_], _ => rfl
  obtain ⟨fd_DayRule_exceeds, F_DayRule_exceeds⟩ := c.def_ 20 (d := d_DayRule_exceeds) rfl
  have F_DayRule_exceeds : FnM K "exceeds" "DayRule.exceeds" s_DayRule_exceeds (He.ma K (He.ga K "DayRule") "exceeds") fd_DayRule_exceeds := F_DayRule_exceeds
  have b_DayRule_exceeds : Binds K fd_DayRule_exceeds P_DayRule_exceeds [] := F_DayRule_exceeds.bindsN fun _ _ _ _ _ _ us hl => match us, hl with | [_, _], _ => rfl
  obtain ⟨fd_cell, F_cell⟩ := c.def_ 21 (d := d_cell) rfl
  have F_cell : FnP K "_law_cell" s_cell _ fd_cell := F_cell
  have g_cell := He.glo_ok X G (c.fact 11 (f := .glo "_law_cell") rfl)
  have b_cell : Binds K fd_cell P_cell [] := F_cell.bindsN fun _ _ _ _ _ _ us hl => match us, hl with | [_, _], _ => rfl
  obtain ⟨fd_draws, F_draws⟩ := c.def_ 22 (d := d_draws) rfl
  have F_draws : FnP K "_law_draws" s_draws _ fd_draws := F_draws
  have g_draws := He.glo_ok X G (c.fact 12 (f := .glo "_law_draws") rfl)
  have b_draws : Binds K fd_draws P_draws [] := F_draws.bindsN fun _ _ _ _ _ _ us hl => match us, hl with | [_, _], _ => rfl
  obtain ⟨fd_take, F_take⟩ := c.def_ 23 (d := d_take) rfl
  have F_take : FnP K "_law_take" s_take _ fd_take := F_take
  have g_take := He.glo_ok X G (c.fact 13 (f := .glo "_law_take") rfl)
  have b_take : Binds K fd_take P_take [] := F_take.bindsN fun _ _ _ _ _ _ us hl => match us, hl with | [_, _], _ => rfl
  obtain ⟨fd_whole, F_whole⟩ := c.def_ 24 (d := d_whole) rfl
  have F_whole : FnP K "_law_whole" s_whole _ fd_whole := F_whole
  have g_whole := He.glo_ok X G (c.fact 14 (f := .glo "_law_whole") rfl)
  have b_whole : Binds K fd_whole P_whole [] := F_whole.bindsN fun _ _ _ _ _ _ us hl => match us, hl with | [_], _ => rfl
  obtain ⟨fd_same, F_same⟩ := c.def_ 25 (d := d_same) rfl
  have F_same : FnP K "_law_same" s_same _ fd_same := F_same
  have g_same := He.glo_ok X G (c.fact 15 (f := .glo "_law_same") rfl)
  have b_same : Binds K fd_same P_same [] := F_same.bindsN fun _ _ _ _ _ _ us hl => match us, hl with | [_, _], _ => rfl
  obtain ⟨fd_row_is, F_row_is⟩ := c.def_ 26 (d := d_row_is) rfl
  have F_row_is : FnP K "_law_row_is" s_row_is _ fd_row_is := F_row_is
  have g_row_is := He.glo_ok X G (c.fact 16 (f := .glo "_law_row_is") rfl)
  have b_row_is : Binds K fd_row_is P_row_is [] := F_row_is.bindsN fun _ _ _ _ _ _ us hl => match us, hl with | [_, _], _ => rfl
  obtain ⟨fd_asked, F_asked⟩ := c.def_ 27 (d := d_asked) rfl
  have F_asked : FnP K "_law_asked" s_asked _ fd_asked := F_asked
  have g_asked := He.glo_ok X G (c.fact 17 (f := .glo "_law_asked") rfl)
  have b_asked : Binds K fd_asked P_asked [] := F_asked.bindsN fun _ _ _ _ _ _ us hl => match us, hl with | [_, _], _ => rfl
  obtain ⟨fd_good, F_good⟩ := c.def_ 28 (d := d_good) rfl
  have F_good : FnP K "_law_good" s_good _ fd_good := F_good
  have g_good := He.glo_ok X G (c.fact 18 (f := .glo "_law_good") rfl)
  have b_good : Binds K fd_good P_good [] := F_good.bindsN fun _ _ _ _ _ _ us hl => match us, hl with | [_, _], _ => rfl
  obtain ⟨fd_next, F_next⟩ := c.def_ 29 (d := d_next) rfl
  have F_next : FnP K "_law_next" s_next _ fd_next := F_next
  have g_next := He.glo_ok X G (c.fact 19 (f := .glo "_law_next") rfl)
  have b_next : Binds K fd_next P_next [] := F_next.bindsN fun _ _ _ _ _ _ us hl => match us, hl with | [_, _], _ => rfl
  obtain ⟨fd_last, F_last⟩ := c.def_ 30 (d := d_last) rfl
  have F_last : FnP K "_law_last" s_last _ fd_last := F_last
  have g_last := He.glo_ok X G (c.fact 20 (f := .glo "_law_last") rfl)
  have b_last : Binds K fd_last P_last [] := F_last.bindsN fun _ _ _ _ _ _ us hl => match us, hl with | [_, _], _ => rfl
  obtain ⟨fd_counted, F_counted⟩ := c.def_ 31 (d := d_counted) rfl
  have F_counted : FnP K "_law_counted" s_counted _ fd_counted := F_counted
  have g_counted := He.glo_ok X G (c.fact 21 (f := .glo "_law_counted") rfl)
  have b_counted : Binds K fd_counted P_counted [] := F_counted.bindsN fun _ _ _ _ _ _ us hl => match us, hl with | [_, _, _, _], _ => rfl
  obtain ⟨fd_counted_back, F_counted_back⟩ := c.def_ 32 (d := d_counted_back) rfl
  have F_counted_back : FnP K "_law_counted_back" s_counted_back _ fd_counted_back := F_counted_back
  have g_counted_back := He.glo_ok X G (c.fact 22 (f := .glo "_law_counted_back") rfl)
  have b_counted_back : Binds K fd_counted_back P_counted_back [] := F_counted_back.bindsN fun _ _ _ _ _ _ us hl => match us, hl with | [_, _, _, _], _ => rfl
  obtain ⟨fd_told, F_told⟩ := c.def_ 33 (d := d_told) rfl
  have F_told : FnP K "_law_told" s_told _ fd_told := F_told
  have g_told := He.glo_ok X G (c.fact 23 (f := .glo "_law_told") rfl)
  have b_told : Binds K fd_told P_told [] := F_told.bindsN fun _ _ _ _ _ _ us hl => match us, hl with | [_, _, _], _ => rfl
  obtain ⟨fd_refusals_hold, F_refusals_hold⟩ := c.def_ 34 (d := d_refusals_hold) rfl
  have F_refusals_hold : FnP K "_law_refusals_hold" s_refusals_hold _ fd_refusals_hold := F_refusals_hold
  have g_refusals_hold := He.glo_ok X G (c.fact 24 (f := .glo "_law_refusals_hold") rfl)
  have b_refusals_hold : Binds K fd_refusals_hold P_refusals_hold [] := F_refusals_hold.bindsN fun _ _ _ _ _ _ us hl => match us, hl with | [_, _, _], _ => rfl
  obtain ⟨fd_first, F_first⟩ := c.def_ 35 (d := d_first) rfl
  have F_first : FnP K "_law_first" s_first _ fd_first := F_first
  have g_first := He.glo_ok X G (c.fact 25 (f := .glo "_law_first") rfl)
  have b_first : Binds K fd_first P_first [] := F_first.bindsN fun _ _ _ _ _ _ us hl => match us, hl with | [_, _], _ => rfl
  obtain ⟨fd_size, F_size⟩ := c.def_ 36 (d := d_size) rfl
  have F_size : FnP K "_law_size" s_size _ fd_size := F_size
  have g_size := He.glo_ok X G (c.fact 26 (f := .glo "_law_size") rfl)
  have b_size : Binds K fd_size P_size [] := F_size.bindsN fun _ _ _ _ _ _ us hl => match us, hl with | [_, _, _], _ => rfl
  obtain ⟨fd_days, F_days⟩ := c.def_ 37 (d := d_days) rfl
  have F_days : FnP K "_law_days" s_days _ fd_days := F_days
  have g_days := He.glo_ok X G (c.fact 27 (f := .glo "_law_days") rfl)
  have b_days : Binds K fd_days P_days [] := F_days.bindsN fun _ _ _ _ _ _ us hl => match us, hl with | [_, _, _], _ => rfl
  obtain ⟨fd_value, F_value⟩ := c.def_ 38 (d := d_value) rfl
  have F_value : FnP K "_law_value" s_value _ fd_value := F_value
  have g_value := He.glo_ok X G (c.fact 28 (f := .glo "_law_value") rfl)
  have b_value : Binds K fd_value P_value [] := F_value.bindsN fun _ _ _ _ _ _ us hl => match us, hl with | [_, _], _ => rfl
  obtain ⟨fd_repeats, F_repeats⟩ := c.def_ 39 (d := d_repeats) rfl
  have F_repeats : FnP K "_law_repeats" s_repeats _ fd_repeats := F_repeats
  have g_repeats := He.glo_ok X G (c.fact 29 (f := .glo "_law_repeats") rfl)
  have b_repeats : Binds K fd_repeats P_repeats [] := F_repeats.bindsN fun _ _ _ _ _ _ us hl => match us, hl with | [_, _], _ => rfl
  obtain ⟨fd_least, F_least⟩ := c.def_ 40 (d := d_least) rfl
  have F_least : FnP K "_law_least" s_least _ fd_least := F_least
  have g_least := He.glo_ok X G (c.fact 30 (f := .glo "_law_least") rfl)
  have b_least : Binds K fd_least P_least [] := F_least.bindsN fun _ _ _ _ _ _ us hl => match us, hl with | [_], _ => rfl
  obtain ⟨fd_span, F_span⟩ := c.def_ 41 (d := d_span) rfl
  have F_span : FnP K "_law_span" s_span _ fd_span := F_span
  have g_span := He.glo_ok X G (c.fact 31 (f := .glo "_law_span") rfl)
  have b_span : Binds K fd_span P_span [] := F_span.bindsN fun _ _ _ _ _ _ us hl => match us, hl with | [_, _], _ => rfl
  obtain ⟨fd_second, F_second⟩ := c.def_ 42 (d := d_second) rfl
  have F_second : FnP K "_law_second" s_second _ fd_second := F_second
  have g_second := He.glo_ok X G (c.fact 32 (f := .glo "_law_second") rfl)
  have b_second : Binds K fd_second P_second [] := F_second.bindsN fun _ _ _ _ _ _ us hl => match us, hl with | [_, _, _], _ => rfl
  obtain ⟨fd_first_beyond, F_first_beyond⟩ := c.def_ 43 (d := d_first_beyond) rfl
  have F_first_beyond : FnP K "_law_first_beyond" s_first_beyond _ fd_first_beyond := F_first_beyond
  have g_first_beyond := He.glo_ok X G (c.fact 33 (f := .glo "_law_first_beyond") rfl)
  have b_first_beyond : Binds K fd_first_beyond P_first_beyond [] := F_first_beyond.bindsN fun _ _ _ _ _ _ us hl => match us, hl with | [_, _], _ => rfl
  obtain ⟨fd_is, F_is⟩ := c.def_ 44 (d := d_is) rfl
  have F_is : FnP K "_law_is" s_is _ fd_is := F_is
  have g_is := He.glo_ok X G (c.fact 34 (f := .glo "_law_is") rfl)
  have b_is : Binds K fd_is P_is [] := F_is.bindsN fun _ _ _ _ _ _ us hl => match us, hl with | [_, _], _ => rfl
  obtain ⟨fd_one, F_one⟩ := c.def_ 45 (d := d_one) rfl
  have F_one : FnP K "_law_one" s_one _ fd_one := F_one
  have g_one := He.glo_ok X G (c.fact 35 (f := .glo "_law_one") rfl)
  have b_one : Binds K fd_one P_one [] := F_one.bindsN fun _ _ _ _ _ _ us hl => match us, hl with | [_], _ => rfl
  obtain ⟨fd_two, F_two⟩ := c.def_ 46 (d := d_two) rfl
  have F_two : FnP K "_law_two" s_two _ fd_two := F_two
  have g_two := He.glo_ok X G (c.fact 36 (f := .glo "_law_two") rfl)
  have b_two : Binds K fd_two P_two [] := F_two.bindsN fun _ _ _ _ _ _ us hl => match us, hl with | [_], _ => rfl
  obtain ⟨fd_law, F_law⟩ := c.def_ 47 (d := d_law) rfl
  have F_law : FnP K "law" s_law _ fd_law := F_law
  have g_law := He.glo_ok X G (c.fact 37 (f := .glo "law") rfl)
  have m_abs := He.free_ok X G (c.fact 38 (f := .free "abs") rfl)
  have m_all := He.free_ok X G (c.fact 39 (f := .free "all") rfl)
  have m_bool := He.free_ok X G (c.fact 40 (f := .free "bool") rfl)
  have m_enumerate := He.free_ok X G (c.fact 41 (f := .free "enumerate") rfl)
  have m_int := He.free_ok X G (c.fact 42 (f := .free "int") rfl)
  have m_isinstance := He.free_ok X G (c.fact 43 (f := .free "isinstance") rfl)
  have m_len := He.free_ok X G (c.fact 44 (f := .free "len") rfl)
  have m_list := He.free_ok X G (c.fact 45 (f := .free "list") rfl)
  have m_max := He.free_ok X G (c.fact 46 (f := .free "max") rfl)
  have m_min := He.free_ok X G (c.fact 47 (f := .free "min") rfl)
  have m_range := He.free_ok X G (c.fact 48 (f := .free "range") rfl)
  have m_super := He.free_ok X G (c.fact 49 (f := .free "super") rfl)
  have m_tuple := He.free_ok X G (c.fact 50 (f := .free "tuple") rfl)
  have g_DayRule := He.glo_ok X G (c.fact 51 (f := .glo "DayRule") rfl)
  have cls_DayRule := He.cls_ok (c.fact 52 (f := .cls "DayRule") rfl)
  have mk_DayRule := He.mkr_ok (c.fact 53 (f := .mkr "DayRule") rfl)
  have n_DayRule_days := He.noat_ok (c.fact 54 (f := .noat "DayRule" "days") rfl)
  have me_DayRule_latest := He.meth_ok (c.fact 55 (f := .meth "DayRule" "latest") rfl)
  have me_DayRule_soonest := He.meth_ok (c.fact 56 (f := .meth "DayRule" "soonest") rfl)
  have me_DayRule_exceeds := He.meth_ok (c.fact 57 (f := .meth "DayRule" "exceeds") rfl)
  have g_HouseError := He.glo_ok X G (c.fact 58 (f := .glo "HouseError") rfl)
  have g_BadDays := He.glo_ok X G (c.fact 59 (f := .glo "BadDays") rfl)
  have g_BadCount := He.glo_ok X G (c.fact 60 (f := .glo "BadCount") rfl)
  have f_BadDays := exnB_ok (all_at cy 0)
  have x_BadDays : ∀ base : Heap, Exn P w K mg base "BadDays" (He.ga K "BadDays") "at" := fun base => xn_BadDays (y_at cs 0) f_BadDays hfl htop g_BadDays m_super
  have f_BadCount := exnB_ok (all_at cy 1)
  have x_BadCount : ∀ base : Heap, Exn P w K mg base "BadCount" (He.ga K "BadCount") "value" := fun base => xn_BadCount (y_at cs 1) f_BadCount hfl htop g_BadCount m_super
  have isC := isB_ok cls_DayRule (all_at cx 0)
  obtain ⟨y1, y2, y3⟩ := spB_ok (all_at cx 1)
  obtain ⟨z1, z2, z3⟩ := spB_ok (all_at cx 2)
  obtain ⟨r1, r2, r3⟩ := spB_ok (all_at cx 3)
  obtain ⟨o1, o2, o3⟩ := spB_ok (all_at cx 4)
  obtain ⟨a1, a2, a3⟩ := spB_ok (all_at cx 5)
  obtain ⟨u1, u2, u3⟩ := spB_ok (all_at cx 6)
  have sf := all_at cx 7
  have hr0 := He.eqO_ok (all_at cx 8)
  obtain ⟨fo, hfo⟩ := Option.isSome_iff_exists.mp (all_at cx 9)
  obtain ⟨ro, hro⟩ := Option.isSome_iff_exists.mp (all_at cx 10)
  have hsub := of_decide_eq_true (all_at cx 11)
  have teDD := of_decide_eq_true (all_at cx 12)
  have kDH := of_decide_eq_true (all_at cx 13)
  have kDC := of_decide_eq_true (all_at cx 14)
  have e := hfa.symm.trans g_law
  cases e
  have b := FunD.bindsA (ps := ["_law_script"]) F_law fun _ _ _ _ _ _ us hl => match us, hl with | [_], _ => rfl
  refine ⟨fd_law, fun s v => b s [v] rfl, fun base _ _ => ?_⟩
  have c_cell : Cal P w K mg base 1 "_law_cell" (spCell K) := cal_of F_cell g_cell b_cell (ok_cell F_cell m_len m_int)
  have c_draws : Cal P w K mg base 1 "_law_draws" spDraws := cal_of F_draws g_draws b_draws (ok_draws F_draws m_int m_abs m_range)
  have c_take : Cal P w K mg base 1 "_law_take" (spTake K) := cal_of F_take g_take b_take (ok_take F_take m_len)
  have c_check_days : CalX P w K mg base 3 "check_days" (spCheck (He.ga K "BadDays") K) := ⟨_, _, _, ok_check_days F_check_days m_len m_range (x_BadDays base), g_check_days, F_check_days.kp, b_check_days⟩
  have c_day_at : Cal P w K mg base 1 "day_at" (spDayAt K) := cal_of F_day_at g_day_at b_day_at (ok_day_at F_day_at m_len)
  have c_least_period : Cal P w K mg base 1 "least_period" (spLeast K) := cal_of F_least_period g_least_period b_least_period (ok_least_period F_least_period m_len m_range m_all)
  have c_common_divisor : Cal P w K mg base 1 "common_divisor" (spGcd K) := cal_of F_common_divisor g_common_divisor b_common_divisor (ok_common_divisor F_common_divisor m_abs)
  have c_common_period : Cal P w K mg base 2 "common_period" (spPer (He.ga K "DayRule") K) := cal_of F_common_period g_common_period b_common_period (ok_common_period F_common_period m_len cls_DayRule n_DayRule_days c_common_divisor)
  have c_used_times : Cal P w K mg base 2 "used_times" (spUsedT K) := cal_of F_used_times g_used_times b_used_times (ok_used_times F_used_times m_len m_list m_range c_day_at)
  have k_DayRule : MakX P w K mg base 4 "DayRule" (He.ga K "DayRule") (spInit (He.ga K "DayRule") (He.ga K "BadDays") K) := ⟨_, _, _, mk_DayRule, ok_init F_DayRule___init__ cls_DayRule n_DayRule_days m_tuple c_check_days c_least_period, g_DayRule, b_DayRule___init__⟩
  have co_call : Cob P w K mg base 2 (He.ga K "DayRule") (spCallR (He.ga K "DayRule") K) := ⟨_, ⟨y1, y2, y3⟩, fnr_ok (ok_call F_DayRule___call__ cls_DayRule n_DayRule_days c_day_at) b_DayRule___call__⟩
  have o_rshift : Bin2 P w K mg base 6 (He.ga K "DayRule") "__rshift__" (spOp (He.ga K "DayRule") K fun F G d => G (F d)) := ⟨_, _, _, ok_rshift F_DayRule___rshift__ m_range cls_DayRule n_DayRule_days c_day_at c_common_period k_DayRule, r1, r2, b_DayRule___rshift__, sf⟩
  have o_or : Bin2 P w K mg base 6 (He.ga K "DayRule") "__or__" (spOp (He.ga K "DayRule") K fun F G d => max (F d) (G d)) := ⟨_, _, _, ok_or F_DayRule___or__ m_range m_max cls_DayRule n_DayRule_days c_day_at c_common_period k_DayRule, o1, o2, b_DayRule___or__, sf⟩
  have o_and : Bin2 P w K mg base 6 (He.ga K "DayRule") "__and__" (spOp (He.ga K "DayRule") K fun F G d => min (F d) (G d)) := ⟨_, _, _, ok_and F_DayRule___and__ m_range m_min cls_DayRule n_DayRule_days c_day_at c_common_period k_DayRule, a1, a2, b_DayRule___and__, sf⟩
  have o_mul : BinI P w K mg base 6 (He.ga K "DayRule") .Mult (spMul (He.ga K "DayRule") (He.ga K "BadCount") K) := ⟨_, _, _, fo, ro, ok_mul F_DayRule___mul__ cls_DayRule n_DayRule_days (x_BadCount base) c_used_times k_DayRule, u1, u2, b_DayRule___mul__, sf, hr0, hfo, hro, hsub⟩
  have e_DayRule : Eqo P w K mg base 1 (He.ga K "DayRule") (spEqR (He.ga K "DayRule") K) := ⟨_, _, _, ok_eq F_DayRule___eq__ isC m_isinstance g_DayRule cls_DayRule n_DayRule_days, z1, z2, b_DayRule___eq__⟩
  have c_latest_days : Cal P w K mg base 2 "latest_days" (spLatD K) := cal_of F_latest_days g_latest_days b_latest_days (ok_latest_days F_latest_days m_len m_range m_max c_day_at)
  have me_latest : Met P w K mg base 6 (He.ga K "DayRule") "latest" (spLatest (He.ga K "DayRule") K) := ⟨_, _, _, cls_DayRule, me_DayRule_latest, ok_latest F_DayRule_latest cls_DayRule n_DayRule_days c_latest_days k_DayRule, b_DayRule_latest⟩
  have me_soonest : Met P w K mg base 6 (He.ga K "DayRule") "soonest" (spSoonest (He.ga K "DayRule") K) := ⟨_, _, _, cls_DayRule, me_DayRule_soonest, ok_soonest F_DayRule_soonest m_len m_range cls_DayRule n_DayRule_days c_day_at c_latest_days k_DayRule, b_DayRule_soonest⟩
  have me_exceeds : Met P w K mg base 3 (He.ga K "DayRule") "exceeds" (spExc (He.ga K "DayRule") K) := ⟨_, _, _, cls_DayRule, me_DayRule_exceeds, ok_exceeds F_DayRule_exceeds m_range cls_DayRule n_DayRule_days c_day_at c_common_period, b_DayRule_exceeds⟩
  have ch_whole : CalH P w K mg base 1 "_law_whole" spWhole := ⟨_, _, _, okh_whole F_whole m_isinstance m_int m_bool, g_whole, F_whole.kp, b_whole⟩
  have c_whole : Cal P w K mg base 1 "_law_whole" spWhole := cal_of F_whole g_whole b_whole (ok_whole F_whole m_isinstance m_int m_bool)
  have c_same : Cal P w K mg base 2 "_law_same" spSame := cal_of F_same g_same b_same (ok_same F_same c_whole)
  have c_row_is : Cal P w K mg base 3 "_law_row_is" (spRow K) := cal_of F_row_is g_row_is b_row_is (ok_row_is F_row_is m_isinstance m_tuple m_len m_range c_same)
  have c_value : Cal P w K mg base 1 "_law_value" (spValue K) := cal_of F_value g_value b_value (ok_value F_value m_len m_int)
  have c_repeats : Cal P w K mg base 2 "_law_repeats" (spRepeats K) := cal_of F_repeats g_repeats b_repeats (ok_repeats F_repeats m_len m_range c_value)
  have c_least : Cal P w K mg base 3 "_law_least" (spLeastL K) := cal_of F_least g_least b_least (ok_least F_least m_len m_range c_repeats)
  have c_first : Cal P w K mg base 1 "_law_first" spFirst := cal_of F_first g_first b_first (ok_first F_first m_int m_range)
  have c_size : Cal P w K mg base 2 "_law_size" (spSize K) := cal_of F_size g_size b_size (ok_size F_size m_int c_take)
  have c_days : Cal P w K mg base 2 "_law_days" (spDays K) := cal_of F_days g_days b_days (ok_days F_days m_int m_range m_min c_take c_first)
  have c_asked : Cal P w K mg base 2 "_law_asked" (spAsked K) := cal_of F_asked g_asked b_asked (ok_asked F_asked m_int m_range m_min m_max m_len c_cell)
  have c_shift : Cal P w K mg base 6 "shift" (spShift (He.ga K "DayRule") K) := cal_of F_shift g_shift b_shift (ok_shift F_shift k_DayRule)
  have c_check_good : CalX P w K mg base 3 "check_good" (spChkG (He.ga K "BadDays") K) := ⟨_, _, _, ok_check_good F_check_good m_len m_enumerate (x_BadDays base), g_check_good, F_check_good.kp, b_check_good⟩
  have c_next_good : CalX P w K mg base 6 "next_good" (spNextG (He.ga K "DayRule") (He.ga K "BadDays") K) := ⟨_, _, _, ok_next_good F_next_good m_range m_min c_check_good k_DayRule, g_next_good, F_next_good.kp, b_next_good⟩
  have c_last_good : CalX P w K mg base 6 "last_good" (spLastG (He.ga K "DayRule") (He.ga K "BadDays") K) := ⟨_, _, _, ok_last_good F_last_good m_range m_max c_check_good k_DayRule, g_last_good, F_last_good.kp, b_last_good⟩
  have c_good : Cal P w K mg base 2 "_law_good" (spGood K) := cal_of F_good g_good b_good (ok_good F_good m_int m_range m_len c_take)
  have c_next : Cal P w K mg base 1 "_law_next" (spNextL K) := cal_of F_next g_next b_next (ok_next F_next m_int m_range m_len)
  have c_last : Cal P w K mg base 1 "_law_last" (spLastL K) := cal_of F_last g_last b_last (ok_last F_last m_int m_range m_len)
  have c_counted : Cal P w K mg base 2 "_law_counted" (spCcounted K) := cal_of F_counted g_counted b_counted (ok_counted F_counted m_int m_range m_len c_next)
  have c_counted_back : Cal P w K mg base 2 "_law_counted_back" (spCcounted_back K) := cal_of F_counted_back g_counted_back b_counted_back (ok_counted_back F_counted_back m_int m_range m_len c_last)
  have c_told : Cal P w K mg base 7 "_law_told" (spTold K) := cal_of F_told g_told b_told (ok_told F_told isC m_isinstance g_DayRule g_HouseError g_BadDays g_BadCount teDD f_BadDays.ec kDH kDC f_BadDays.xf f_BadDays.no ch_whole c_next_good c_last_good)
  have c_refusals_hold : Cal P w K mg base 8 "_law_refusals_hold" (spRefH K) := cal_of F_refusals_hold g_refusals_hold b_refusals_hold (ok_refusals_hold F_refusals_hold m_int m_len m_list m_tuple m_range c_told)
  have c_span : Cal P w K mg base 1 "_law_span" spSpan := cal_of F_span g_span b_span (ok_span F_span m_int m_range)
  have c_is : Cal P w K mg base 3 "_law_is" spIs := cal_of F_is g_is b_is (ok_is F_is c_same)
  have c_first_beyond : Cal P w K mg base 2 "_law_first_beyond" (spBey K) := cal_of F_first_beyond g_first_beyond b_first_beyond (ok_first_beyond F_first_beyond m_len m_range c_span c_value)
  have c_second : Cal P w K mg base 2 "_law_second" (spSecond K) := cal_of F_second g_second b_second (ok_second F_second m_int m_len m_range m_max c_span c_value)
  have c_one : Cal P w K mg base 9 "_law_one" (spOne K) := cal_of F_one g_one b_one (ok_one F_one isC m_isinstance g_DayRule m_int m_len m_list m_range cls_DayRule n_DayRule_days c_draws c_cell c_good c_asked c_row_is c_same c_next c_last c_counted c_counted_back c_refusals_hold c_shift c_next_good c_last_good co_call e_DayRule me_latest me_soonest o_rshift o_mul)
  have c_two : Cal P w K mg base 7 "_law_two" (spOne K) := cal_of F_two g_two b_two (ok_two F_two m_int m_len m_list cls_DayRule n_DayRule_days c_draws c_cell c_take c_size c_days c_second c_first_beyond c_is c_same c_least c_row_is c_shift k_DayRule me_exceeds o_rshift o_or o_and)
  exact ok_law F_law c_one c_two
end Z
open PySem PySem.W PySem.Calls PyProof.Rows
theorem PySem.Challenge.cw_signedpacts_k64_good_days_and_exceeds_holds : PySem.Challenge.rw_signedpacts_k64_good_days_and_exceeds.Holds := by
  w_on; o_law
  refine HandSHeadRun.head_any (r := OpenLaw.row PySem.Challenge.rw_signedpacts_k64_good_days_and_exceeds) (q := view (OpenLaw.row PySem.Challenge.rw_signedpacts_k64_good_days_and_exceeds).prog [46]) (H := Z.hk) (ob := Z.ob) (M := 8000) (loose := Z.loose) (d := HandSHeadRun.topDef (OpenLaw.row PySem.Challenge.rw_signedpacts_k64_good_days_and_exceeds).prog 46) (kwd := []) Z.ob_eq
    (by kernel_rfl) (fun s => by kernel_rfl) Z.run (by kernel_rfl) (by kernel_rfl) (by kernel_rfl) (by rfl) (by first | assumption | decide +kernel) (by decide +kernel) ⟨rfl, rfl, rfl, rfl, rfl, by decide +kernel⟩ ?hw ?hc
  case hw => w_witness2
  case hc =>
    refine L2.walk_ofE (l := PySem.Challenge.rw_signedpacts_k64_good_days_and_exceeds) (n := 63) (k := 10) (x := "_law_script") (CX := L2.CX0) rfl (by decide) (by kernel_rfl) ⟨rfl, by decide, by decide⟩ ?F (fun _ _ _ _ z => z)
    intro w mg fa h Y G hmg0
    obtain ⟨K, KX, c, cs, cx⟩ := Y
    have hmg : mg ("law" : PySem.Str) = some (.ref fa) := by
      have e : (HandSHeadRun.topDef (OpenLaw.row PySem.Challenge.rw_signedpacts_k64_good_days_and_exceeds).prog 46).name = ("law" : PySem.Str) := by kernel_rfl
      rw [← e]
      exact hmg0
    obtain ⟨fd, hb, hF⟩ := Z.facts (P := (PySem.Challenge.rw_signedpacts_k64_good_days_and_exceeds).prog) (w := w) KX G hmg c cs cx (by kernel_rfl) (by kernel_rfl)
    exact ⟨K, fd, Z.spLaw K, KX, hb, fun H a ns hl _ hS => ⟨a, ns, rfl, hS, hl, fun _ => rfl⟩, hF⟩
