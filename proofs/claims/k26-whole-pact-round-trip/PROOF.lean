import PyProof.Rows.All
import Wide.All
import OpenK.AllK
import Wide.FinOn
import HandS.ForMost
import HandS.Zip
import HandS.TupMul
import HandS.Codes
import KE.GoesMore
import KE.GoesEnum
import HandS.Defaults
import HandS.IsInst
import HandS.Wide
import HandS.WideBits
import HandS.NoneIn
import HandS.OwnEq
import HandS.Star
import HandS.SetTxtIn
import HandS.ExcInit
import HandS.ExcField
import HandS.ExcIs
import HandS.Nested
import HandS.ClsMeth
import HandS.HeadHook1
import KE.KSuper
import KE.KExcSuper
import HandS.WordsExc
import HandS.ExcInitHot
import KE.KExcIs
import HandS.HeadHook2
import HandS.Property
import HandS.Head0
import HandS.Head1
import HandS.Head2
import HandS.HeadEnd
import HandS.NamedTupGet
import HandS.ExcCtx
import HandS.ExcOwn
import PyProof.StrOps2
import HandS.More
import HandS.FStr
import HandS.SortKw
import KE.DatumOrd
import HandS.Strs
import HandS.List
import HandS.Call
import PyProof.Rows.RuleB_pow
import HandS.TupAny
import KE.KOpsOwn
import HandS.Style
import PySem.Challenge.RW_signedpacts_k26_whole_pact_round_trip
set_option Elab.async false
set_option linter.all false
set_option maxRecDepth 100000
set_option maxHeartbeats 4000000
namespace Z
open PySem PySem.Spec PyProof.Rows L2
/-! ### zip over two sequences, each a list (true) or a tuple (false) -/
def SqK (b : Bool) (K : PySem.W.Frag) (H : Hp) (a : Addr) (xs : List V) : Prop := match b with
  | true => SqL K H a xs
  | false => SqT K H a xs
def ItK (b : Bool) (h : Heap) (it l : Addr) (i : Nat) : Prop := match b with
  | true => h.IsListIter it l i
  | false => h.IsTupleIter it l i
def IsK (b : Bool) (h : Heap) (l : Addr) (xs : Array Value) : Prop := match b with
  | true => h.IsList l xs
  | false => h.IsTuple l xs
theorem ItK.at' {b : Bool} {h h' : Heap} {it l : Addr} {i : Nat} (x : ItK b h it l i) (k : ∀ o, h.get? it = some o → h'.get? it = some o) : ItK b h' it l i := by
  cases b
  · exact Heap.IsTupleIter.at x k
  · exact Heap.IsListIter.at x k
theorem ItK.obj {b : Bool} {h : Heap} {it l : Addr} {i : Nat} (x : ItK b h it l i) : ∃ o, h.get? it = some o ∧ ∀ v, o.data ≠ .cell v := by
  cases b
  · obtain ⟨o, e, _, d⟩ := (show h.IsTupleIter it l i from x)
    exact ⟨o, e, fun v q => by rw [d] at q; cases q⟩
  · obtain ⟨o, e, _, d⟩ := (show h.IsListIter it l i from x)
    exact ⟨o, e, fun v q => by rw [d] at q; cases q⟩
theorem sqk_is {X : Cx} {pins : List (Addr × Obj)} {σ : L2.St} {H : Hp} {s : Shared} {b : Bool} {a : Addr} {xs : List V} (I : Inv X pins σ H s) (h : SqK b X.K H a xs) :
    ∃ its : List Value, Vals xs its ∧ IsK b s.heap a its.toArray ∧ a < s.heap.objs.size := by
  cases b
  · obtain ⟨its, r, p, _⟩ := I.tuple h
    obtain ⟨o, ho, _⟩ := id p
    exact ⟨its, r, p, Heap.lt_size ho⟩
  · obtain ⟨its, r, p, _⟩ := I.list h
    exact ⟨its, r, p.isList, p.lt⟩
theorem sqk_inj {X : Cx} {pins : List (Addr × Obj)} {σ : L2.St} {H : Hp} {s : Shared} {b : Bool} {a : Addr} {xs ys : List V} (I : Inv X pins σ H s) (h : SqK b X.K H a xs) (h' : SqK b X.K H a ys) : xs = ys := by
  cases b
  · exact I.tuple_inj h h'
  · exact I.list_inj h h'
theorem drawsK {prog : Program} {w : World} {A : Around} (b : Bool) (hh : A.handled = none) (it l : Addr) (hne : l ≠ it) (items : Array Value) :
    Draws prog w A it [it, l] items.size (fun i v => items[i]? = some v) (fun i h => ItK b h it l i ∧ IsK b h l items) := by
  cases b
  · exact Draws.tuple hh it l hne items
  · exact Draws.list hh it l hne items
def ItzM (p q : Bool) (K : PySem.W.Frag) (a b : Addr) : It :=
  ⟨fun i H => ∃ (xs ys : List V) (x y : V), SqK p K H a xs ∧ SqK q K H b ys ∧ xs[i]? = some x ∧ ys[i]? = some y,
   fun i H v H' => ∃ T x y, v = .ref T ∧ H T = none ∧ H' = upd H T (.tup [x, y]) ∧ (∀ xs, SqK p K H a xs → xs[i]? = some x) ∧ (∀ ys, SqK q K H b ys → ys[i]? = some y),
   fun i H => ∃ xs ys : List V, SqK p K H a xs ∧ SqK q K H b ys ∧ (xs.length ≤ i ∨ ys.length ≤ i) ∧ i ≤ xs.length ∧ i ≤ ys.length⟩
theorem zsep {z TI TO i1 i2 a b : Addr} (D : ZipApart z TI TO i1 i2 a b) : ZipSep2 z TI TO i1 i2 [i1, a] [i2, b] where
  TIz := D.TIz
  TOz := D.TOz
  TITO := D.TITO
  TIi1 := D.TIi1
  mem1 := List.mem_cons_self
  zf1 := fun h => by rcases List.mem_cons.mp h with e | h; exact D.i1z e.symm; exact D.l1z (List.mem_singleton.mp h).symm
  Tf1 := fun h => by rcases List.mem_cons.mp h with e | h; exact D.TOi1 e; exact D.l1TO (List.mem_singleton.mp h).symm
  TIi2 := D.TIi2
  mem2 := List.mem_cons_self
  zf2 := fun h => by rcases List.mem_cons.mp h with e | h; exact D.i2z e.symm; exact D.l2z (List.mem_singleton.mp h).symm
  Tf2 := fun h => by rcases List.mem_cons.mp h with e | h; exact D.TOi2 e; exact D.l2TO (List.mem_singleton.mp h).symm
  sep1_2 := fun h => by rcases List.mem_cons.mp h with e | h; exact D.i12 e; exact D.l2i1 (List.mem_singleton.mp h).symm
  sep2_1 := fun h => by rcases List.mem_cons.mp h with e | h; exact D.i12 e.symm; exact D.l1i2 (List.mem_singleton.mp h).symm
theorem five {c z TI TO i1 i2 : Addr} {Pr : Addr → Prop} (hc : c ∈ [z, TI, TO, i1, i2]) (a : Pr z) (b : Pr TI) (d : Pr TO) (e : Pr i1) (f : Pr i2) : Pr c := by
  have q : c = z ∨ c = TI ∨ c = TO ∨ c = i1 ∨ c = i2 := by simpa using hc
  rcases q with rfl | rfl | rfl | rfl | rfl <;> assumption
theorem turn_zipM {p q : Bool} {P : Program} {w : World} {K : PySem.W.Frag} {elts : List Expr} {kk : Nat} {tpos : Pos} {a b z TI TO i1 i2 : Addr} (D : ZipApart z TI TO i1 i2 a b) :
    Turn P w K (.Tuple elts kk tpos) (ItzM p q K a b) [z, TI, TO, i1, i2] z (fun i h => IsZip h z TI TO .none ∧ IsTupOf2 h TI (.ref i1) (.ref i2) ∧ (∃ x y, IsTupOf2 h TO x y) ∧ ItK p h i1 a i ∧ ItK q h i2 b i) where
  mem := by simp
  obj := fun i h st c hc => by
    obtain ⟨hz, hI, ⟨x, y, hO⟩, h1, h2⟩ := st
    exact five (Pr := fun c => ∃ o, h.get? c = some o ∧ ∀ v, o.data ≠ .cell v) hc ⟨_, hz, fun v q => nomatch q⟩ ⟨_, hI, fun v q => nomatch q⟩ ⟨_, hO, fun v q => nomatch q⟩ h1.obj h2.obj
  keep := fun i h h' st k => by
    obtain ⟨hz, hI, ⟨x, y, hO⟩, h1, h2⟩ := st
    exact ⟨k z (by simp) _ hz, k TI (by simp) _ hI, ⟨x, y, k TO (by simp) _ hO⟩, h1.at' (fun o e => k i1 (by simp) o e), h2.at' (fun o e => k i2 (by simp) o e)⟩
  item := by
    intro X hP hw hK hc i pins s σ H E I hf st hg
    subst hP hw hK
    obtain ⟨hz, hI, ⟨x0, y0, hO⟩, h1, h2⟩ := st
    obtain ⟨xs, ys, x, y, qx, qy, ex, ey⟩ := hg
    obtain ⟨us, rx, kx, _⟩ := sqk_is I qx
    obtain ⟨vs, ry, ky, _⟩ := sqk_is I qy
    obtain ⟨u, eu, ru⟩ := rx.get ex
    obtain ⟨v, ev, rv⟩ := ry.get ey
    have hzl : z < s.heap.objs.size := Heap.lt_size hz
    have lu : i < us.toArray.size := by simpa using (List.getElem?_eq_some_iff.mp eu).1
    have lv : i < vs.toArray.size := by simpa using (List.getElem?_eq_some_iff.mp ev).1
    have hh : X.A.in1.handled = none := I.ok.hd hc
    refine wpAny_pyNext_zipD2_item (zsep D) (drawsK p hh i1 a D.l1i1 us.toArray) (drawsK q hh i2 b D.l2i2 vs.toArray) hz hI hO ⟨h1, kx⟩ ⟨h2, ky⟩ lu lv fun m1 m2 g tk p1 p2 gz gO g1 g2 gT gs gk => ?_
    have e1 : m1 = u := by
      have t1 : us.toArray[i]? = some u := by simpa using eu
      exact Option.some.inj (p1.symm.trans t1)
    have e2 : m2 = v := by
      have t1 : vs.toArray[i]? = some v := by simpa using ev
      exact Option.some.inj (p2.symm.trans t1)
    subst e1 e2
    refine ⟨_, rfl, wpAny_letOwnedTupleGo_zip (s := { s with heap := g, toks := tk }) gz fun g' gz' sb => ?_⟩
    have gT' : g'.get? s.heap.objs.size = some { cls := .type "tuple", data := .seq #[m1, m2] } := (sb.2 _ (Nat.ne_of_gt hzl)).trans gT
    have nw : ObjOk X.prog X.w (upd H s.heap.objs.size (.tup [x, y])) g' s.heap.objs.size (.tup [x, y]) := ⟨by show 2 ≤ sizeLine; decide, [m1, m2], .cons ru (.cons rv .nil), ⟨_, gT', rfl, _, rfl⟩⟩
    have I1 : Inv X pins σ (upd H s.heap.objs.size (.tup [x, y])) { s with heap := g', toks := tk } :=
      I.turnedNew (t' := tk) (ch := [z, TI, TO, i1, i2]) (fun c o nb e => (sb.2 c (fun w => nb (by simp [w]))).trans (gk c o (fun w => nb (by simp [w])) (fun w => nb (by simp [w])) (fun w => nb (by simp [w])) (fun w => nb (by simp [w])) e)) hf (Nat.le_refl _) nw
    refine ⟨.ref s.heap.objs.size, _, I1, rfl, ⟨_, x, y, rfl, I.hok.fresh (Nat.le_refl _), rfl, fun l hl => by rw [sqk_inj I hl qx]; exact ex, fun l hl => by rw [sqk_inj I hl qy]; exact ey⟩, ⟨gz', ?_, ⟨m1, m2, ?_⟩, ?_, ?_⟩, fun c hcm => ?_⟩
    · exact (sb.2 _ D.TIz).trans (gk _ _ D.TIz D.TITO D.TIi1 D.TIi2 hI)
    · exact (sb.2 _ D.TOz).trans gO
    · exact ItK.at' g1.1 (fun o e => (sb.2 _ D.i1z).trans e)
    · exact ItK.at' g2.1 (fun o e => (sb.2 _ D.i2z).trans e)
    · have lt : c < s.heap.objs.size := by
        obtain ⟨o1, q1, _⟩ := h1.obj
        obtain ⟨o2, q2, _⟩ := h2.obj
        exact five (Pr := fun c => c < s.heap.objs.size) hcm hzl (Heap.lt_size hI) (Heap.lt_size hO) (Heap.lt_size q1) (Heap.lt_size q2)
      rw [upd_ne (Nat.ne_of_lt lt)]
      exact (hf c hcm).1
  done := by
    intro X hP hw hK hc i pins s σ H E I hf st hg
    subst hP hw hK
    obtain ⟨hz, hI, ⟨x0, y0, hO⟩, h1, h2⟩ := st
    obtain ⟨xs, ys, qx, qy, hend, le1, le2⟩ := hg
    obtain ⟨us, rx, kx, _⟩ := sqk_is I qx
    obtain ⟨vs, ry, ky, _⟩ := sqk_is I qy
    have l1 := rx.length
    have l2 := ry.length
    have n1 : us.toArray.size = us.length := by simp
    have n2 : vs.toArray.size = vs.length := by simp
    have hh : X.A.in1.handled = none := I.ok.hd hc
    refine wpAny_pyNext_zipD2_end (i := i) (zsep D) (drawsK p hh i1 a D.l1i1 us.toArray) (drawsK q hh i2 b D.l2i2 vs.toArray) hz hI hO ⟨h1, kx⟩ ⟨h2, ky⟩ (by omega) (by omega) (by omega) fun g tk gk => ?_
    exact ⟨rfl, I.turnedL (t' := tk) (ch := [z, TI, TO, i1, i2]) (fun c o nb e => gk c o (fun w => nb (by simp [w])) (fun w => nb (by simp [w])) (fun w => nb (by simp [w])) (fun w => nb (by simp [w])) e) hf⟩
  self := fun A i s Q E st h => wpAny_pyIter_zip st.1 h
def iZipM (K : PySem.W.Frag) (ta : TA) : TI := fun σ H R => ta σ H fun vs H1 => ∃ p q a b xs ys, vs = [.ref a, .ref b] ∧ SqK p K H1 a xs ∧ SqK q K H1 b ys ∧ R (ItzM p q K a b) H1
theorem begK {p : Bool} {h : Heap} {a : Addr} {xs : Array Value} (k : IsK p h a xs) : ∃ o Hp', Begins (.ref a) o Hp' ∧ Hp' h ∧ ∀ h' it, h'.get? it = some o → ItK p h' it a 0 := by
  cases p
  · exact ⟨_, _, begins_tuple a xs, k, fun h' it e => ⟨_, e, rfl, rfl⟩⟩
  · exact ⟨_, _, begins_list a xs, k, fun h' it e => ⟨_, e, rfl, rfl⟩⟩
theorem pi_zipM {X : Cx} {e e2 : Expr} {ta : TA} {p pos tpos : Pos} {elts : List Expr} {kk : Nat} (hg : Gl X "zip") (hm : X.mg "zip" = none) (ha : PA X [e, e2] ta)
    (hs : starEach [e, e2] X.env = (false, eval e X.env) :: starEach [e2] X.env := by rfl) (hpl : (backTo pos (starEach [e2] X.env)).any (·.1) = false := by rfl) :
    PI X (.Tuple elts kk tpos) (.Call (.Name "zip" p) [e, e2] [] pos) (iZipM X.K ta) := by
  constructor
  intro pins s σ H R I h
  refine Call_ (ld_blt I hg hm PyProof.Rows.boot_zip (PyProof.Rows.callWith_type1 (thn (ha.run pos pins s σ H _ I h) fun us s1 ⟨vs, H1, I1, r1, q1⟩ => ?_) hs hpl))
  obtain ⟨k1, k2, a, b, xs, ys, ex, qx, qy, q⟩ := q1
  subst ex
  obtain ⟨u, v, rfl, ru, rv⟩ := Vals.two r1
  cases ru
  cases rv
  obtain ⟨i1, _, p1, lt1⟩ := sqk_is I1 qx
  obtain ⟨i2, _, p2, lt2⟩ := sqk_is I1 qy
  obtain ⟨o1, G1, B1, g1, w1⟩ := begK p1
  obtain ⟨o2, G2, B2, g2, w2⟩ := begK p2
  refine zip_begins2 B1 B2 g1 g2 fun h' hz hI hO e1 e2 hsz hk => wpAny_pyIter_zip hz ?_
  have I2 : Inv X pins σ H1 { s1 with heap := h' } := I1.kept (t' := s1.toks) hk
  refine ⟨s1.heap.objs.size + 4, [s1.heap.objs.size + 4, s1.heap.objs.size + 2, s1.heap.objs.size + 3, s1.heap.objs.size, s1.heap.objs.size + 1], _, _, H1, rfl, I2, turn_zipM (PySem.W.ktu_apart s1.heap.objs.size a b lt1 lt2), ⟨hz, hI, ⟨_, _, hO⟩, w1 _ _ e1, w2 _ _ e2⟩, fun c hcm => ?_, q⟩
  have hle : s1.heap.objs.size ≤ c := five (Pr := fun c => s1.heap.objs.size ≤ c) hcm (Nat.le_add_right _ _) (Nat.le_add_right _ _) (Nat.le_add_right _ _) (Nat.le_refl _) (Nat.le_add_right _ _)
  exact I1.fpOk hle (I1.hok.fresh hle)
end Z
set_option Elab.async false
set_option linter.all false
set_option maxRecDepth 100000
set_option maxHeartbeats 4000000
namespace Z
open PySem PySem.Spec PyProof.Rows L2
/-! ### (v,) * k for 0 ≤ k -/
theorem tmul0 (l : Addr) (v : Value) (n : Nat) (dd : Option Addr) (sl : Array (Option Value)) (u : Tok) :
    Meets (Builtin.«tuple.__mul__» ⟨[.ref l, .int 0 u], []⟩) (fun _ R s => s.heap.get? l = some { cls := .type "tuple", dict := dd, data := .seq #[v] n, slots := sl } ∧
      R (.ok (.ret (Value.ref s.heap.objs.size))) { s with heap := s.heap.push { cls := Value.type "tuple", data := Data.seq #[] }, toks := s.toks }) :=
  .of_wp fun prog w A R s h => by
    obtain ⟨hp, g, d, tk, os⟩ := s
    obtain ⟨hl, h⟩ := h
    have f1 := AutoSeq1.idx_int
    wp_walk using AutoSeq1.wpAny_loadPart' hl
    exact ⟨_, rfl, h⟩
theorem tmul1 (l : Addr) (items : Array Value) (n : Nat) (dd : Option Addr) (sl : Array (Option Value)) (u : Tok) :
    Meets (Builtin.«tuple.__mul__» ⟨[.ref l, .int 1 u], []⟩) (fun _ R s => s.heap.get? l = some { cls := .type "tuple", dict := dd, data := .seq items n, slots := sl } ∧ R (.ok (.ret (Value.ref l))) s) :=
  .of_wp fun prog w A R s h => by
    obtain ⟨hp, g, d, tk, os⟩ := s
    obtain ⟨hl, h⟩ := h
    have f1 := AutoSeq1.idx_int
    wp_walk using AutoSeq1.wpAny_loadPart' hl
    exact ⟨_, rfl, h⟩
theorem same_new {H : Hp} {p : Addr} {o : HO} (h : H p = none) : Same H (upd H p o) := fun b x e => by
  rw [upd_ne (ne_of_none e h)]
  exact e
def rRepU : R2 := fun x y H Q => ∃ l k v, x = .ref l ∧ y = .int k ∧ H l = some (.tup [v]) ∧ 0 ≤ k ∧ k ≤ 1000 ∧ ∀ p H', Same H H' → H' p = some (.tup (List.replicate k.toNat v)) → Q (.ref p) H'
theorem op_repU {X : Cx} : OpR X (binaryOp .Mult) rRepU := by
  intro pins s σ H x y vv uu Q I rx ry h
  obtain ⟨l, k, v, rfl, rfl, hT, h0, h1, q⟩ := id h
  by_cases k2 : 2 ≤ k
  · refine op_repT pins s σ H _ _ vv uu Q I rx ry ⟨l, k, [v], rfl, rfl, .inl (.inl hT), by simp, k2, h1, by simp, fun p np => q p _ (same_new np) ?_⟩
    rw [upd_same]
    congr 2
    generalize k.toNat = m
    induction m with
    | zero => rfl
    | succ m ih => rw [List.replicate_succ, List.flatten_cons, ih, List.replicate_succ]; rfl
  · cases rx
    obtain ⟨t, rfl⟩ := ry
    obtain ⟨its, r, ⟨⟨cls, dd, data, sl⟩, ho, hc, n, hd⟩, hs⟩ := I.tuple (.inl (.inl hT) : SqT X.K H l [v])
    simp only at hc hd
    subst hc hd
    obtain ⟨u, rfl, ru⟩ := Vals.one r
    by_cases k1 : k = 1
    · subst k1
      refine wpAny_binaryOp_repeat_ref (T := "tuple") (U := "int") (by decide) ⟨_, ho, rfl⟩ (fun s' => typeIs_int s' 1 t) noFill_tuple_mul F.fills_int_mul F.slot_int_rmul repeat_tuple F.slot_int_index.lookup
        (call_meets F.slot_int_rmul (typeIs_int s 1 t) F.entry_int_rmul (F.args_int_rmul_2 _ _) (int_rmul_tuple 1 t l [u].toArray n dd sl)
          ⟨ho, rfl, ⟨_, ho, rfl⟩, call_meets F.slot_tuple_mul ⟨_, ho, rfl⟩ F.entry_tuple_mul (F.args_tuple_mul_2 _ _) (tmul1 l [u].toArray n dd sl t) ⟨ho, ?_⟩⟩)
      exact ⟨.ref l, H, I, rfl, q l H (Same.refl H) hT⟩
    · have k0 : k = 0 := by omega
      subst k0
      refine wpAny_binaryOp_repeat_ref (T := "tuple") (U := "int") (by decide) ⟨_, ho, rfl⟩ (fun s' => typeIs_int s' 0 t) noFill_tuple_mul F.fills_int_mul F.slot_int_rmul repeat_tuple F.slot_int_index.lookup
        (call_meets F.slot_int_rmul (typeIs_int s 0 t) F.entry_int_rmul (F.args_int_rmul_2 _ _) (int_rmul_tuple 0 t l [u].toArray n dd sl)
          ⟨ho, rfl, ⟨_, ho, rfl⟩, call_meets F.slot_tuple_mul ⟨_, ho, rfl⟩ F.entry_tuple_mul (F.args_tuple_mul_2 _ _) (tmul0 l u n dd sl t) ⟨ho, ?_⟩⟩)
      refine ⟨.ref s.heap.objs.size, _, I.laid (t' := s.toks) (o := .tup []) (fun b ob z => Heap.get?_push_of_some _ z) (Nat.le_refl _) ?_, rfl, q _ _ (same_new (I.hok.fresh (Nat.le_refl _))) upd_same⟩
      exact ⟨Nat.zero_le _, [], .nil, IsTup.new _ _⟩
/-! ### loops and comprehensions over any iterator -/
def forW (J : It) (g : TG) (tb : TS) (D : Ends) (σ : L2.St) (H : Hp) : Prop := ∃ W : Nat → Nat → L2.St → Hp → Prop, (∃ m, W 0 m σ H) ∧ ∀ i m σ H, W i m σ H →
  (J.stop i H ∧ D.nx σ H) ∨ (J.go i H ∧ ∃ N : L2.St → Hp → Prop, (∀ σ' H', N σ' H' → ∃ m', m' < m ∧ W (i + 1) m' σ' H') ∧ ∀ x H', J.yld i H x H' → g x σ H' fun σ2 H2 => tb { D with nx := N, ct := N, bk := D.nx } σ2 H2)
theorem for_gen {J : It} {n : Nat} {g : TG} {tb : TS} {D : Ends} {σ : L2.St} {H : Hp} (Pv : Nat → L2.St → Hp → Prop) (h0 : Pv 0 σ H) (hgo : ∀ i σ H, i < n → Pv i σ H → J.go i H) (hst : ∀ σ H, Pv n σ H → J.stop n H)
    (hs : ∀ i σ H x H', i < n → Pv i σ H → J.yld i H x H' → g x σ H' fun σ2 H2 => tb { D with nx := Pv (i + 1), ct := Pv (i + 1), bk := D.nx } σ2 H2) (hd : ∀ σ H, Pv n σ H → D.nx σ H) : forW J g tb D σ H := by
  refine ⟨fun i m σ H => m = n - i ∧ i ≤ n ∧ Pv i σ H, ⟨n, by omega, Nat.zero_le _, h0⟩, fun i m σ H w => ?_⟩
  obtain ⟨rfl, hi, p⟩ := w
  by_cases hlt : i < n
  · exact .inr ⟨hgo i σ H hlt p, Pv (i + 1), fun σ' H' z => ⟨n - (i + 1), by omega, rfl, hlt, z⟩, fun x H' y => hs i σ H x H' hlt p y⟩
  · have e : i = n := by omega
    subst e
    exact .inl ⟨hst σ H p, hd σ H p⟩
def lcW (J : It) (g : TG) (tt : TT) (te : TE) (vs : List Nat) (σ : L2.St) (D : Addr) (Qd : Hp → Prop) (H1 : Hp) : Prop := ∃ W : Nat → Nat → Hp → Prop, (∃ m, W 0 m (upd H1 D (.lst []))) ∧ ∀ i m H, W i m H →
  (J.stop i H ∧ Qd H) ∨ (J.go i H ∧ ∃ Nx : Hp → Prop, (∀ H', Nx H' → ∃ m', m' < m ∧ W (i + 1) m' H') ∧ ∀ x H', J.yld i H x H' → g x (wipe σ vs) H' fun σ2 H2 => wipe σ2 vs = wipe σ vs ∧ tt σ2 H2 fun b H3 =>
    if b = true then te σ2 H3 fun y H4 => ∃ acc, H4 D = some (.lst acc) ∧ acc.length < sizeLine ∧ Nx (upd H4 D (.lst (acc ++ [y]))) else Nx H3)
theorem lc_gen {J : It} {n : Nat} {g : TG} {tt : TT} {te : TE} {vs : List Nat} {σ : L2.St} {H1 : Hp} {D : Addr} {Qd : Hp → Prop} (Pv : Nat → Hp → Prop) (h0 : Pv 0 (upd H1 D (.lst []))) (hgo : ∀ i H, i < n → Pv i H → J.go i H) (hst : ∀ H, Pv n H → J.stop n H)
    (hs : ∀ i H x H', i < n → Pv i H → J.yld i H x H' → g x (wipe σ vs) H' fun σ2 H2 => wipe σ2 vs = wipe σ vs ∧ tt σ2 H2 fun b H3 =>
      if b = true then te σ2 H3 fun y H4 => ∃ acc, H4 D = some (.lst acc) ∧ acc.length < sizeLine ∧ Pv (i + 1) (upd H4 D (.lst (acc ++ [y]))) else Pv (i + 1) H3) (hd : ∀ H, Pv n H → Qd H) : lcW J g tt te vs σ D Qd H1 := by
  refine ⟨fun i m H => m = n - i ∧ i ≤ n ∧ Pv i H, ⟨n, by omega, Nat.zero_le _, h0⟩, fun i m H w => ?_⟩
  obtain ⟨rfl, hi, p⟩ := w
  by_cases hlt : i < n
  · exact .inr ⟨hgo i H hlt p, Pv (i + 1), fun H' z => ⟨n - (i + 1), by omega, rfl, hlt, z⟩, fun x H' y => hs i H x H' hlt p y⟩
  · have e : i = n := by omega
    subst e
    exact .inl ⟨hst H p, hd H p⟩
/-! ### a def of the module that may be called by its name -/
structure Cal (P : Program) (w : World) (K : PySem.W.Frag) (mg : Str → Option Value) (base : Heap) (k : Nat) (x : Str) (sp : Sp) : Prop where
  ex : ∃ (f : Addr) (fd : FuncData) (ps : List Str), FnOk P w K mg base CX0 k f fd ps sp ∧ mg x = some (.ref f) ∧ PySem.W.keepIn K (.ref f) = true ∧ Binds K fd ps []
section
variable {X : Cx} {k j : Nat} {x : Str} {sp : Sp} {p pos : Pos} {e : Expr} {es : List Expr} {t : TA}
theorem pe_cl (c : Cal X.prog X.w X.K X.mg X.base k x sp) (hr : Room j X.A) (hk : k ≤ j) (hg : Gl X x) (ha : PA X (e :: es) t)
    (hdb : (x == ("__debug__" : Str)) = false := by decide) (he : starEach (e :: es) X.env = (false, eval e X.env) :: starEach es X.env := by rfl) (hpl : (backTo pos (starEach es X.env)).any (·.1) = false := by rfl) : PE X (.Call (.Name x p) (e :: es) [] pos) (tCall sp [] E0 t) := by
  obtain ⟨f, fd, ps, F, hm, kp, b⟩ := c.ex
  exact pe_call F (hr.mono hk) hg hm kp b .nil pass0 ha hdb he hpl
end
structure CalK (P : Program) (w : World) (K : PySem.W.Frag) (mg : Str → Option Value) (base : Heap) (k : Nat) (x : Str) (n : Nat) (ks : List Str) (gV : List V → List V → List V) (sp : Sp) : Prop where
  ex : ∃ (f : Addr) (fd : FuncData) (ps : List Str) (g : List Value → List Value → List Value), FnOk P w K mg base CX0 k f fd ps sp ∧ mg x = some (.ref f) ∧ PySem.W.keepIn K (.ref f) = true ∧ KBn K fd ps n ks g gV
section
variable {X : Cx} {k j n : Nat} {x : Str} {sp : Sp} {ks : List Str} {gV : List V → List V → List V} {p pos : Pos} {e : Expr} {es : List Expr} {kws : List Keyword} {t tk : TA}
theorem pe_clK (c : CalK X.prog X.w X.K X.mg X.base k x n ks gV sp) (hr : Room j X.A) (hk : k ≤ j) (hg : Gl X x) (ha : PA X (e :: es) t) (hkw : PK X kws tk)
    (hall : (backToKw pos (keywordEach kws X.env)).all (·.1.isSome) = true := by rfl) (hks : (backToKw pos (keywordEach kws X.env)).filterMap (·.1) = ks := by rfl) (hdb : (x == ("__debug__" : Str)) = false := by decide)
    (he : starEach (e :: es) X.env = (false, eval e X.env) :: starEach es X.env := by rfl) (hpl : ((backTo pos (starEach (e :: es) X.env)).any (·.1) || (backToKw pos (keywordEach kws X.env)).any (·.1.isNone)) = false := by rfl) :
    PE X (.Call (.Name x p) (e :: es) kws pos) (tCallN n ks.length sp gV E0 t tk) := by
  obtain ⟨f, fd, ps, g, F, hm, kp, b⟩ := c.ex
  exact pe_callN F (hr.mono hk) hg hm kp b pass0 ha hkw hall hks hdb he hpl
end
/-! ### heaps -/
/-- all but p stands -/
def SB (p : Addr) (H H' : Hp) : Prop := ∀ b o, b ≠ p → H b = some o → H' b = some o
theorem Same.sb {p : Addr} {H H' : Hp} (s : Same H H') : SB p H H' := fun b o _ h => s b o h
theorem SB.trans {p : Addr} {H H1 H2 : Hp} (a : SB p H H1) (b : SB p H1 H2) : SB p H H2 := fun c o n h => b c o n (a c o n h)
theorem SB.upd {p : Addr} {H H' : Hp} {o : HO} (s : SB p H H') : SB p H (upd H' p o) := fun b u n h => by
  rw [upd_ne n]
  exact s b u n h
theorem SB.same {p : Addr} {H H' : Hp} (s : SB p H H') (n : H p = none) : Same H H' := fun b o h => s b o (ne_of_none h n) h
theorem Same.mut {p : Addr} {H H' : Hp} {o : HO} (s : Same H H') (n : H p = none) : Same H (L2.upd H' p o) := fun b u h => by
  rw [upd_ne (ne_of_none h n)]
  exact s b u h
theorem SB.sq {K : PySem.W.Frag} {p a : Addr} {H H' : Hp} {xs : List V} (s : SB p H H') (n : a ≠ p) (h : SqL K H a xs) : SqL K H' a xs := by
  rcases h with (h | ⟨o, h⟩) | h
  · exact .inl (.inl (s _ _ n h))
  · exact .inl (.inr ⟨o, s _ _ n h⟩)
  · exact .inr h
theorem Same.sqT {K : PySem.W.Frag} {a : Addr} {H H' : Hp} {xs : List V} (s : Same H H') (h : SqT K H a xs) : SqT K H' a xs := by
  rcases h with (h | ⟨o, h⟩) | h
  · exact .inl (.inl (s _ _ h))
  · exact .inl (.inr ⟨o, s _ _ h⟩)
  · exact .inr h
theorem Same.sqK {b : Bool} {K : PySem.W.Frag} {a : Addr} {H H' : Hp} {xs : List V} (s : Same H H') (h : SqK b K H a xs) : SqK b K H' a xs := by
  cases b
  · exact Z.Same.sqT s h
  · exact s.seq h
theorem at_map {α : Type} {f : α → V} {xs : List α} {i : Nat} {x : α} (h : xs[i]? = some x) : atI (xs.map f) (i : Int) = some (f x) := atI_nat (by rw [List.getElem?_map, h]; rfl)
theorem of_map {α : Type} {f : α → V} {xs : List α} {i : Nat} {v : V} (h : (xs.map f)[i]? = some v) : ∃ x, xs[i]? = some x ∧ v = f x := by
  rw [List.getElem?_map] at h
  cases e : xs[i]? with
  | none => rw [e] at h; cases h
  | some x => rw [e] at h; exact ⟨x, rfl, (Option.some.inj h).symm⟩
end Z
set_option Elab.async false
set_option linter.all false
set_option maxRecDepth 100000
set_option maxHeartbeats 4000000
namespace Z
open PySem PySem.Spec PyProof.Rows L2
/-! ### data -/
def sqD (b : Bool) (ds : List PyData) : PyData := match b with
  | true => .list ds
  | false => .tuple ds
def intsD (b : Bool) (ns : List Int) : PyData := sqD b (ns.map PyData.int)
def matD (b : Bool) (rs : List (List Int)) : PyData := sqD b (rs.map (intsD b))
theorem dp_sq {b : Bool} {K : PySem.W.Frag} {H : Hp} {a : Addr} {xs : List V} {ds : List PyData} (h : SqK b K H a xs) (d : DpAll K H xs ds) : Dp K H (.ref a) (sqD b ds) := by
  cases b
  · exact .tup h d
  · exact .lst h d
theorem dpa_ints {K : PySem.W.Frag} {H : Hp} : ∀ ns : List Int, DpAll K H (ns.map V.int) (ns.map PyData.int)
  | [] => .nil
  | n :: r => .cons (.int n) (dpa_ints r)
theorem dp_ints {b : Bool} {K : PySem.W.Frag} {H : Hp} {a : Addr} {ns : List Int} (h : SqK b K H a (ns.map V.int)) : Dp K H (.ref a) (intsD b ns) := dp_sq h (dpa_ints ns)
/-- a matrix: a list (or tuple) of lists (or tuples) of ints, at ps -/
def Mat (b : Bool) (K : PySem.W.Frag) (H : Hp) (a : Addr) (ps : List Addr) (rs : List (List Int)) : Prop := SqK b K H a (ps.map V.ref) ∧ ps.length = rs.length ∧ ∀ (i : Nat) (p : Addr) (r : List Int), ps[i]? = some p → rs[i]? = some r → SqK b K H p (r.map V.int)
theorem Mat.mono {b : Bool} {K : PySem.W.Frag} {H H' : Hp} {a : Addr} {ps : List Addr} {rs : List (List Int)} (s : Same H H') (m : Mat b K H a ps rs) : Mat b K H' a ps rs := ⟨Z.Same.sqK s m.1, m.2.1, fun i p r h1 h2 => Z.Same.sqK s (m.2.2 i p r h1 h2)⟩
theorem dpa_mat {b : Bool} {K : PySem.W.Frag} {H : Hp} : ∀ (ps : List Addr) (rs : List (List Int)), ps.length = rs.length → (∀ (i : Nat) (p : Addr) (r : List Int), ps[i]? = some p → rs[i]? = some r → SqK b K H p (r.map V.int)) → DpAll K H (ps.map V.ref) (rs.map (intsD b))
  | [], [], _, _ => .nil
  | p :: ps, r :: rs, hl, h => .cons (dp_ints (h 0 p r rfl rfl)) (dpa_mat ps rs (by simpa using hl) fun i q s h1 h2 => h (i + 1) q s h1 h2)
theorem Mat.dp {b : Bool} {K : PySem.W.Frag} {H : Hp} {a : Addr} {ps : List Addr} {rs : List (List Int)} (m : Mat b K H a ps rs) : Dp K H (.ref a) (matD b rs) := dp_sq m.1 (dpa_mat ps rs m.2.1 m.2.2)
theorem lay_ints : ∀ ns : List Int, PyData.canLayAll0 (ns.map PyData.int) = true
  | [] => rfl
  | n :: r => by
    rw [List.map_cons, PyData.canLayAll0, lay_ints r]
    rfl
theorem dep_ints : ∀ ns : List Int, PyData.depthAll (ns.map PyData.int) = 0
  | [] => rfl
  | n :: r => by
    rw [List.map_cons, PyData.depthAll, dep_ints r]
    rfl
theorem shaped_ints (b : Bool) (ns : List Int) : SeqAt.shaped (intsD b ns) = true := by
  unfold SeqAt.shaped intsD
  cases b
  · show (PyData.canLayAll0 (ns.map PyData.int) && decide (PyData.depthAll (ns.map PyData.int) + 1 ≤ 64)) = true
    rw [lay_ints, dep_ints]
    rfl
  · show (PyData.canLayAll0 (ns.map PyData.int) && decide (PyData.depthAll (ns.map PyData.int) + 1 ≤ 64)) = true
    rw [lay_ints, dep_ints]
    rfl
theorem lay_mat (b : Bool) : ∀ rs : List (List Int), PyData.canLayAll0 (rs.map (intsD b)) = true
  | [] => rfl
  | n :: r => by
    rw [List.map_cons, PyData.canLayAll0, lay_mat b r, SeqAt.canLay_of_shaped (shaped_ints b n)]
    rfl
theorem dep_mat (b : Bool) : ∀ rs : List (List Int), PyData.depthAll (rs.map (intsD b)) ≤ 1
  | [] => Nat.zero_le _
  | n :: r => by
    rw [List.map_cons, PyData.depthAll]
    have h := dep_mat b r
    have h2 : (intsD b n).depth = 1 := by
      cases b
      · show PyData.depthAll (n.map PyData.int) + 1 = 1
        rw [dep_ints]
      · show PyData.depthAll (n.map PyData.int) + 1 = 1
        rw [dep_ints]
    omega
theorem shaped_mat (b : Bool) (rs : List (List Int)) : SeqAt.shaped (matD b rs) = true := by
  have h := dep_mat b rs
  unfold SeqAt.shaped matD
  cases b
  · show (PyData.canLayAll0 (rs.map (intsD false)) && decide (PyData.depthAll (rs.map (intsD false)) + 1 ≤ 64)) = true
    rw [lay_mat, decide_eq_true (by omega)]
    rfl
  · show (PyData.canLayAll0 (rs.map (intsD true)) && decide (PyData.depthAll (rs.map (intsD true)) + 1 ≤ 64)) = true
    rw [lay_mat, decide_eq_true (by omega)]
    rfl
theorem same2 {K : PySem.W.Frag} {H : Hp} {x y : V} {d : PyData} {R : PyData → PyData → Prop} (hx : Dp K H x d) (hy : Dp K H y d) (hs : SeqAt.shaped d = true) (q : R d d) : ∃ d' e', Dp K H x d' ∧ Dp K H y e' ∧ SeqAt.shaped d' = true ∧ SeqAt.shaped e' = true ∧ R d' e' := ⟨d, d, hx, hy, hs, hs, q⟩
theorem eqv_same {d : PyData} (hs : SeqAt.shaped d = true) : PyData.eqv d d = true := SeqAt.eqv_refl d (SeqAt.canLay_of_shaped hs)
/-! ### a target that is one of two kinds -/
def gOr (t u : TG) : TG := fun v σ H Q => t v σ H Q ∨ u v σ H Q
theorem pg_or {X : Cx} {e : Expr} {t u : TG} (h1 : PG X e t) (h2 : PG X e u) : PG X e (gOr t u) := by
  refine ⟨fun pins s σ H v uu Q I r hw => ?_⟩
  rcases hw with h | h
  · exact h1.run pins s σ H v uu Q I r h
  · exact h2.run pins s σ H v uu Q I r h
/-! ### isinstance of built-in kinds -/
theorem isi {K : PySem.W.Frag} {H : Hp} {x : V} {T c : String} {b : Bool} {R : Bool → Prop} (t : TyOf K H x (.type T)) (h : kitB T c = some b) (q : R b) : ∃ (x' c' : V) (t' u' : Value) (b' : Bool), [x, .ty c] = [x', c'] ∧ ClsV c' u' ∧ TyX K H x' t' ∧ PySem.W.kitOne K t' u' = some b' ∧ R b' :=
  ⟨x, .ty c, .type T, .type c, b, rfl, .ty c, .base t, kit_ty h, q⟩
/-! ### rules by the written part itself (within a comprehension's block) -/
section
variable {X : Cx} {K : PySem.W.Frag}
theorem ix_list_K (h : X.K = K) : IxR X (rIxL K) := by subst h; exact ix_list
theorem ix_tup_K (h : X.K = K) : IxR X (rIxT K) := by subst h; exact ix_tup
theorem ix_seq_K (h : X.K = K) : IxR X (rIx K) := by subst h; exact ix_seq
theorem call_len_seq_K (h : X.K = K) : CallR X (.builtin "len") (fun xs H Q => ∃ p ys, xs = [.ref p] ∧ (SqL K H p ys ∨ SqT K H p ys) ∧ Q (.int ys.length) H) := by subst h; exact call_len_seq
theorem call_list_of_K (h : X.K = K) : CallR X (.type "list") (fun xs H Q => ∃ p ys, xs = [.ref p] ∧ (SqL K H p ys ∨ SqT K H p ys) ∧ ∀ l, H l = none → Q (.ref l) (upd H l (.lst ys))) := by subst h; exact call_list_of
theorem call_tuple_of_K (h : X.K = K) : CallR X (.type "tuple") (fun xs H Q => ∃ p ys, xs = [.ref p] ∧ ((SqL K H p ys ∧ ∀ l, H l = none → Q (.ref l) (upd H l (.tup ys))) ∨ (SqT K H p ys ∧ Q (.ref p) H))) := by subst h; exact call_tuple_of
theorem op_in_seq_K (h : X.K = K) : OpR X (compareOp .In) (rIn K false) := by subst h; exact op_in_seq
theorem op_notIn_seq_K (h : X.K = K) : OpR X (compareOp .NotIn) (rIn K true) := by subst h; exact op_notIn_seq
theorem op_eqD_K (h : X.K = K) (hu : X.A.units + 64 < cLine) : OpR X (compareOp .Eq) (rEqD K) := by subst h; exact op_eqD hu
theorem op_neD_K (h : X.K = K) (hu : X.A.units + 64 < cLine) : OpR X (compareOp .NotEq) (rNeD K) := by subst h; exact op_neD hu
theorem call_isi_K (h : X.K = K) : CallR X (.builtin "isinstance") (rIsi K) := by subst h; exact call_isi
end
/-! ### great products -/
theorem big_mul {i j : Int} (hi : i.natAbs < 2 ^ 4000) (hj : j.natAbs < 2 ^ 4000) : CMulX i j := mulx_ok hi hj (by decide)
/-! ### sums of multiples of rows -/
def combN (rs : List (List Int)) (fs : List Int) (w : Nat) : Nat → List Int
  | 0 => List.replicate w 0
  | n + 1 => List.zipWith (fun a b => a + fs.getD n 0 * b) (combN rs fs w n) (rs.getD n [])
theorem combN_len {rs : List (List Int)} {fs : List Int} {w : Nat} (h : ∀ r ∈ rs, r.length = w) : ∀ n, n ≤ rs.length → (combN rs fs w n).length = w
  | 0, _ => List.length_replicate
  | n + 1, hn => by
    rw [combN, List.length_zipWith, combN_len h n (by omega), List.getD_eq_getElem?_getD, List.getElem?_eq_getElem (by omega), Option.getD_some, h _ (List.getElem_mem _)]
    omega
theorem combN_at {rs : List (List Int)} {fs : List Int} {w i c : Nat} (hi : i < rs.length) (hf : i < fs.length) (c1 : c < (combN rs fs w i).length) (c2 : c < rs[i].length) : (combN rs fs w (i + 1))[c]? = some ((combN rs fs w i)[c] + fs[i] * rs[i][c]) := by
  have g1 : fs.getD i 0 = fs[i] := by rw [List.getD_eq_getElem?_getD, List.getElem?_eq_getElem hf]; rfl
  have g2 : rs.getD i [] = rs[i] := by rw [List.getD_eq_getElem?_getD, List.getElem?_eq_getElem hi]; rfl
  rw [combN, List.getElem?_zipWith, g1, g2, List.getElem?_eq_getElem c1, List.getElem?_eq_getElem c2]
end Z
set_option Elab.async false
set_option linter.all false
set_option maxRecDepth 100000
set_option maxHeartbeats 4000000
namespace Z
open PySem PySem.Spec PyProof.Rows L2
open C8 (pss_cut tCut)
local macro_rules | `(tactic| walk_at "num") => `(tactic| first | omega | decide | exact ⟨by omega, by omega⟩ | exact ⟨by omega, by omega, by omega⟩ | exact ⟨by decide, by decide, by decide⟩ | exact Or.inl ⟨by omega, by omega⟩ | exact Or.inr ⟨by omega, by omega⟩)
local macro_rules | `(tactic| walk_at "go") => `(tactic| repeat (first | refine ⟨_, rfl, ?_⟩ | refine ⟨_, _, rfl, rfl, ?_⟩ | refine ⟨_, _, rfl, rfl, (by walk_at "num"), ?_⟩ | refine Or.inl ⟨_, rfl, ?_⟩ | refine ⟨rfl, ?_⟩ | refine And.intro (by walk_at "num") ?_))
def topS (i : Nat) : Stmt := PySem.Challenge.pw_signedpacts_k26_whole_pact_round_trip.main.body.getD i (.Pass ⟨0, 0, 0, 0⟩)
abbrev s_cell : Stmt := topS 46
abbrev N_cell : List Str := ["_law_script", "_law_k"]
abbrev P_cell : List Str := ["_law_script", "_law_k"]
theorem sc_cell : FnScope N_cell P_cell (defScope s_cell) := ⟨rfl, rfl, rfl, by decide +kernel, rfl, by decide +kernel, by decide +kernel⟩
abbrev s_draws : Stmt := topS 47
abbrev N_draws : List Str := ["_law_cell_here", "_law_many", "_law_rest", "_law_large", "_law_seed", "_law_found", "_law_k"]
abbrev P_draws : List Str := ["_law_cell_here", "_law_many"]
theorem sc_draws : FnScope N_draws P_draws (defScope s_draws) := ⟨rfl, rfl, rfl, by decide +kernel, rfl, by decide +kernel, by decide +kernel⟩
abbrev s_take : Stmt := topS 48
abbrev N_take : List Str := ["_law_draws_here", "_law_place"]
abbrev P_take : List Str := ["_law_draws_here", "_law_place"]
theorem sc_take : FnScope N_take P_take (defScope s_take) := ⟨rfl, rfl, rfl, by decide +kernel, rfl, by decide +kernel, by decide +kernel⟩
abbrev FnP (K : PySem.W.Frag) (x : Str) (st : Stmt) (f : Addr) (fd : FuncData) : Prop := FunD K x x (defArgs st) (defBody st) (defScope st) [] [] f fd
section
variable {P : Program} {w : World} {K : PySem.W.Frag} {mg : Str → Option Value} {base : Heap} {f : Addr} {fd : FuncData}
theorem cal_of {k : Nat} {x : Str} {st : Stmt} {ps : List Str} {sp : Sp} (F : FnP K x st f fd) (g : mg x = some (.ref f)) (b : Binds K fd ps []) (h : FnOk P w K mg base CX0 k f fd ps sp) : Cal P w K mg base k x sp := ⟨f, fd, ps, h, g, F.kp, b⟩
/-! ### _law_cell -/
def spCell (K : PySem.W.Frag) : Sp := fun vs H Q _ => ∃ (a : Addr) (ns : List Int) (k : Nat), vs = [.ref a, .int (k : Int)] ∧ SqL K H a (ns.map V.int) ∧ Q (.int (ns.getD k 0)) H
theorem ok_cell (F : FnP K "_law_cell" s_cell f fd) (m_len : mg "len" = none) (m_int : mg "int" = none) : FnOk P w K mg base CX0 1 f fd P_cell (spCell K) := by
  refine F.ok sc_cell (fun vs H Q E h => ?_) (fun cdv A outer s H vs Q E hr h => ?_)
  · obtain ⟨a, ns, k, rfl, _⟩ := h
    rfl
  · obtain ⟨a, ns, k, rfl, hS, q⟩ := h
    refine ⟨_, PSs.nox (pss_cons (ps_if (pt_cmpR op_lt (pv 1) (pe_callB call_len_seq (by rfl) m_len PySem.boot_len (pa_cons (pv 0) pa_nil)) (nomark _)) (pss_one (ps_ret (pe_callTy call_int1 (by rfl) m_int (by decide +kernel) (pa_cons (pe_ix ix_list (pv 0) (pv 1) (fun _ _ => rfl)) pa_nil)))) pss_nil)
      (pss_one (ps_ret pe_int))), ?_⟩
    walk_at "go"
    refine ⟨a, _, rfl, .inl hS, ?_⟩
    walk_at "go"
    rw [List.length_map]
    refine ite2 (fun e => ?_) (fun e => ?_)
    · have hk : k < ns.length := by have := of_decide_eq_true e; omega
      walk_at "go"
      refine ⟨a, _, _, _, rfl, rfl, hS, at_map (List.getElem?_eq_getElem hk), ?_⟩
      walk_at "go"
      rw [List.getD_eq_getElem?_getD, List.getElem?_eq_getElem hk] at q
      exact q
    · have hk : ¬ k < ns.length := fun z => e (decide_eq_true (by omega))
      rw [List.getD_eq_getElem?_getD, List.getElem?_eq_none (by omega)] at q
      exact q
/-! ### _law_draws -/
def Dr (n : Nat) (ds : List Int) : Prop := ds.length = n ∧ ∀ d ∈ ds, 0 ≤ d ∧ d < 1000000
def spDraws : Sp := fun vs H Q _ => ∃ (c : Int) (n : Nat), vs = [.int c, .int (n : Int)] ∧ n ≤ 100000 ∧ ∀ p ds, H p = none → Dr n ds → Q (.ref p) (upd H p (.lst (ds.map V.int)))
theorem ok_draws (F : FnP K "_law_draws" s_draws f fd) (m_int : mg "int" = none) (m_abs : mg "abs" = none) (m_range : mg "range" = none) : FnOk P w K mg base CX0 1 f fd P_draws spDraws := by
  refine F.ok sc_draws (fun vs H Q E h => ?_) (fun cdv A outer s H vs Q E hr h => ?_)
  · obtain ⟨c, n, rfl, _⟩ := h
    rfl
  · obtain ⟨c, n, rfl, hn, q⟩ := h
    refine ⟨_, PSs.nox (pss_cons (ps_set (i := 2) sc_draws.nd rfl (by first | exact .inl rfl | exact .inr rfl) (pe_callB call_abs (by rfl) m_abs (by decide +kernel) (pa_cons (pe_callTy call_int1 (by rfl) m_int (by decide +kernel) (pa_cons (pv 0) pa_nil)) pa_nil)))
      (pss_cons (ps_set (i := 3) sc_draws.nd rfl (by first | exact .inl rfl | exact .inr rfl) (pe_cmpR op_ge (pv 2) (pe_op op_pow pe_int pe_int) (nomark _)))
      (pss_cons (ps_set (i := 4) sc_draws.nd rfl (by first | exact .inl rfl | exact .inr rfl) (pe_op op_mod (pe_callTy call_int1 (by rfl) m_int (by decide +kernel) (pa_cons (pv 2) pa_nil)) pe_int))
      (pss_cons (ps_set (i := 5) sc_draws.nd rfl (by first | exact .inl rfl | exact .inr rfl) (pe_lst pa_nil))
      (pss_cons (ps_for PassesOwn.never rfl (pi_range1 (by rfl) m_range (pa_cons (pv 1) pa_nil)) (pg_name (i := 6) sc_draws.nd rfl (by first | exact .inl rfl | exact .inr rfl))
        (pss_cons (ps_set (i := 4) sc_draws.nd rfl (by first | exact .inl rfl | exact .inr rfl) (pe_op op_mod (pe_callTy call_int1 (by rfl) m_int (by decide +kernel) (pa_cons (pe_op op_add (pe_op op_add (pe_op op_mul (pv 4) pe_int) (pe_op op_mul pe_int (pv 6))) pe_int) pa_nil)) pe_int))
      (pss_one (ps_if (PW.pt (pw_and (pt_val (pv 3)) (pw_and1 (pt_cmpR op_gt (pv 2) pe_int (nomark _))))) (pss_cons (ps_expr (pe_bm PySem.F.plainAttrs_list PySem.F.slot_list_append PySem.F.type_list_append mt_append (pv 5) (pa_cons (pe_op op_mod (pe_callTy call_int1 (by rfl) m_int (by decide +kernel) (pa_cons (pv 2) pa_nil)) pe_int) pa_nil)))
      (pss_one (ps_set (i := 2) sc_draws.nd rfl (by first | exact .inl rfl | exact .inr rfl) (pe_op op_fdiv (pv 2) pe_int)))) (pss_one (ps_expr (pe_bm PySem.F.plainAttrs_list PySem.F.slot_list_append PySem.F.type_list_append mt_append (pv 5) (pa_cons (pe_op op_mod (pe_callTy call_int1 (by rfl) m_int (by decide +kernel) (pa_cons (pe_op op_fdiv (pe_op op_mod (pe_callTy call_int1 (by rfl) m_int (by decide +kernel) (pa_cons (pe_op op_add (pe_op op_mul (pv 4) pe_int) (pe_op op_mul pe_int (pv 6))) pa_nil)) pe_int) pe_int) pa_nil)) pe_int) pa_nil))))))))
      (pss_one (ps_ret (pv 5)))))))), ?_⟩
    walk_at "go"
    intro p np
    walk_at "go"
    refine for_gen (n := n) (fun i σ H1 => ∃ (r : Int) (z : Int) (ds : List Int) (v : Option V), 0 ≤ r ∧ 0 ≤ z ∧ z < 2147483647 ∧ Dr i ds ∧ H1 = upd H p (.lst (ds.map V.int)) ∧
      σ = [some (.int c), some (.int (n : Int)), some (.int r), some (.bl (decide ((10 : Int) ^ 18 ≤ (if c < 0 then -c else c)))), some (.int z), some (.ref p), v]) ?_ ?_ ?_ ?_ ?_
    · refine ⟨_, _, [], none, ?_, ?_, ?_, ⟨rfl, fun d hd => nomatch hd⟩, rfl, rfl⟩
      · split <;> omega
      · omega
      · omega
    · intro i σ H1 hi _
      show i < (n : Int).toNat
      omega
    · intro σ H1 _
      show (n : Int).toNat ≤ n
      omega
    · rintro i σ H1 x H' hi ⟨r, z, ds, v, hr0, hz0, hz1, hd, rfl, rfl⟩ ⟨rfl, rfl⟩
      have hlen : (ds.map V.int).length < sizeLine := by
        rw [List.length_map, hd.1]
        exact Nat.lt_of_lt_of_le hi (Nat.le_trans hn (by decide))
      have fin : ∀ (r' z' d : Int) (u : Option V), 0 ≤ r' → 0 ≤ z' → z' < 2147483647 → 0 ≤ d → d < 1000000 → ∃ (r : Int) (z : Int) (es : List Int) (v : Option V), 0 ≤ r ∧ 0 ≤ z ∧ z < 2147483647 ∧ Dr (i + 1) es ∧ upd (upd H p (.lst (ds.map V.int))) p (.lst (ds.map V.int ++ [.int d])) = upd H p (.lst (es.map V.int)) ∧
          [some (.int c), some (.int (n : Int)), some (.int r'), some (.bl (decide ((10 : Int) ^ 18 ≤ (if c < 0 then -c else c)))), some (.int z'), some (.ref p), u] = [some (.int c), some (.int (n : Int)), some (.int r), some (.bl (decide ((10 : Int) ^ 18 ≤ (if c < 0 then -c else c)))), some (.int z), some (.ref p), v] := by
        intro r' z' d u a1 a2 a3 a4 a5
        refine ⟨r', z', ds ++ [d], u, a1, a2, a3, ⟨by rw [List.length_append, hd.1]; rfl, fun x hx => ?_⟩, ?_, rfl⟩
        · rcases List.mem_append.mp hx with h | h
          · exact hd.2 x h
          · rw [List.mem_singleton.mp h]
            exact ⟨a4, a5⟩
        · rw [upd_upd, List.map_append]
          rfl
      walk_at "go"
      refine ite2 (fun e => ?_) (fun e => ?_)
      · walk_at "go"
        refine ite2 (fun e2 => ?_) (fun e2 => ?_)
        · walk_at "go"
          refine ⟨.inl ⟨rfl, _, .inl (.inl upd_same)⟩, ?_⟩
          walk_at "go"
          refine ⟨_, _, _, rfl, rfl, upd_same, hlen, ?_⟩
          walk_at "go"
          exact fin _ _ _ _ (by omega) (by omega) (by omega) (by omega) (by omega)
        · walk_at "go"
          refine ⟨.inl ⟨rfl, _, .inl (.inl upd_same)⟩, ?_⟩
          walk_at "go"
          refine ⟨_, _, _, rfl, rfl, upd_same, hlen, ?_⟩
          walk_at "go"
          exact fin _ _ _ _ (by omega) (by omega) (by omega) (by omega) (by omega)
      · walk_at "go"
        refine ⟨.inl ⟨rfl, _, .inl (.inl upd_same)⟩, ?_⟩
        walk_at "go"
        refine ⟨_, _, _, rfl, rfl, upd_same, hlen, ?_⟩
        walk_at "go"
        exact fin _ _ _ _ (by omega) (by omega) (by omega) (by omega) (by omega)
    · rintro σ H1 ⟨r, z, ds, v, hr0, hz0, hz1, hd, rfl, rfl⟩
      walk_at "go"
      exact q p ds np hd
/-! ### _law_take -/
def spTake (K : PySem.W.Frag) : Sp := fun vs H Q _ => ∃ (a p : Addr) (n m : Nat) (ds : List Int), vs = [.ref a, .ref p] ∧ SqL K H a (ds.map V.int) ∧ Dr n ds ∧ H p = some (.lst [.int (m : Int)]) ∧ a ≠ p ∧ ∀ r : Int, 0 ≤ r → r < 1000000 → Q (.int r) (upd H p (.lst [.int ((m + 1 : Nat) : Int)]))
theorem ok_take (F : FnP K "_law_take" s_take f fd) (m_len : mg "len" = none) : FnOk P w K mg base CX0 1 f fd P_take (spTake K) := by
  refine F.ok sc_take (fun vs H Q E h => ?_) (fun cdv A outer s H vs Q E hr h => ?_)
  · obtain ⟨a, p, n, m, ds, rfl, _⟩ := h
    rfl
  · obtain ⟨a, p, n, m, ds, rfl, hS, hd, hp, ne, q⟩ := h
    refine ⟨_, PSs.nox (pss_cons (ps_asg (pe_op op_add (pe_ix ix_list (pv 1) pe_int (fun _ _ => rfl)) pe_int) (pg_sub (pv 1) pe_int set_list))
      (pss_cons (ps_if (pt_cmpR op_gt (pe_ix ix_list (pv 1) pe_int (fun _ _ => rfl)) (pe_callB call_len_seq (by rfl) m_len PySem.boot_len (pa_cons (pv 0) pa_nil)) (nomark _)) (pss_one (ps_ret pe_int)) pss_nil)
      (pss_one (ps_ret (pe_ix ix_list (pv 0) (pe_op op_sub (pe_ix ix_list (pv 1) pe_int (fun _ _ => rfl)) pe_int) (fun _ _ => rfl)))))), ?_⟩
    have sb : SB p H (upd H p (.lst [.int ((m + 1 : Nat) : Int)])) := SB.upd (Z.Same.sb (Same.refl H))
    have hS' := sb.sq ne hS
    walk_at "go"
    refine ⟨p, _, 0, _, rfl, rfl, SqL.of hp, rfl, ?_⟩
    walk_at "go"
    refine ⟨p, _, 0, 0, rfl, rfl, hp, rfl, ?_⟩
    show tSeq _ _ _ _ (upd H p (.lst [.int ((m : Int) + 1)]))
    rw [show ((m : Int) + 1) = ((m + 1 : Nat) : Int) by omega]
    walk_at "go"
    refine ⟨p, _, 0, _, rfl, rfl, SqL.of upd_same, rfl, ?_⟩
    walk_at "go"
    refine ⟨a, _, rfl, .inl hS', ?_⟩
    walk_at "go"
    rw [List.length_map]
    refine ite2 (fun e => ?_) (fun e => ?_)
    · exact q 0 (by omega) (by omega)
    · have hk : m < ds.length := by
        apply Decidable.byContradiction
        intro z
        exact e (decide_eq_true (by omega))
      walk_at "go"
      refine ⟨p, _, 0, _, rfl, rfl, SqL.of upd_same, rfl, ?_⟩
      walk_at "go"
      refine ⟨a, _, _, _, rfl, rfl, hS', at_of (by omega) (show (ds.map V.int)[m]? = some (.int ds[m]) by rw [List.getElem?_map, List.getElem?_eq_getElem hk]; rfl), ?_⟩
      have h1 := hd.2 ds[m] (List.getElem_mem hk)
      exact q _ h1.1 h1.2
end
end Z
set_option Elab.async false
set_option linter.all false
set_option maxRecDepth 100000
set_option maxHeartbeats 4000000
namespace Z
open PySem PySem.Spec PyProof.Rows L2
/-! ### own classes: making, methods, calls of instances, == -/
structure Mak (P : Program) (w : World) (K : PySem.W.Frag) (mg : Str → Option Value) (base : Heap) (k : Nat) (x : Str) (sp : Sp) : Prop where
  ex : ∃ (C f : Addr) (fd : FuncData) (ps : List Str) (si : Sp), Mk K C f ∧ FnOk P w K mg base CX0 k f fd ps si ∧ mg x = some (.ref C) ∧ Binds K fd ps [] ∧
    ∀ vs H Q E, sp vs H Q E → ∀ n dx, H n = none → H dx = none → dx ≠ n → si (.ref n :: vs) (upd (upd H dx (.own n)) n (.ins C dx [])) (fun v H2 => v = .non ∧ Q (.ref n) H2) E
structure Met (P : Program) (w : World) (K : PySem.W.Frag) (mg : Str → Option Value) (base : Heap) (k : Nat) (C : Addr) (m : Str) (sp : Sp) : Prop where
  ex : ∃ (f : Addr) (fd : FuncData) (ps : List Str), Cls K C ∧ Meth K C m f ∧ FnOk P w K mg base CX0 k f fd ps sp ∧ Binds K fd ps []
section
variable {X : Cx} {k j : Nat} {x m : Str} {sp : Sp} {C : Addr} {p pos apos : Pos} {e o : Expr} {es : List Expr} {t : TA} {ta : TE}
theorem pe_mk (c : Mak X.prog X.w X.K X.mg X.base k x sp) (hr : Room j X.A) (hk : k + 1 ≤ j) (hg : Gl X x) (ha : PA X (e :: es) t)
    (hdb : (x == ("__debug__" : Str)) = false := by decide) (he : starEach (e :: es) X.env = (false, eval e X.env) :: starEach es X.env := by rfl) (hpl : (backTo pos (starEach es X.env)).any (·.1) = false := by rfl) : PE X (.Call (.Name x p) (e :: es) [] pos) (tCall sp [] E0 t) := by
  obtain ⟨C, f, fd, ps, si, M, F, hm, b, imp⟩ := c.ex
  constructor
  intro pins s σ H Q I h
  refine wpAny_Call_Name_kw (ld_glob I hg hm ?_ hdb)
  refine PySem.W.callWith_K (h₀ := X.base) I.ok.mod.kin M.kp (thn (ha.run pos pins s σ H _ I h) fun us s1 ⟨vs, H1, I1, r, q⟩ => ⟨I1.kIn, ?_⟩) he hpl
  have q2 : sp vs H1 Q E0 := by
    have z : sp (vs ++ []) H1 Q E0 := q
    rw [List.append_nil] at z
    exact z
  refine run_make (dvs := []) M F (hr.mono hk) b .nil pass0 I1 r (fun n dx n1 n2 n3 => ?_)
  rw [List.append_nil]
  exact imp _ _ _ _ q2 n dx n1 n2 n3
theorem pe_me {pl : Sem Bool} (c : Met X.prog X.w X.K X.mg X.base k C m sp) (he : PE X o ta) (hr : Room j X.A) (hk : k ≤ j) (ha : PA X (e :: es) t)
    (hst : starEach (e :: es) X.env = (false, eval e X.env) :: starEach es X.env := by rfl) (hpl : (backTo pos (starEach es X.env)).any (·.1) = false := by rfl)
    (ht : eval (.Call (.Attribute o m apos) (e :: es) [] pos) X.env = (do
      let ov ← eval o X.env
      standAt apos.atName
      let (f, first) ← holding [ov] (getMethod ov m pl)
      callWith pos f first (backTo pos (starEach (e :: es) X.env)) (backToKw pos (keywordEach [] X.env))) := by rfl) : PE X (.Call (.Attribute o m apos) (e :: es) [] pos) (tMeth C m sp [] E0 ta t) := by
  obtain ⟨f, fd, ps, cl, me, F, b⟩ := c.ex
  exact pe_meth he cl me F (hr.mono hk) b .nil pass0 ha hst hpl ht
theorem pe_me0 {pl : Sem Bool} (c : Met X.prog X.w X.K X.mg X.base k C m sp) (he : PE X o ta) (hr : Room j X.A) (hk : k ≤ j)
    (ht : eval (.Call (.Attribute o m apos) [] [] pos) X.env = (do
      let ov ← eval o X.env
      standAt apos.atName
      let (f, first) ← holding [ov] (getMethod ov m pl)
      callWith pos f first (backTo pos (starEach [] X.env)) (backToKw pos (keywordEach [] X.env))) := by rfl) : PE X (.Call (.Attribute o m apos) [] [] pos) (tMeth C m sp [] E0 ta tNil) := by
  obtain ⟨f, fd, ps, cl, me, F, b⟩ := c.ex
  exact pe_meth0 he cl me F (hr.mono hk) b .nil pass0 ht
end
/-! ### f(e, ..), f an instance of C -/
structure Cob (P : Program) (w : World) (K : PySem.W.Frag) (mg : Str → Option Value) (base : Heap) (k : Nat) (C : Addr) (sp : Sp) : Prop where
  ex : ∃ g : Addr, StX.CallO K C g ∧ FnR P w K mg base CX0 k g sp
def tCo (C : Addr) (sp : Sp) (tf : TE) (t : TA) : TE := fun σ H Q => tf σ H fun y H1 => ∃ a, y = V.ref a ∧ t σ H1 fun vs H2 => (∃ dx fs, H2 a = some (.ins C dx fs)) ∧ sp (V.ref a :: vs) H2 Q E0
section
variable {X : Cx} {k j : Nat} {sp : Sp} {C : Addr} {pos : Pos} {e fe : Expr} {es : List Expr} {t : TA} {tf : TE}
theorem pe_co (c : Cob X.prog X.w X.K X.mg X.base k C sp) (hf : PE X fe tf) (hr : Room j X.A) (hk : k ≤ j) (ha : PA X (e :: es) t)
    (ht : eval (.Call fe (e :: es) [] pos) X.env = (do callWith pos (← eval fe X.env) [] (backTo pos (starEach (e :: es) X.env)) (backToKw pos (keywordEach [] X.env))) := by rfl)
    (he : starEach (e :: es) X.env = (false, eval e X.env) :: starEach es X.env := by rfl) (hpl : (backTo pos (starEach es X.env)).any (·.1) = false := by rfl) : PE X (.Call fe (e :: es) [] pos) (tCo C sp tf t) := by
  obtain ⟨g, co, F⟩ := c.ex
  constructor
  intro pins s σ H Q I h
  refine Call_ (thn (hf.run pins s σ H _ I h) fun u s1 ⟨y, H1, I1, ry, a, ey, q⟩ => ?_) ht
  subst ey
  obtain rfl : u = Value.ref a := ry
  refine StX.callO_with (thn (ha.run pos pins s1 σ H1 _ I1 q) fun us s2 ⟨vs, H2, I2, r, hi, q2⟩ => ?_) he hpl
  have hi2 : StX.InsC X H2 a C := .inr hi
  obtain ⟨ox, od, J, hd⟩ := StX.insC_at I2 hi2
  exact ⟨⟨C, ox, od, J, hd⟩, StX.run_callO co F (hr.mono hk) pass0 I2 hi2 r q2⟩
end
/-! ### a == b by the class's own __eq__ -/
structure Eqo (P : Program) (w : World) (K : PySem.W.Frag) (mg : Str → Option Value) (base : Heap) (k : Nat) (C : Addr) (sp : Sp) : Prop where
  ex : ∃ (f : Addr) (fd : FuncData) (ps : List Str), FnOk P w K mg base CX0 k f fd ps sp ∧ PySem.W.findIn K (.ref C) "__eq__" = some (some (.ref f)) ∧ PySem.W.isFn K (.ref f) = true ∧ Binds K fd ps []
def rOwn (C : Addr) (sp : Sp) : R2 := fun x y H Q => ∃ a b dx dy fs gs, x = .ref a ∧ y = .ref b ∧ H a = some (.ins C dx fs) ∧ H b = some (.ins C dy gs) ∧ sp [.ref a, .ref b] H (fun v H' => ∃ r, v = .bl r ∧ Q v H') E0
theorem op_own {X : Cx} {k j : Nat} {C : Addr} {sp : Sp} (c : Eqo X.prog X.w X.K X.mg X.base k C sp) (hr : Room j X.A) (hk : k ≤ j) : OpR X (compareOp .Eq) (rOwn C sp) := by
  intro pins s σ H x y v u Q I rx ry hq
  obtain ⟨f, fd, ps, F, hs, hf, hb⟩ := c.ex
  obtain ⟨a, b, dx, dy, fs, gs, rfl, rfl, ha, hb', q⟩ := hq
  cases rx
  cases ry
  obtain ⟨mA, J, _⟩ := ins_get I.hok ha
  obtain ⟨mB, J', _⟩ := ins_get I.hok hb'
  obtain ⟨od, J, _⟩ := J.look
  obtain ⟨od', J', _⟩ := J'.look
  obtain ⟨m, hF⟩ := I.fr
  show wpAny (model X.prog X.w) X.A (richCompare .Eq (Value.ref a) (Value.ref b)) (EP X pins σ Q) X.xe s
  refine PySem.W.cmp_K (op := .Eq) (tb := .ref C) (hr.mono hk).units0 hF I.ok.mod.kin J J'.type (by simp [PySem.W.notFirst]) hs hf ?_
  have r2 : Vals [V.ref a, V.ref b] [Value.ref a, Value.ref b] := .cons rfl (.cons rfl .nil)
  refine thn (run_fn (dvs := []) F (hr.mono hk) hb .nil pass0 I r2 q) fun r s' z => ?_
  obtain ⟨v, H', I', rv, b', rfl, q'⟩ := z
  cases rv
  exact ⟨.bl b', H', I', rfl, q'⟩
end Z
set_option Elab.async false
set_option linter.all false
set_option maxRecDepth 100000
set_option maxHeartbeats 4000000
namespace Z
open PySem PySem.Spec PyProof.Rows L2 NdefX
/-! ### an own exception whose __init__ begins with super().__init__(..) -/
/-- what the written part says of it: the function f of the class C (cell cc, code c) -/
structure SupK (P : Program) (K : PySem.W.Frag) (C f c cc : Addr) (fd : FuncData) : Prop where
  lk : ∃ oc od osl, K.lookup f = some ⟨oc, od, .func fd, osl⟩
  code : ∃ (ccl : Value) (cdd : Option Addr) (vs : Array Value) (ccs : Array (Option Value)) (file : Str) (tf : Tok), K.lookup c = some ⟨ccl, cdd, .fields vs, ccs⟩ ∧ vs[2]? = some (.str file tf) ∧ ((P.main.file : Str) == file) = true
  cell : ∃ cl cld csl, K.lookup cc = some ⟨cl, cld, .cell (some (.ref C)), csl⟩
  top : (P.main.scope.names.lookup ("super" : Str)).isSome = false
  mro : PySem.W.mroIn K C (.ref C) = some true
  opq : PySem.W.nsIn K cStatics "thirdparty.any" = some none
  ini : PySem.W.ks_superIn K C C "__init__" = some (some (.builtin "ValueError.__init__"))
  sub : PySem.W.subIn K (.ref C) (.type "ValueError") = some true
  exi : PySem.W.excInitIn K C He.veBase "ValueError.__new__" = true
  oex : OexC K C
section
variable {CX : CXT} {P : Program} {w : World} {K : PySem.W.Frag} {mg : Str → Option Value} {base : Heap} {N ps : List Str} {F : NF} {f C a cc : Addr} {A : Around} {outer : List Env} {s0 s : Shared} {H0 H : Hp} {E : XK} {σ : L2.St}
/-- the bound __init__ called -/
theorem call_mw {X : Cx} {pins : List (Addr × Obj)} {u : Addr} {us : List Value} {Q : Value → Shared → Prop} {E : Value → Shared → Prop} {A : Around} (S : SupK X.prog X.K C f c cc fd) (I : Inv X ((u, PySem.W.kxs_mw "ValueError.__init__" a) :: pins) σ H s) (e : H a = some (exo a C none)) (hz : us.length ≤ sizeLine)
    (h : ∀ s', Inv X ((u, PySem.W.kxs_mw "ValueError.__init__" a) :: pins) σ H s' → Q .none s') : wpAny (model X.prog X.w) A (call (.ref u) us) Q E s := by
  have FB := F.excBase_ValueError
  obtain ⟨nm, N', qn, bs, bm, hdct, sn, sub, ab, col, dd, k0, k1, k2, k3, k5, hC, hT⟩ := PySem.W.excInit_of I.kIn S.exi
  have hu := (I.pin (u, PySem.W.kxs_mw "ValueError.__init__" a) (List.mem_append_right _ (List.mem_cons_self ..))).1
  obtain ⟨t1, he⟩ := exo_at I.hok e
  obtain ⟨hh, g, d, tk, os⟩ := s
  refine wpAny_call (codeAny_of_tree ?_)
  show wpAny _ A.in1 (callAny (.ref u) ⟨us, []⟩) _ _ _
  simp only [callAny]
  refine wpAny_bind (wpAny_load hu ?_)
  simp only [PySem.W.kxs_mw, show (Value.type "method-wrapper" == Value.type "method" || Value.type "method-wrapper" == Value.type "builtin_function_or_method" || Value.type "method-wrapper" == Value.type "method-wrapper") = true by decide, if_true]
  refine PySem.W.KFB.if_so (by decide) ?_
  refine wpAny_bind (PySem.W.check_bound_init FB.toExcCallFacts hC he rfl ?_)
  refine wpAny_bind (wpAny_pure (wpAny_pure ?_))
  refine ⟨plainId_quiet FB.init.plain _, codeAny_builtin FB.initEntry ?_⟩
  refine PySem.W.exc_init_tree (cls := .ref C) (t0 := t1) (dv := none) (c2 := .none) (c3 := .none) (b4 := .bool false) he hz fun h' k hx _ => ?_
  have J := I.write (t' := tk) (x := a) (e := a) (o := exo a C none) (by rw [e]; exact True.intro) (.inl rfl) k ⟨_, hx⟩ (exo_ok hx)
  have eu : upd H a (exo a C none) = H := by
    funext b
    by_cases hb : b = a
    · rw [hb, upd_same, e]
    · rw [upd_ne hb]
  rw [eu] at J
  exact h _ J
/-- super().__init__(e, ..), the first statement -/
theorem super_first {pl : Sem Bool} {fd : FuncData} {ar : Arg} {t : TA} {e : Expr} {es : List Expr} {p0 p1 p2 pos pos2 : Pos} {Qn : Hp → Prop} (S : SupK P K C f F.c cc fd) (hcl : F.cl = [(("__class__" : Str), cc)]) (hp : (fd.params.posonlyargs ++ fd.params.args).head? = some ar)
    (hks : F.scope.names.lookup ("super" : Str) = some .globalImplicit) (hkc : F.scope.names.lookup ("__class__" : Str) = some .free) (hka : F.scope.names.lookup ar.arg = some .local) (hk : F.scope.kind = .function) (m_super : mg "super" = none)
    (hN : N[0]? = some ar.arg) (ha : PA (ncx CX P w K mg base N F f A outer s0 H0 E) (e :: es) t) (I : Inv (ncx CX P w K mg base N F f A outer s0 H0 E) [] σ H s) (hs : σ[0]? = some (some (.ref a))) (hx : H a = some (exo a C none))
    (ht : t σ H fun vs H1 => vs.length ≤ 1000 ∧ H1 a = some (exo a C none) ∧ Qn H1)
    (hint : interactive (ncx CX P w K mg base N F f A outer s0 H0 E).env = false := by rfl) (hsw : swapsWith (.Call (.Attribute (.Call (.Name "super" p0) [] [] p1) "__init__" p2) (e :: es) [] pos) none pos2.line (ncx CX P w K mg base N F f A outer s0 H0 E).env = pure false := by rfl)
    (hev : eval (.Call (.Attribute (.Call (.Name "super" p0) [] [] p1) "__init__" p2) (e :: es) [] pos) (ncx CX P w K mg base N F f A outer s0 H0 E).env = (do
      let ov ← attributeBase (.Call (.Name "super" p0) [] [] p1) "__init__" (ncx CX P w K mg base N F f A outer s0 H0 E).env (eval (.Call (.Name "super" p0) [] [] p1) (ncx CX P w K mg base N F f A outer s0 H0 E).env)
      standAt p2.atName
      let (g, first) ← holding [ov] (getMethod ov "__init__" pl)
      callWith pos g first (backTo pos (starEach (e :: es) (ncx CX P w K mg base N F f A outer s0 H0 E).env)) []) := by rfl)
    (he : starEach (e :: es) (ncx CX P w K mg base N F f A outer s0 H0 E).env = (false, eval e (ncx CX P w K mg base N F f A outer s0 H0 E).env) :: starEach es (ncx CX P w K mg base N F f A outer s0 H0 E).env := by rfl) (hpl : (backTo pos (starEach es (ncx CX P w K mg base N F f A outer s0 H0 E).env)).any (·.1) = false := by rfl) :
    _root_.PySem.wpAt (model P w) (ncx CX P w K mg base N F f A outer s0 H0 E).A (.func F.body (ncx CX P w K mg base N F f A outer s0 H0 E).env) (exec (.Expr (.Call (.Attribute (.Call (.Name "super" p0) [] [] p1) "__init__" p2) (e :: es) [] pos) pos2) (ncx CX P w K mg base N F f A outer s0 H0 E).env)
      (fun fl s' => fl = .next ∧ ∃ H1, Inv (ncx CX P w K mg base N F f A outer s0 H0 E) [] σ H1 s' ∧ H1 a = some (exo a C none) ∧ Qn H1) (ncx CX P w K mg base N F f A outer s0 H0 E).xe s := by
  obtain ⟨oc, od, osl, lkf⟩ := S.lk
  obtain ⟨ccl, cdd, vs, ccs, file, tf, lkc, hvs, hfile⟩ := S.code
  obtain ⟨cl, cld, csl, lkcc⟩ := S.cell
  have KX : K.In s.heap := I.kIn
  obtain ⟨m, hn, hl⟩ := I.loc
  obtain ⟨u, ru, lu⟩ := hl 0 ar.arg (.ref a) hN hs (.inl hka)
  obtain rfl : u = .ref a := ru
  have hma : m ar.arg = some (.ref a) := by
    rcases lu with ⟨_, z⟩ | ⟨z, _⟩
    · exact z
    · rcases z with z | z
      · rw [show (ncx CX P w K mg base N F f A outer s0 H0 E).env.kindOf ar.arg = some .local from hka] at z; cases z
      · rw [show (ncx CX P w K mg base N F f A outer s0 H0 E).env.kindOf ar.arg = some .local from hka] at z; cases z
  obtain ⟨nm, q, NN, bs, bm, sn, sub, ab, col, dd, k0, k1, k2, k3, k5, hC, hbm⟩ := S.oex.cls
  obtain ⟨t1, hox⟩ := exo_at I.hok hx
  refine ks_wpAt_Expr_any (ks_wpAt_MethodCall ?_ hev) hint hsw
  refine ks_wpAt_super_base (env := (ncx CX P w K mg base N F f A outer s0 H0 E).env) (cc := F.c) hks hkc (by decide) rfl (KX _ _ lkf) rfl hp rfl (KX _ _ lkc) rfl hvs hfile S.top ?_
  obtain ⟨mb, h1, h2⟩ := I.mod.blt
  refine PySem.W.ks_loadName_global hk hks (Calls.loadGlobal_builtin (by rw [I.ok.glob]; exact I.mod.glob.keeps I.bk) m_super (by rw [I.ok.blt]; exact h1.keeps I.bk) ((h2 "super" (by decide)).trans (by decide +kernel)) ⟨rfl, ?_⟩)
  refine wpAny_loadName_free hk hkc (c := cc) (by show F.cl.lookup _ = _; rw [hcl]; rfl) ⟨_, KX _ _ lkcc, rfl⟩ ?_
  refine wpAny_loadName_local hk hka hn hma ?_
  refine ks_wpAny_isType_cls (KX _ _ hC) rfl ⟨rfl, ?_⟩
  obtain ⟨hh, g, d, tk, os⟩ := s
  refine ks_wpAny_call_super (KX _ _ hC) rfl hox rfl (fun c z => by cases z) (PySem.W.looks_mroIn KX S.mro) (fun h' eso kso => ?_)
  have I2 : Inv (ncx CX P w K mg base N F f A outer s0 H0 E) [] σ H ⟨h', g, d, tk, os⟩ := I.kept kso
  have KX2 : K.In h' := I2.kIn
  have hox2 := kso _ _ hox
  have IA : PySem.W.InstAt h' a _ C none := ⟨hox2, rfl, rfl, trivial⟩
  have hI : PySem.W.Looks (model P w) h' (isInstance (.ref a) (.type "ValueError")) true := IA.type.andThen (PySem.W.looks_subIn KX2 S.sub)
  have hm := S.ini
  cases hc : PySem.W.clsIn K C with
  | none =>
    unfold PySem.W.ks_superIn at hm
    rw [hc] at hm
    cases hm
  | some cd =>
    unfold PySem.W.ks_superIn at hm
    rw [hc] at hm
    refine PySem.W.kxs_getMethod PySem.W.kxs_ValueError eso (PySem.W.looks_opaque KX2 S.opq) (l₀ := cd.mro) ?_ rfl KX2 hm hI (PySem.W.ks_ne KX2 IA hc) (by decide) ?_
    · exact fun A Q E s k q => wpAny_bind ((PySem.W.looks_clsIn KX2 hc) A _ E s k (wpAny_pure q))
    · have I3 : Inv (ncx CX P w K mg base N F f A outer s0 H0 E) [(h'.objs.size, PySem.W.kxs_mw "ValueError.__init__" a)] σ H ⟨h'.push (PySem.W.kxs_mw "ValueError.__init__" a), g, d, tk + 1, os⟩ := ClX.pin_new I2 (fun b o e => Heap.get?_push_of_some _ e) (Nat.le_refl _) (Heap.get?_push_at rfl rfl) (fun v z => by cases z)
      rw [he]
      refine PySem.W.kxs_callWith (i := "ValueError.__init__") (x := a) (by show (false || (backTo pos (starEach es _)).any (·.1)) = false; rw [hpl]; rfl) ?_
      refine PySem.Calls.evalArgs_plain ?_
      have hrun := ha.run pos _ _ σ H _ I3 ht
      rw [he] at hrun
      refine thn hrun fun us s3 ⟨ws, H3, I4, r, q1, q2, q3⟩ => ?_
      refine ⟨ClX.pin_at I4, ?_⟩
      refine call_mw (X := ncx CX P w K mg base N F f A outer s0 H0 E) S I4 q2 (by show us.length ≤ sizeLine; rw [← r.length]; exact Nat.le_trans q1 (by decide)) fun s' I5 => ⟨rfl, H3, ClX.unpin I5, q2, q3⟩
theorem wpAt_to {M : Model} {A : Around} {c : Code} {α : Type} {m : Sem α} {Q Q' : α → Shared → Prop} {E : Value → Shared → Prop} {s : Shared} (h : _root_.PySem.wpAt M A c m Q E s) (hq : ∀ a s', Q a s' → Q' a s') : _root_.PySem.wpAt M A c m Q' E s := ks_wpAt_mono h hq fun _ _ z => z
/-- THE RULE: such an __init__, the rest of its body by its readings -/
theorem sup_ok {pl : Sem Bool} {fd : FuncData} {dV kV doc pm ct : Value} {an : Option Addr} {ar : Arg} {k : Nat} {sp : Sp} {txt : Str} {j : Nat} {p0 p1 p2 p3 pos pos2 : Pos} {rest : List Stmt} (hfd : fd = PySem.W.fnX F.name F.qual F.params F.body F.scope F.cl dV kV doc pm an (.ref F.c) ct)
    (S : SupK P K C f F.c cc fd) (hcd : PySem.W.codeIn K (.ref F.c) F.qual = true) (NS : NScope N ps ["__class__"] F.scope) (hcl : F.cl = [(("__class__" : Str), cc)]) (hp : (F.params.posonlyargs ++ F.params.args).head? = some ar) (hks : F.scope.names.lookup ("super" : Str) = some .globalImplicit) (m_super : mg "super" = none)
    (hN : N[0]? = some ar.arg) (hka : F.scope.names.lookup ar.arg = some .local)
    (hb : F.body = .Expr (.Call (.Attribute (.Call (.Name "super" p0) [] [] p1) "__init__" p2) [.Constant (.str txt) j p3] [] pos) pos2 :: rest)
    (len : ∀ vs H Q E, sp vs H Q E → vs.length = ps.length) (hself : ∀ vs H Q E, sp vs H Q E → ∃ a vs', vs = .ref a :: vs' ∧ H a = some (exo a C none))
    (hint : ∀ (A : Around) (outer : List Env) (s : Shared) (H : Hp) (E : XK), interactive (ncx CX P w K mg base N F f A outer s H E).env = false)
    (hsw : ∀ (A : Around) (outer : List Env) (s : Shared) (H : Hp) (E : XK), swapsWith (.Call (.Attribute (.Call (.Name "super" p0) [] [] p1) "__init__" p2) [.Constant (.str txt) j p3] [] pos) none pos2.line (ncx CX P w K mg base N F f A outer s H E).env = pure false)
    (hev : ∀ (A : Around) (outer : List Env) (s : Shared) (H : Hp) (E : XK), eval (.Call (.Attribute (.Call (.Name "super" p0) [] [] p1) "__init__" p2) [.Constant (.str txt) j p3] [] pos) (ncx CX P w K mg base N F f A outer s H E).env = (do
      let ov ← attributeBase (.Call (.Name "super" p0) [] [] p1) "__init__" (ncx CX P w K mg base N F f A outer s H E).env (eval (.Call (.Name "super" p0) [] [] p1) (ncx CX P w K mg base N F f A outer s H E).env)
      standAt p2.atName
      let (g, first) ← holding [ov] (getMethod ov "__init__" pl)
      callWith pos g first (backTo pos (starEach [.Constant (.str txt) j p3] (ncx CX P w K mg base N F f A outer s H E).env)) []))
    (hrest : ∀ (A : Around) (outer : List Env) (s : Shared) (H : Hp) (vs : List V) (Q : VK) (E : XK), sp vs H Q E → ∃ t, PSs (ncx CX P w K mg base N F f A outer s H E) rest t ∧ t { nx := fun _ H' => Q .non H', rt := Q } (startF N vs [some (.ref C)]) H) : FnOk P w K mg base CX (k + 1) f fd ps sp := by
  refine ⟨len, fun A outer s H args us vs Q E hr e0 hbn r hsp => ?_⟩
  have hl := len _ _ _ _ hsp
  have KX : K.In s.heap := e0.mod.kin.keeps fun b o e => (e0.bs b o e).1
  have lim : s.heap.NoLimit := e0.mod.nolimit.keeps fun b o e => (e0.bs b o e).1
  obtain ⟨oc, od, osl, lkf⟩ := S.lk
  obtain ⟨cl, cld, csl, lkcc⟩ := S.cell
  have CA : CellsAt F.cl ["__class__"] [some (.ref C)] s.heap H := by
    refine ⟨rfl, fun y c e => ?_, fun x y c e1 e2 => ?_, fun i y e => ?_⟩
    · rw [hcl] at e
      have ec : c = cc := by
        unfold List.lookup at e
        split at e
        · exact (Option.some.inj e).symm
        · cases e
      subst ec
      exact ⟨(e0.bs _ _ (e0.mod.kin _ _ lkcc)).2, _, _, KX _ _ lkcc, rfl⟩
    · rw [hcl] at e1 e2
      have k : ∀ z : Str, ([(("__class__" : Str), cc)] : List (Str × Addr)).lookup z = some c → z = "__class__" := fun z e => by
        unfold List.lookup at e
        split at e
        · next h => exact beq_iff_eq.mp h
        · cases e
      rw [k x e1, k y e2]
    · have ey : y = "__class__" := by
        cases i with
        | zero => exact (Option.some.inj e).symm
        | succ i => cases e
      subst ey
      refine ⟨cc, by rw [hcl]; rfl, fun v hv => ?_⟩
      have ei : i = 0 := by
        cases i with
        | zero => rfl
        | succ i => cases e
      subst ei
      obtain rfl : V.ref C = v := Option.some.inj (Option.some.inj hv)
      exact ⟨.ref C, rfl, _, KX _ _ lkcc, rfl⟩
  subst hfd
  refine ks_codeAny_call_defAt hr.depth (KX _ _ lkf) rfl lim (PySem.W.codeRec_of KX hcd) rfl hbn NS.nocell (fun ⟨n, _⟩ hy => NS.par n (List.of_mem_zip hy).1) (fun h₁ hns kp => ?_) NS.co NS.gen NS.kind
  show _root_.PySem.wpAt _ (ncx CX P w K mg base N F f A outer s H E).A (.func F.body (ncx CX P w K mg base N F f A outer s H E).env) (execs F.body (ncx CX P w K mg base N F f A outer s H E).env) _ (ncx CX P w K mg base N F f A outer s H E).xe _
  have I : Inv (ncx CX P w K mg base N F f A outer s H E) [] (startF N vs [some (.ref C)]) H { s with heap := h₁, toks := s.toks + (ps.zip us).length } := inv_startN NS hr.hd e0 hl r CA hns kp
  obtain ⟨a, vs', rfl, hx⟩ := hself _ _ _ _ hsp
  have hexe : execs F.body (ncx CX P w K mg base N F f A outer s H E).env = execs (.Expr (.Call (.Attribute (.Call (.Name "super" p0) [] [] p1) "__init__" p2) [.Constant (.str txt) j p3] [] pos) pos2 :: rest) (ncx CX P w K mg base N F f A outer s H E).env := by rw [hb]
  rw [hexe]
  refine ks_wpAt_execs_cons (wpAt_to (super_first (Qn := fun H1 => H1 = H) S hcl hp hks (NS.frk _ (List.mem_cons_self ..)) hka NS.kind m_super hN (pa_cons pe_str pa_nil) I rfl hx ⟨by simp, hx, rfl⟩ (hint A outer s H E) (hsw A outer s H E) (hev A outer s H E)) ?_)
  rintro fl s1 ⟨rfl, H1, I1, _, rfl⟩
  obtain ⟨t, ht, hq⟩ := hrest A outer s H1 _ Q E hsp
  refine wpAt_of_wpAny (wpAny_mono (ht.run [] _ _ H1 _ I1 hq) (fun fl s' hs => ?_) fun e s' hs => hs)
  have fin : ∀ {σ' : L2.St} {H' : Hp} {v : V} {u : Value}, Inv (ncx CX P w K mg base N F f A outer s H1 E) [] σ' H' s' → L2.RelV v u → Q v H' → CE outer P w H1 s Q u s' :=
    fun {σ' H' v u} J rv q => ⟨v, H', J.os, J.bare, J.base, J.hok, rv, q⟩
  cases fl with
  | ret u =>
    obtain ⟨v, σ', H', J, rv, q⟩ := hs
    exact fin J rv q
  | next =>
    obtain ⟨σ', H', J, q⟩ := hs
    exact fin (v := V.non) (u := Value.none) J rfl q
  | brk =>
    obtain ⟨_, _, _, q⟩ := hs
    exact False.elim q
  | cont =>
    obtain ⟨_, _, _, q⟩ := hs
    exact False.elim q
end
end Z
set_option Elab.async false
set_option linter.all false
set_option maxRecDepth 100000
set_option maxHeartbeats 4000000
namespace Z
open PySem PySem.Spec PyProof.Rows L2 NdefX
/-! ### class X(..): def __init__(self, v): super().__init__("text"); self.field = v -/
def spEx (C : Addr) (field : Str) : Sp := fun vs H Q _ => ∃ (a : Addr) (v : V), vs = [.ref a, v] ∧ H a = some (exo a C none) ∧ ∀ dx, H dx = none → dx ≠ a → Q .non (upd (upd H dx (exd dx [(field, v)])) a (exo a C (some dx)))
theorem exn_ok {P : Program} {w : World} {K : PySem.W.Frag} {mg : Str → Option Value} {base : Heap} {F : NF} {f C cc : Addr} {pl : Sem Bool} {fd : FuncData} {dV kV doc pm ct : Value} {an : Option Addr} {ar : Arg} {txt v field : Str} {j : Nat} {p0 p1 p2 p3 pos pos2 q1 q2 q3 q4 : Pos} (hfd : fd = PySem.W.fnX F.name F.qual F.params F.body F.scope F.cl dV kV doc pm an (.ref F.c) ct)
    (S : SupK P K C f F.c cc fd) (hcd : PySem.W.codeIn K (.ref F.c) F.qual = true) (NS : NScope ["self", v, "__class__"] ["self", v] ["__class__"] F.scope) (hcl : F.cl = [(("__class__" : Str), cc)]) (hp : (F.params.posonlyargs ++ F.params.args).head? = some ar) (har : ar.arg = "self") (hks : F.scope.names.lookup ("super" : Str) = some .globalImplicit) (m_super : mg "super" = none)
    (hno : PySem.W.findIn K (.ref C) field = some none) (hvd : (v == ("__debug__" : Str)) = false) (hvc : (v == ("__classdict__" : Str)) = false)
    (hb : F.body = [.Expr (.Call (.Attribute (.Call (.Name "super" p0) [] [] p1) "__init__" p2) [.Constant (.str txt) j p3] [] pos) pos2, .Assign [.Attribute (.Name "self" q1) field q2] (.Name v q3) q4])
    (hint : ∀ (A : Around) (outer : List Env) (s : Shared) (H : Hp) (E : XK), interactive (ncx CX0 P w K mg base ["self", v, "__class__"] F f A outer s H E).env = false)
    (hsw : ∀ (A : Around) (outer : List Env) (s : Shared) (H : Hp) (E : XK), swapsWith (.Call (.Attribute (.Call (.Name "super" p0) [] [] p1) "__init__" p2) [.Constant (.str txt) j p3] [] pos) none pos2.line (ncx CX0 P w K mg base ["self", v, "__class__"] F f A outer s H E).env = pure false)
    (hev : ∀ (A : Around) (outer : List Env) (s : Shared) (H : Hp) (E : XK), eval (.Call (.Attribute (.Call (.Name "super" p0) [] [] p1) "__init__" p2) [.Constant (.str txt) j p3] [] pos) (ncx CX0 P w K mg base ["self", v, "__class__"] F f A outer s H E).env = (do
      let ov ← attributeBase (.Call (.Name "super" p0) [] [] p1) "__init__" (ncx CX0 P w K mg base ["self", v, "__class__"] F f A outer s H E).env (eval (.Call (.Name "super" p0) [] [] p1) (ncx CX0 P w K mg base ["self", v, "__class__"] F f A outer s H E).env)
      standAt p2.atName
      let (g, first) ← holding [ov] (getMethod ov "__init__" pl)
      callWith pos g first (backTo pos (starEach [.Constant (.str txt) j p3] (ncx CX0 P w K mg base ["self", v, "__class__"] F f A outer s H E).env)) []))
    (hs2 : ∀ (A : Around) (outer : List Env) (s : Shared) (H : Hp) (E : XK), swapsWith (.Name v q3) (some (.Attribute (.Name "self" q1) field q2)) q4.line (ncx CX0 P w K mg base ["self", v, "__class__"] F f A outer s H E).env = pure false) : FnOk P w K mg base CX0 1 f fd ["self", v] (spEx C field) := by
  refine sup_ok (k := 0) (rest := [.Assign [.Attribute (.Name "self" q1) field q2] (.Name v q3) q4]) hfd S hcd NS hcl hp hks m_super (by rw [har]; rfl) (by rw [har]; exact NS.par _ (List.mem_cons_self ..)) hb (fun vs H Q E h => ?_) (fun vs H Q E h => ?_) hint hsw hev (fun A outer s H vs Q E h => ?_)
  · obtain ⟨a, y, rfl, _⟩ := h
    rfl
  · obtain ⟨a, y, rfl, hx, _⟩ := h
    exact ⟨a, [y], rfl, hx⟩
  · obtain ⟨a, y, rfl, hx, q⟩ := h
    refine ⟨_, pss_one (ps_ost (pe_var (i := 0) rfl (.inl (NS.par _ (List.mem_cons_self ..)))) (pe_var (i := 1) rfl (.inl (NS.par _ (List.mem_cons_of_mem _ (List.mem_cons_self ..)))) hvd hvc) (hs2 A outer s H E)), ?_⟩
    refine ⟨y, rfl, .ref a, rfl, a, C, rfl, S.oex, hno, .inl ⟨hx, fun dx n1 n2 => ?_⟩⟩
    exact q dx n1 n2
/-! ### raise X(e) -/
structure Exn (P : Program) (w : World) (K : PySem.W.Frag) (mg : Str → Option Value) (base : Heap) (x : Str) (C : Addr) (field : Str) : Prop where
  oex : OexC K C
  gl : mg x = some (.ref C)
  ini : ∃ fI fd ps, PySem.W.findIn K (.ref C) "__init__" = some (some (.ref fI)) ∧ PySem.W.typeIn K (.ref fI) = some (.type "function") ∧ FnOk P w K mg base CX0 1 fI fd ps (spEx C field) ∧ Binds K fd ps []
/-! ### C(e): the exception's object has no context -/
section
variable {X : Cx} {x : Str} {C g : Addr} {k : Nat} {fd : FuncData} {ps : List Str} {sp : Sp} {e : Expr} {ta : TA} {p pos : Pos}
/-- the two objects that type.__call__ lays -/
abbrev hp2 (h : Heap) (C : Addr) (us : List Value) : Heap :=
  (h.push (PySem.W.kdv_tup us)).push (PySem.HandSPX.excO C h.objs.size)
theorem hp2_keep {h : Heap} {us : List Value} (b : Addr) (o : Obj) (z : h.get? b = some o) :
    (hp2 h C us).get? b = some o := Heap.get?_push_of_some _ (Heap.get?_push_of_some _ z)
theorem hp2_at {h : Heap} {us : List Value} :
    (hp2 h C us).get? (h.objs.size + 1) = some (PySem.HandSPX.excO C h.objs.size) := by heap_get
theorem inv2 {pins : List (Addr × Obj)} {σ : L2.St} {H : Hp} {h : Heap} {gs : Array GenState} {dr : Drawn} {tk : Nat} {os : OsState} {us : List Value}
    (I : Inv X pins σ H ⟨h, gs, dr, tk, os⟩) :
    Inv X pins σ (upd H (h.objs.size + 1) (exo (h.objs.size + 1) C none)) ⟨hp2 h C us, gs, dr, tk, os⟩ :=
  I.laid (t' := tk) (a := h.objs.size + 1) (o := exo (h.objs.size + 1) C none) (h' := hp2 h C us)
    hp2_keep (Nat.le_succ _) (exo_ok hp2_at)
theorem pmkN (T : OexC X.K C)
    (iC : PySem.W.findIn X.K (.ref C) "__init__" = some (some (.ref g)))
    (tI : PySem.W.typeIn X.K (.ref g) = some (.type "function"))
    (F : FnOk X.prog X.w X.K X.mg X.base CX0 k g fd ps sp) (hr : Room (k + 1) X.A) (hb : Binds X.K fd ps [])
    (hg : Gl X x) (hm : X.mg x = some (.ref C)) (ha : PA X [e] ta)
    (hdb : (x == ("__debug__" : Str)) = false := by decide)
    (he : starEach [e] X.env = (false, eval e X.env) :: starEach [] X.env := by rfl)
    (hpl : (backTo pos (starEach [] X.env)).any (·.1) = false := by rfl) :
    L2N.PMk X (.Call (.Name x p) [e] [] pos) (tMkO C sp [] ta) := by
  intro pins s σ H Q I h
  obtain ⟨_, _, _, _, vm, _, _, _, _, _, _, _, _, _, _, atC, inM⟩ := T.cls
  refine wpAny_Call_Name_kw (ld_glob I hg hm ?_ hdb)
  refine PySem.W.callWith_K (h₀ := X.base) I.ok.mod.kin T.kC ?_ he hpl
  refine thn (ha.run pos pins s σ H _ I h) fun us s1 hh => ?_
  obtain ⟨vs, H1, J, r, few, q⟩ := hh
  refine ⟨J.kIn, ?_⟩
  obtain ⟨hp, gs, dr, tk, os⟩ := s1
  have q := q (hp.objs.size + 1) (J.hok.fresh (Nat.le_succ _))
  rw [List.append_nil] at q
  have J2 := inv2 (C := C) (us := us) J
  have r2 : Vals (V.ref (hp.objs.size + 1) :: vs) (Value.ref (hp.objs.size + 1) :: us) := .cons rfl r
  have len2 : (Value.ref (hp.objs.size + 1) :: us ++ []).length = ps.length := by
    rw [List.append_nil, ← r2.length]
    exact F.len _ _ _ _ q
  have b2 := hb _ (Value.ref (hp.objs.size + 1) :: us) J2.kIn len2
  rw [List.append_nil] at b2
  have few2 : us.length ≤ sizeLine := by
    have := Paired.length r
    rw [sizeLine_eq]
    omega
  have run := F.run _ X.stack _ _ _ _ _ _ _ (hr.make C us []) (J2.env0.make C us []) b2 r2 q
  refine wpAny_call (PySem.HandSPX.call_own PySem.F.excBase_ValueError (fun Y => PySem.HandSPX.refsVE_contains Y vm inM)
    (J.kIn _ _ atC) (PySem.W.looks_findIn J.kIn iC) (fun self => PySem.W.bind_fn J.kIn self tI) few2
    (codeAny_mono run fun res s' z => ?_))
  match res, z with
  | .error er, z => exact z.elim
  | .ok (.ret u), z =>
    obtain ⟨v, H2, eo, bare, un, ok2, rv, ev, d, fs, ea, ed, nd, q2⟩ := z
    subst ev
    obtain ⟨h2, g2, d2, t2, os'⟩ := s'
    obtain ⟨t0, G, J3, kG, ge, hoe, na⟩ := mk_end0 (d2 := d2) (t2 := t2) J (Nat.le_succ _) hp2_keep un ok2 eo bare ea ed nd
    refine ⟨rv, hp.objs.size + 1, _, _, ⟨G, g2, d2, t2, os'⟩, _, .ref C, some d, rfl, J3, kG, ge, hoe, ⟨rfl, rfl, fun ws ew => ?_⟩, rfl, rfl, na, rfl, bare, raises_own T.exC T.tyC, q2⟩
    cases ew
    rfl
end
section
variable {X : Cx} {x field : Str} {C : Addr} {j : Nat} {e : Expr} {ta : TA} {p pos pos2 : Pos} {W : WX}
theorem pmk_exn (c : Exn X.prog X.w X.K X.mg X.base x C field) (hr : Room j X.A) (hk : 2 ≤ j) (hg : Gl X x) (ha : PA X [e] ta) (hdb : (x == ("__debug__" : Str)) = false := by decide) (he : starEach [e] X.env = (false, eval e X.env) :: starEach [] X.env := by rfl) (hpl : (backTo pos (starEach [] X.env)).any (·.1) = false := by rfl) :
    L2N.PMk X (.Call (.Name x p) [e] [] pos) (tMkO C (spEx C field) [] ta) := by
  obtain ⟨fI, fd, ps, iC, tI, F1, b⟩ := c.ini
  exact pmkN (X := X) (pos := pos) (p := p) c.oex iC tI F1 (hr.mono hk) b hg c.gl ha hdb he hpl
/-- raise X(e) -/
theorem ps_exn (hc : X.calm = true) (tk : L2N.Takes X W) (c : Exn X.prog X.w X.K X.mg X.base x C field) (hr : Room j X.A) (hk : 2 ≤ j) (hg : Gl X x) (ha : PA X [e] ta) (hdb : (x == ("__debug__" : Str)) = false := by decide) (he : starEach [e] X.env = (false, eval e X.env) :: starEach [] X.env := by rfl) (hpl : (backTo pos (starEach [] X.env)).any (·.1) = false := by rfl) :
    PS X (.Raise (some (.Call (.Name x p) [e] [] pos)) none pos2) (fun _ σ H => tMkO C (spEx C field) [] ta σ H fun cls d H' => W cls d σ H') := L2N.ps_raise hc tk (pmk_exn c hr hk hg ha hdb he hpl)
end
/-- what is left to show of X(v) -/
theorem mkx_of {C : Addr} {field : Str} {v : V} {H1 : Hp} {Q : XK} (q : ∀ d, H1 d = none → Q (.ref C) (some d) (upd H1 d (.xd [(field, v)]))) :
    [v].length ≤ 1000 ∧ ∀ a, H1 a = none → spEx C field (.ref a :: ([v] ++ [])) (upd H1 a (exo a C none)) (fun v H2 => v = .non ∧ ∃ (d : Addr) (fs : List (Str × V)), H2 a = some (exo a C (some d)) ∧ H2 d = some (exd d fs) ∧ H1 d = none ∧ Q (.ref C) (some d) (upd (del H2 a) d (.xd fs))) (fun _ _ _ => False) := by
  refine ⟨by simp, fun a na => ⟨a, v, rfl, upd_same, fun dx n1 n2 => ⟨rfl, dx, [(field, v)], upd_same, ?_, ?_, ?_⟩⟩⟩
  · rw [upd_ne n2, upd_same]
  · rw [← n1, upd_ne n2]
  · have n3 : H1 dx = none := by rw [← n1, upd_ne n2]
    have e1 : upd (del (upd (upd (upd H1 a (exo a C none)) dx (exd dx [(field, v)])) a (exo a C (some dx))) a) dx (.xd [(field, v)]) = upd H1 dx (.xd [(field, v)]) := by
      funext b
      by_cases hb : b = dx
      · rw [hb, upd_same, upd_same]
      · rw [upd_ne hb, upd_ne hb]
        by_cases ha2 : b = a
        · rw [ha2, del_same, na]
        · rw [del_ne ha2, upd_ne ha2, upd_ne hb, upd_ne ha2]
    rw [e1]
    exact q dx n3
/-! ### calls that may raise -/
structure CalX (P : Program) (w : World) (K : PySem.W.Frag) (mg : Str → Option Value) (base : Heap) (k : Nat) (x : Str) (sp : Sp) : Prop where
  ex : ∃ (f : Addr) (fd : FuncData) (ps : List Str), FnOk P w K mg base (L2N.CX P w) k f fd ps sp ∧ mg x = some (.ref f) ∧ PySem.W.keepIn K (.ref f) = true ∧ Binds K fd ps []
structure MakX (P : Program) (w : World) (K : PySem.W.Frag) (mg : Str → Option Value) (base : Heap) (k : Nat) (x : Str) (C : Addr) (sp : Sp) : Prop where
  ex : ∃ (f : Addr) (fd : FuncData) (ps : List Str), Mk K C f ∧ FnOk P w K mg base (L2N.CX P w) k f fd ps sp ∧ mg x = some (.ref C) ∧ Binds K fd ps []
structure MetX (P : Program) (w : World) (K : PySem.W.Frag) (mg : Str → Option Value) (base : Heap) (k : Nat) (C : Addr) (m : Str) (sp : Sp) : Prop where
  ex : ∃ (f : Addr) (fd : FuncData) (ps : List Str), Cls K C ∧ Meth K C m f ∧ FnOk P w K mg base (L2N.CX P w) k f fd ps sp ∧ Binds K fd ps []
structure CobX (P : Program) (w : World) (K : PySem.W.Frag) (mg : Str → Option Value) (base : Heap) (k : Nat) (C : Addr) (sp : Sp) : Prop where
  ex : ∃ (g : Addr) (fd : FuncData) (ps : List Str), StX.CallO K C g ∧ FnOk P w K mg base (L2N.CX P w) k g fd ps sp ∧ Binds K fd ps []
/-- C(e, ..) by its __init__'s promise; what is raised at the slots -/
def tMkW (C : Addr) (sp : Sp) (E : L2.St → XK) (t : TA) : TE := fun σ H Q => t σ H fun vs H1 => ∀ n dx, H1 n = none → H1 dx = none → dx ≠ n → sp (.ref n :: vs) (upd (upd H1 dx (.own n)) n (.ins C dx [])) (fun v H2 => v = .non ∧ Q (.ref n) H2) (E σ)
def tCoW (C : Addr) (sp : Sp) (E : L2.St → XK) (tf : TE) (t : TA) : TE := fun σ H Q => tf σ H fun y H1 => ∃ a, y = V.ref a ∧ t σ H1 fun vs H2 => (∃ dx fs, H2 a = some (.ins C dx fs)) ∧ sp (V.ref a :: vs) H2 Q (E σ)
def tMeW (C : Addr) (m : Str) (sp : Sp) (E : L2.St → XK) (ta : TE) (t : TA) : TE := fun σ H Q => ta σ H fun x H1 => ∃ a dx fs, x = V.ref a ∧ H1 a = some (.ins C dx fs) ∧ List.lookup m fs = none ∧ t σ H1 fun vs H2 => sp (x :: vs) H2 Q (E σ)
section
variable {X : Cx} {k j : Nat} {x m : Str} {sp : Sp} {C : Addr} {p pos apos : Pos} {e o fe : Expr} {es : List Expr} {t : TA} {ta tf : TE} {W : WX} {E : L2.St → XK}
theorem passS0 {σ : L2.St} : PassesAt (L2N.CX X.prog X.w) X σ E0 := fun _ _ _ _ _ _ h => by
  obtain ⟨_, _, _, _, _, _, _, _, _, _, _, _, z⟩ := h
  exact z.elim
/-- any result of a promise, at the slots -/
theorem back_at {σ : L2.St} {H : Hp} {s : Shared} {pins : List (Addr × Obj)} {Q : VK} {E : XK} {CX : CXT} (hx : PassesAt CX X σ E) (I : Inv X pins σ H s) : ∀ (r : Result) (s' : Shared), CR CX X.stack X.prog X.w H s Q E r s' → match r with
    | .ok (.ret v) => EP X pins σ Q v s'
    | .ok _ => False
    | .error e => X.xe e s'
  | .error e, s', h => hx pins H s e s' I h
  | .ok (.ret u), s', h => I.after h
  | .ok .next, s', h => h
  | .ok .brk, s', h => h
  | .ok .cont, s', h => h
theorem pe_clE (c : CalX X.prog X.w X.K X.mg X.base k x sp) (hx : ∀ σ, PassesAt (L2N.CX X.prog X.w) X σ (E σ)) (hr : Room j X.A) (hk : k ≤ j) (hg : Gl X x) (ha : PA X (e :: es) t) (hdb : (x == ("__debug__" : Str)) = false := by decide) (he : starEach (e :: es) X.env = (false, eval e X.env) :: starEach es X.env := by rfl) (hpl : (backTo pos (starEach es X.env)).any (·.1) = false := by rfl) :
    PE X (.Call (.Name x p) (e :: es) [] pos) (tCallS sp E t) := by
  obtain ⟨f, fd, ps, F, hm, kp, b⟩ := c.ex
  exact pe_callS F (hr.mono hk) hg hm kp b hx ha hdb he hpl
theorem pe_mkE (c : MakX X.prog X.w X.K X.mg X.base k x C sp) (hx : ∀ σ, PassesAt (L2N.CX X.prog X.w) X σ (E σ)) (hr : Room j X.A) (hk : k + 1 ≤ j) (hg : Gl X x) (ha : PA X (e :: es) t) (hdb : (x == ("__debug__" : Str)) = false := by decide) (he : starEach (e :: es) X.env = (false, eval e X.env) :: starEach es X.env := by rfl) (hpl : (backTo pos (starEach es X.env)).any (·.1) = false := by rfl) :
    PE X (.Call (.Name x p) (e :: es) [] pos) (tMkW C sp E t) := by
  obtain ⟨f, fd, ps, M, F, hm, b⟩ := c.ex
  constructor
  intro pins s σ H Q I h
  refine wpAny_Call_Name_kw (ld_glob I hg hm ?_ hdb)
  refine PySem.W.callWith_K (h₀ := X.base) I.ok.mod.kin M.kp (thn (ha.run pos pins s σ H _ I h) fun us s1 z => ?_) he hpl
  obtain ⟨vs, H1, I1, rr, q⟩ := z
  refine ⟨I1.kIn, ?_⟩
  obtain ⟨n, hn⟩ : ∃ n, n = s1.heap.objs.size := ⟨_, rfl⟩
  have q1 := q (n + 1) n (I1.hok.fresh (by rw [hn]; exact Nat.le_succ _)) (I1.hok.fresh (by rw [hn]; exact Nat.le_refl _)) (Nat.ne_of_lt (Nat.lt_succ_self _))
  subst hn
  have J := Inv.made (C := C) I1
  have r3 : Vals (V.ref (s1.heap.objs.size + 1) :: vs) (Value.ref (s1.heap.objs.size + 1) :: us) := .cons rfl rr
  have b3 := b { s1 with heap := (s1.heap.push PySem.W.emptyDict).push (PySem.W.instObj C s1.heap.objs.size) } (Value.ref (s1.heap.objs.size + 1) :: us) J.kIn (by rw [List.append_nil, ← r3.length]; exact F.len _ _ _ _ q1)
  rw [List.append_nil] at b3
  have run := F.run _ X.stack _ _ _ _ _ _ _ ((hr.mono hk).make C us []) (J.env0.make C us []) b3 r3 q1
  refine wpAny_call (make_map (f := f) I1.kIn M.makes M.init (beq_iff_eq.mp M.fn) (codeAny_mono run fun r s' hq => ?_))
  have z := back_at (hx σ) J r s' hq
  match r, z with
  | .error e, z => exact z
  | .ok (.ret u), ⟨v, H', J', rv, ev, q3⟩ =>
    subst ev
    exact ⟨rv, V.ref (s1.heap.objs.size + 1), H', J', rfl, q3⟩
theorem run_atE {f : Addr} {fd : FuncData} {ps : List Str} {σ : L2.St} {H : Hp} {s : Shared} {pins : List (Addr × Obj)} {Q : VK} {us : List Value} {vs : List V} (F : FnOk X.prog X.w X.K X.mg X.base (L2N.CX X.prog X.w) k f fd ps sp) (b : Binds X.K fd ps []) (hx : PassesAt (L2N.CX X.prog X.w) X σ (E σ)) (hr : Room k X.A) (I : Inv X pins σ H s) (r : Vals vs us) (h : sp vs H Q (E σ)) :
    codeAny (model X.prog X.w) X.A (.call (.ref f) ⟨us, []⟩) (fun r s' => match r with | .ok (.ret v) => EP X pins σ Q v s' | .ok _ => False | .error e => X.xe e s') s := by
  have b3 := b s us I.kIn (by rw [List.append_nil, ← r.length]; exact F.len _ _ _ _ h)
  rw [List.append_nil] at b3
  exact codeAny_mono (F.run _ X.stack _ _ _ _ _ _ _ hr I.env0 b3 r h) (back_at hx I)
theorem pe_coE (c : CobX X.prog X.w X.K X.mg X.base k C sp) (hf : PE X fe tf) (hx : ∀ σ, PassesAt (L2N.CX X.prog X.w) X σ (E σ)) (hr : Room j X.A) (hk : k ≤ j) (ha : PA X (e :: es) t)
    (ht : eval (.Call fe (e :: es) [] pos) X.env = (do callWith pos (← eval fe X.env) [] (backTo pos (starEach (e :: es) X.env)) (backToKw pos (keywordEach [] X.env))) := by rfl)
    (he : starEach (e :: es) X.env = (false, eval e X.env) :: starEach es X.env := by rfl) (hpl : (backTo pos (starEach es X.env)).any (·.1) = false := by rfl) : PE X (.Call fe (e :: es) [] pos) (tCoW C sp E tf t) := by
  obtain ⟨g, fd, ps, co, F, b⟩ := c.ex
  constructor
  intro pins s σ H Q I h
  refine Call_ (thn (hf.run pins s σ H _ I h) fun u s1 ⟨y, H1, I1, ry, a, ey, q⟩ => ?_) ht
  subst ey
  obtain rfl : u = Value.ref a := ry
  refine StX.callO_with (thn (ha.run pos pins s1 σ H1 _ I1 q) fun us s2 z => ?_) he hpl
  obtain ⟨vs, H2, I2, r, hi, q2⟩ := z
  have hi2 : StX.InsC X H2 a C := .inr hi
  obtain ⟨ox, od, J, hd⟩ := StX.insC_at I2 hi2
  exact ⟨⟨C, ox, od, J, hd⟩, wpAny_call (PySem.W.kco_code I2.kIn J hd co.at_ co.fn co.fi (run_atE (vs := .ref a :: vs) (us := .ref a :: us) F b (hx σ) (hr.mono hk) I2 (.cons rfl r) q2))⟩
theorem pe_meE {pl : Sem Bool} (c : MetX X.prog X.w X.K X.mg X.base k C m sp) (ho : PE X o ta) (hx : ∀ σ, PassesAt (L2N.CX X.prog X.w) X σ (E σ)) (hr : Room j X.A) (hk : k ≤ j) (ha : PA X (e :: es) t)
    (hst : starEach (e :: es) X.env = (false, eval e X.env) :: starEach es X.env := by rfl) (hpl : (backTo pos (starEach es X.env)).any (·.1) = false := by rfl)
    (ht : eval (.Call (.Attribute o m apos) (e :: es) [] pos) X.env = (do
      let ov ← eval o X.env
      standAt apos.atName
      let (g, first) ← holding [ov] (getMethod ov m pl)
      callWith pos g first (backTo pos (starEach (e :: es) X.env)) (backToKw pos (keywordEach [] X.env))) := by rfl) : PE X (.Call (.Attribute o m apos) (e :: es) [] pos) (tMeW C m sp E ta t) := by
  obtain ⟨f, fd, ps, cl, me, F, b⟩ := c.ex
  constructor
  intro pins s σ H Q I h
  refine PySem.W.methodCall_KW (pl := pl) (thn (ho.run pins s σ H _ I h) fun u s1 z => ?_) ht
  obtain ⟨y, H1, I1, ry, a, dx, fs, ey, ea, l, q⟩ := z
  subst ey
  obtain rfl : u = Value.ref a := ry
  refine getmeth_ok I1 ea cl me l ?_
  refine PySem.W.callWith_K (first := [.ref a]) (h₀ := X.base) I.ok.mod.kin me.kp (thn (ha.run pos pins s1 σ H1 _ I1 q) fun us s2 z => ?_) hst hpl
  obtain ⟨vs, H2, I2, r, q2⟩ := z
  exact ⟨I2.kIn, wpAny_call (run_atE (vs := .ref a :: vs) (us := .ref a :: us) F b (hx σ) (hr.mono hk) I2 (.cons rfl r) q2)⟩
theorem takes_fn {P : Program} {w : World} {K : PySem.W.Frag} {mg : Str → Option Value} {base : Heap} {N : List Str} {qual : Str} {scope : Scope} {f : Addr} {cd : Value} {A : Around} {outer : List Env} {s : Shared} {H : Hp} {E : XK} : L2N.Takes (cxOf (L2N.CX P w) P w K mg base N qual scope f cd A outer s H E) (fun cls d _ H' => E cls d H') := L2N.takes_of rfl rfl rfl rfl
end
end Z
set_option Elab.async false
set_option linter.all false
set_option maxRecDepth 100000
set_option maxHeartbeats 4000000
namespace Z
open PySem PySem.Spec PyProof.Rows L2 L2H
/-! ### calls within an except suite -/
section
variable {P : Program} {w : World} {K : PySem.W.Frag} {mg : Str → Option Value} {base : Heap} {x qual : Str} {params : Arguments} {body : List Stmt} {scope : Scope} {dvs : List V} {kws : List (Str × V)} {f : Addr} {fd : FuncData}
theorem fund_okH {N ps : List Str} {k : Nat} {sp : Sp} (F : FunD K x qual params body scope dvs kws f fd) (S : FnScope N ps scope) (len : ∀ vs H Q E, sp vs H Q E → vs.length = ps.length)
    (hbody : ∀ (cdv : Value) (A : Around) (outer : List Env) (s : Shared) (H : Hp) (vs : List V) (Q : VK) (E : XK) (p : Addr × Obj), Hot1 A p → RoomH k (A.deeper (envOfC qual scope s.heap.objs.size f cdv)) → sp vs H Q E →
      ∃ t, PSs (cxH CX0 P w K mg base N qual scope f cdv A outer s H E p) body t ∧ t { nx := fun _ H' => Q .non H', rt := Q } (L2.start N vs) H) : FnH P w K mg base CX0 (k + 1) f fd ps sp := by
  obtain ⟨oc, od, dV, kV, doc, pm, an, cdv, ct, osl, rfl, lk, hcd, _, _⟩ := F.ex
  exact fn_ofH lk hcd S len (hbody cdv)
structure CalH (P : Program) (w : World) (K : PySem.W.Frag) (mg : Str → Option Value) (base : Heap) (k : Nat) (x : Str) (sp : Sp) : Prop where
  ex : ∃ (f : Addr) (fd : FuncData) (ps : List Str), FnH P w K mg base CX0 k f fd ps sp ∧ mg x = some (.ref f) ∧ PySem.W.keepIn K (.ref f) = true ∧ Binds K fd ps []
end
section
variable {X : Cx} {k j : Nat} {x : Str} {sp : Sp} {p pos : Pos} {e : Expr} {es : List Expr} {t : TA}
theorem pe_clH (c : CalH X.prog X.w X.K X.mg X.base k x sp) (hr : RoomH j X.A) (hk : k ≤ j) (hc : HotC X) (hg : Gl X x) (ha : PA X (e :: es) t) (hdb : (x == ("__debug__" : Str)) = false := by decide) (he : starEach (e :: es) X.env = (false, eval e X.env) :: starEach es X.env := by rfl) (hpl : (backTo pos (starEach es X.env)).any (·.1) = false := by rfl) :
    PE X (.Call (.Name x p) (e :: es) [] pos) (tCallS sp (fun _ => E0) t) := by
  obtain ⟨f, fd, ps, F, hm, kp, b⟩ := c.ex
  exact pe_callH F (hr.mono hk) hc hg hm kp b (fun σ _ _ _ _ _ _ h => h.elim) ha hdb he hpl
theorem hotC_suite {a : Addr} {cls : Value} {d : Option Addr} {oe : Obj} {pn : List (Addr × Obj)} (hz : L2N.Zn cls d oe) (hf : ∃ vs, oe.data = .fields vs) : HotC (X.suite a ((a, oe) :: pn)) := by
  obtain ⟨vs, e⟩ := hf
  exact ⟨(a, oe), ⟨rfl, vs, e, hz.2.2 vs e⟩, List.mem_cons_self⟩
theorem room_mark {v : Option Value} {A : Around} (r : Room j A) : RoomH j (A.mark v) := roomH_mark r v
theorem takes0N : L2N.Takes X (fun _ _ _ _ => False) := fun _ _ x => by
  obtain ⟨_, _, _, _, _, _, _, _, _, _, _, _, _, _, _, _, z⟩ := x
  exact z.elim
end
theorem hotC_fn {P : Program} {w : World} {K : PySem.W.Frag} {mg : Str → Option Value} {base : Heap} {CX : CXT} {N : List Str} {qual : Str} {scope : Scope} {f : Addr} {cd : Value} {A : Around} {outer : List Env} {s : Shared} {H : Hp} {E : XK} {p : Addr × Obj} (h : Hot1 A p) : HotC (cxH CX P w K mg base N qual scope f cd A outer s H E p) :=
  ⟨p, ⟨h.1, h.2⟩, List.mem_cons_self⟩
end Z
set_option Elab.async false
set_option linter.all false
set_option maxRecDepth 100000
set_option maxHeartbeats 4000000
namespace Z
open PySem PySem.Spec PyProof.Rows L2 NdefX
/-! ### what the head tells of such a class -/
def oexB (K : PySem.W.Frag) (C : Addr) : Bool := (match K.lookup C with
  | some ⟨.type t, _, .cls cd, sl⟩ => (match cd.mro, sl.toList with
    | .ref D :: bm, [_, _, _, _, some (.builtin n), _] => decide (t = "type") && (decide (D = C) && (decide (n = "ValueError.__new__") && (!cd.hasDel && (cd.hasDict && PySem.HandSPX.refsVE bm))))
    | _, _ => false)
  | _ => false) && (He.eqO (PySem.W.findIn K (.ref C) "__setattr__") (some (some (.builtin "object.__setattr__"))) && (decide (PySem.W.subIn K (.ref C) (.type "BaseException") = some true) && (decide (PySem.W.typeIn K (.ref C) = some (.type "type")) && PySem.W.keepIn K (.ref C))))
theorem oexB_ok {K : PySem.W.Frag} {C : Addr} (h : oexB K C = true) : OexC K C := by
  obtain ⟨h0, h⟩ := He.ba h
  obtain ⟨h1, h⟩ := He.ba h
  obtain ⟨h2, h⟩ := He.ba h
  obtain ⟨h3, h4⟩ := He.ba h
  refine ⟨?_, He.eqO_ok h1, of_decide_eq_true h2, of_decide_eq_true h3, h4⟩
  split at h0
  · next t dd cd sl lk =>
    split at h0
    · next D bm a0 a1 a2 a3 n a5 em es =>
      obtain ⟨g1, h0⟩ := He.ba h0
      obtain ⟨g2, h0⟩ := He.ba h0
      obtain ⟨g3, h0⟩ := He.ba h0
      obtain ⟨g4, h0⟩ := He.ba h0
      obtain ⟨g5, g6⟩ := He.ba h0
      have g1 := of_decide_eq_true g1
      have g2 := of_decide_eq_true g2
      have g3 := of_decide_eq_true g3
      subst g1 g2 g3
      obtain ⟨c1, c2, c3, c4, c5, c6, c7, c8, c9, c10, c11⟩ := cd
      have k3 : c3 = .ref D :: bm := em
      have k4 : c11 = false := by
        have z : (!c11) = true := g4
        cases c11
        · rfl
        · cases z
      have k5 : c6 = true := g5
      clear em g4 g5
      subst k3 k4 k5
      refine ⟨c1, c5, c4, c2, bm, c7, c8, c9, c10, dd, a0, a1, a2, a3, a5, ?_, g6⟩
      rw [lk]
      have : sl = #[a0, a1, a2, a3, some (.builtin "ValueError.__new__"), a5] := by
        apply Array.toList_inj.mp
        rw [es]
      rw [this]
    · cases h0
  · cases h0
def initFd (K : PySem.W.Frag) (C : Addr) : Option FuncData := match K.lookup (He.ma K C "__init__") with
  | some ⟨_, _, .func fd, _⟩ => some fd
  | _ => none
abbrev SupV : Type := Option (Str × Str × Arguments × FuncBody × Scope × Addr × List Str × Value × Addr)
def supObs (K : PySem.W.Frag) (x : Str) : SupV := (initFd K (He.ga K x)).map fun fd => (fd.name, fd.qualname, fd.params, fd.body, fd.scope, fd.globals, fd.closure.map (·.1), fd.defaults, fd.builtins)
def supVal (q : Str) (st : Stmt) : SupV := some ("__init__", q, defArgs st, .stmts (defBody st), defScope st, mainGlobals, ["__class__"], .none, builtinsNs)
def supB (fl : Str) (K : PySem.W.Frag) (C : Addr) (q : Str) : Bool := (match initFd K C with
  | some fd => (match fd.code, fd.closure with
    | .ref c, [(_, cc)] => PySem.W.codeIn K (.ref c) q && ((match K.lookup c with
      | some ⟨_, _, .fields vs, _⟩ => (match (vs[2]? : Option Value) with
        | some (.str file _) => fl == file
        | _ => false)
      | _ => false) && (match K.lookup cc with
      | some ⟨_, _, .cell (some (.ref D)), _⟩ => decide (D = C)
      | _ => false))
    | _, _ => false)
  | none => false) && (decide (PySem.W.mroIn K C (.ref C) = some true) && (He.eqO (PySem.W.nsIn K cStatics "thirdparty.any") (some none) && (He.eqO (PySem.W.ks_superIn K C C "__init__") (some (some (.builtin "ValueError.__init__"))) && (decide (PySem.W.subIn K (.ref C) (.type "ValueError") = some true) && (PySem.W.excInitIn K C He.veBase "ValueError.__new__" && oexB K C)))))
theorem sup_of {P : Program} {K : PySem.W.Frag} {x q fl : Str} {st : Stmt} (h1 : supObs K x = supVal q st) (h2 : supB fl K (He.ga K x) q = true) (hfl : ((P.main.file : Str) == fl) = true) (htop : (P.main.scope.names.lookup ("super" : Str)).isSome = false) :
    ∃ (c cc : Addr) (fd : FuncData) (kV doc pm ct : Value) (an : Option Addr), fd = PySem.W.fnX "__init__" q (defArgs st) (defBody st) (defScope st) [(("__class__" : Str), cc)] .none kV doc pm an (.ref c) ct ∧ SupK P K (He.ga K x) (He.ma K (He.ga K x) "__init__") c cc fd ∧ PySem.W.codeIn K (.ref c) q = true := by
  obtain ⟨g0, h2⟩ := He.ba h2
  obtain ⟨g1, h2⟩ := He.ba h2
  obtain ⟨g2, h2⟩ := He.ba h2
  obtain ⟨g3, h2⟩ := He.ba h2
  obtain ⟨g4, h2⟩ := He.ba h2
  obtain ⟨g5, g6⟩ := He.ba h2
  unfold supObs at h1
  cases e : initFd K (He.ga K x) with
  | none =>
    rw [e] at h1
    cases h1
  | some fd =>
    rw [e] at h1 g0
    have lk : ∃ oc od osl, K.lookup (He.ma K (He.ga K x) "__init__") = some ⟨oc, od, .func fd, osl⟩ := by
      unfold initFd at e
      split at e
      · next oc od fd' osl l =>
        cases e
        exact ⟨_, _, _, l⟩
      · cases e
    obtain ⟨n1, n2, n3, n4, n5, n6, n7, n8, n9, n10, n11, n12, n13, n14, n15⟩ := fd
    have h1 : (some (n1, n2, n3, n4, n5, n6, n7.map (·.1), n8, n15) : SupV) = supVal q st := h1
    unfold supVal at h1
    simp only [Option.some.injEq, Prod.mk.injEq] at h1
    obtain ⟨a1, a2, a3, a4, a5, a6, a7, a8, a9⟩ := h1
    subst a1 a2 a3 a4 a5 a6 a8 a9
    dsimp only at g0
    split at g0
    · next c y cc =>
      obtain ⟨b1, g0⟩ := He.ba g0
      obtain ⟨b2, b3⟩ := He.ba g0
      have ey : y = "__class__" := by
        have := a7
        simpa using this
      subst ey
      refine ⟨c, cc, _, _, _, _, _, _, rfl, ⟨lk, ?_, ?_, htop, of_decide_eq_true g1, He.eqO_ok g2, He.eqO_ok g3, of_decide_eq_true g4, g5, oexB_ok g6⟩, b1⟩
      · split at b2
        · next u1 u2 vs u3 l =>
          split at b2
          · next file tf ev =>
            refine ⟨_, _, vs, _, file, tf, l, ev, ?_⟩
            rw [beq_iff_eq.mp b2] at hfl
            exact hfl
          · cases b2
        · cases b2
      · split at b3
        · next u1 u2 D u3 l =>
          have := of_decide_eq_true b3
          subst this
          exact ⟨_, _, _, l⟩
        · cases b3
    · cases g0
end Z
set_option Elab.async false
set_option linter.all false
set_option maxRecDepth 100000
set_option maxHeartbeats 4000000
namespace Z
open PySem PySem.Spec PyProof.Rows L2 NdefX
/-! ### isinstance(e, c), e a caught error with a dict of its own -/
def rIsX (K : PySem.W.Frag) (a : Addr) (cls : Value) (d : Option Addr) : List V → Hp → VK → Prop := fun xs H Q => ∃ (D dd : Addr) (fs : List (Str × V)) (c : V) (cv : Value) (b : Bool), cls = .ref D ∧ d = some dd ∧ ExcC K D ∧ H dd = some (.xd fs) ∧ xs = [.ref a, c] ∧ (∀ u, RelV c u → u = cv) ∧ PySem.W.kitOne K (.ref D) cv = some b ∧ Q (.bl b) H
theorem call_isX {X : Cx} {a : Addr} {cls : Value} {d : Option Addr} {oe : Obj} {pn : List (Addr × Obj)} (hz : Zc cls d oe) (hf : ∃ vs, oe.data = .fields vs) : CallR (X.suite a ((a, oe) :: pn)) (.builtin "isinstance") (rIsX X.K a cls d) := by
  intro pins s σ H xs us Q I r h
  obtain ⟨D, dd, fs, c, cv, b, rfl, rfl, C, ed, rfl, hcv, e, q⟩ := h
  obtain ⟨u1, u2, rfl, r1, r2⟩ := vals2 r
  cases r1
  have ec := hcv _ r2
  subst ec
  obtain ⟨hget, _⟩ := I.pin (a, oe) (List.mem_append.mpr (.inl List.mem_cons_self))
  obtain ⟨vs, hv⟩ := hf
  have hx : ObjOk X.prog X.w H s.heap dd (.xd fs) := I.hok dd _ ed
  obtain ⟨mA, hns, hr⟩ := hx
  obtain ⟨od, ho, hl⟩ := lookIn_ns hns
  have J : PySem.W.InstAt s.heap a oe D (some od) := ⟨hget, hz.1, by unfold PySem.W.notCls; rw [hv] <;> rfl, by rw [hz.2]; exact ho⟩
  have hcl : (PySem.W.clsIn X.K D).isSome = true := by
    obtain ⟨cd, hc, _⟩ := PySem.W.any_some C.hd
    rw [hc]
    rfl
  exact PySem.W.kia_one (PySem.W.kitx_exc hcl C.hg C.hk C.hs C.ha C.hn C.ht C.hm) I.kIn J e (fun z => nomatch z) fun tk => ⟨.bl b, H, I.kept (t' := tk) fun _ _ z => z, rfl, q⟩
end Z
set_option Elab.async false
set_option linter.all false
set_option maxRecDepth 100000
set_option maxHeartbeats 4000000
namespace Z
open PySem PySem.Spec PyProof.Rows L2 NdefX
/-! ### the head with own exceptions: facts of defs and classes, one more Bool, the __init__s -/
def asX (g : Addr → Option Obj) (n : Nat) : List Addr := He.asD g n ++ [cStatics]
def hookX (n : Nat) (fa : List He.Fa) (fn : List He.DefD) (xs : List Str) (vs : List SupV) (ex : PySem.W.Frag → Bool) : PySem.W.Hook where
  α := He.AlD × (List SupV × Bool)
  obs := fun s => (He.obsD fa fn (He.frG s.heap.get? (asX s.heap.get? n)), xs.map (supObs (He.frG s.heap.get? (asX s.heap.get? n))), ex (He.frG s.heap.get? (asX s.heap.get? n)))
  val := fun _ => (He.valD fn, vs, true)
  says := fun _ h => ∃ K : PySem.W.Frag, K.In h ∧ He.SaysD fa fn K ∧ xs.map (supObs K) = vs ∧ ex K = true
  of := fun _ _ e => ⟨_, He.frG_in, congrArg (fun z : He.AlD × (List SupV × Bool) => z.1) e, congrArg (fun z : He.AlD × (List SupV × Bool) => z.2.1) e, congrArg (fun z : He.AlD × (List SupV × Bool) => z.2.2) e⟩
  keeps := fun _ _ _ ⟨K, hK, c⟩ k => ⟨K, PySem.W.Frag.In.keeps hK k, c⟩
def obX (n : Nat) (fa : List He.Fa) (fn : List He.DefD) (xs : List Str) (ex : PySem.W.Frag → Bool) (g : Addr → Option Obj) : He.AlD × (List SupV × Bool) := (He.obsD fa fn (He.frG g (asX g n)), xs.map (supObs (He.frG g (asX g n))), ex (He.frG g (asX g n)))
theorem obX_eq {n : Nat} {fa : List He.Fa} {fn : List He.DefD} {xs : List Str} {vs : List SupV} {ex : PySem.W.Frag → Bool} {g : Addr → Option Obj} {s : Shared} (h : ∀ a, g a = s.heap.get? a) : obX n fa fn xs ex g = (hookX n fa fn xs vs ex).obs s := by
  have e : g = s.heap.get? := funext h
  rw [e] <;> rfl
theorem sup_at {xs : List Str} {vs : List SupV} {K : PySem.W.Frag} (e : xs.map (supObs K) = vs) (i : Nat) {x : Str} {v : SupV} (h1 : xs[i]? = some x := by rfl) (h2 : vs[i]? = some v := by rfl) : supObs K x = v := by
  have := congrArg (fun z : List SupV => z[i]?) e
  simp only [List.getElem?_map, h1, h2] at this
  exact Option.some.inj this
def excB (K : PySem.W.Frag) (D : Addr) : Bool := He.eqO (PySem.W.findIn K (.ref D) "__getattribute__") (some (some (.builtin "BaseException.__getattribute__"))) && (He.eqO (PySem.W.findIn K (.ref D) "__getattr__") (some none) && (decide (PySem.W.subIn K (.ref D) (.type "BaseException") = some true) && (PySem.W.hasDictIn K D && (He.eqO (PySem.W.findIn K (.ref D) "__class__") (some (some (.builtin "object.__class__"))) && (He.eqO (PySem.W.specialIn K (.builtin "object.__class__") "__get__") (some (some (.builtin "getset_descriptor.__get__"))) && (decide (PySem.W.takesIn K (.builtin "object.__class__") = some true) && decide (PySem.W.mroIn K D (.type "object") = some true)))))))
theorem excB_ok {K : PySem.W.Frag} {D : Addr} (h : excB K D = true) : ExcC K D ∧ XfC K D := by
  obtain ⟨h1, h⟩ := He.ba h
  obtain ⟨h2, h⟩ := He.ba h
  obtain ⟨h3, h⟩ := He.ba h
  obtain ⟨h4, h⟩ := He.ba h
  obtain ⟨h5, h⟩ := He.ba h
  obtain ⟨h6, h⟩ := He.ba h
  obtain ⟨h7, h8⟩ := He.ba h
  exact ⟨⟨He.eqO_ok h1, He.eqO_ok h2, of_decide_eq_true h3, h4, He.eqO_ok h5, He.eqO_ok h6, of_decide_eq_true h7, of_decide_eq_true h8⟩, ⟨He.eqO_ok h1, He.eqO_ok h2, of_decide_eq_true h3, h4⟩⟩
/-- an own exception class with the field -/
def exnB (fl q field : Str) (K : PySem.W.Frag) (C : Addr) : Bool := supB fl K C q && (He.eqO (PySem.W.findIn K (.ref C) "__init__") (some (some (.ref (He.ma K C "__init__")))) && (decide (PySem.W.typeIn K (.ref (He.ma K C "__init__")) = some (.type "function")) && (He.eqO (PySem.W.findIn K (.ref C) field) (some none) && excB K C)))
structure ExnF (K : PySem.W.Frag) (C : Addr) (q field fl : Str) : Prop where
  sup : supB fl K C q = true
  ini : PySem.W.findIn K (.ref C) "__init__" = some (some (.ref (He.ma K C "__init__")))
  ty : PySem.W.typeIn K (.ref (He.ma K C "__init__")) = some (.type "function")
  no : PySem.W.findIn K (.ref C) field = some none
  ec : ExcC K C
  xf : XfC K C
theorem exnB_ok {fl q field : Str} {K : PySem.W.Frag} {C : Addr} (h : exnB fl q field K C = true) : ExnF K C q field fl := by
  obtain ⟨h1, h⟩ := He.ba h
  obtain ⟨h2, h⟩ := He.ba h
  obtain ⟨h3, h⟩ := He.ba h
  obtain ⟨h4, h5⟩ := He.ba h
  exact ⟨h1, He.eqO_ok h2, of_decide_eq_true h3, He.eqO_ok h4, (excB_ok h5).1, (excB_ok h5).2⟩
def exmB (K : PySem.W.Frag) (a b : Addr) : Bool := decide (PySem.W.exmOne K (.ref a) (.ref b) = some true)
def kitVB (K : PySem.W.Frag) (a : Addr) (v : Value) (b : Bool) : Bool := decide (PySem.W.kitOne K (.ref a) v = some b)
end Z
set_option Elab.async false
set_option linter.all false
set_option maxRecDepth 100000
set_option maxHeartbeats 4000000
namespace Z
open PySem PySem.Spec PyProof.Rows L2 NdefX
/-! ### the head with own exceptions and properties: further observations are any functions of the written part -/
def hookY (n : Nat) (fa : List He.Fa) (fn : List He.DefD) (xs : List (PySem.W.Frag → SupV)) (vs : List SupV) (ex : PySem.W.Frag → Bool) : PySem.W.Hook where
  α := He.AlD × (List SupV × Bool)
  obs := fun s => (He.obsD fa fn (He.frG s.heap.get? (asX s.heap.get? n)), xs.map (fun f => f (He.frG s.heap.get? (asX s.heap.get? n))), ex (He.frG s.heap.get? (asX s.heap.get? n)))
  val := fun _ => (He.valD fn, vs, true)
  says := fun _ h => ∃ K : PySem.W.Frag, K.In h ∧ He.SaysD fa fn K ∧ xs.map (fun f => f K) = vs ∧ ex K = true
  of := fun _ _ e => ⟨_, He.frG_in, congrArg (fun z : He.AlD × (List SupV × Bool) => z.1) e, congrArg (fun z : He.AlD × (List SupV × Bool) => z.2.1) e, congrArg (fun z : He.AlD × (List SupV × Bool) => z.2.2) e⟩
  keeps := fun _ _ _ ⟨K, hK, c⟩ k => ⟨K, PySem.W.Frag.In.keeps hK k, c⟩
def obY (n : Nat) (fa : List He.Fa) (fn : List He.DefD) (xs : List (PySem.W.Frag → SupV)) (ex : PySem.W.Frag → Bool) (g : Addr → Option Obj) : He.AlD × (List SupV × Bool) := (He.obsD fa fn (He.frG g (asX g n)), xs.map (fun f => f (He.frG g (asX g n))), ex (He.frG g (asX g n)))
theorem obY_eq {n : Nat} {fa : List He.Fa} {fn : List He.DefD} {xs : List (PySem.W.Frag → SupV)} {vs : List SupV} {ex : PySem.W.Frag → Bool} {g : Addr → Option Obj} {s : Shared} (h : ∀ a, g a = s.heap.get? a) : obY n fa fn xs ex g = (hookY n fa fn xs vs ex).obs s := by
  have e : g = s.heap.get? := funext h
  rw [e] <;> rfl
theorem y_at {xs : List (PySem.W.Frag → SupV)} {vs : List SupV} {K : PySem.W.Frag} (e : xs.map (fun f => f K) = vs) (i : Nat) {f : PySem.W.Frag → SupV} {v : SupV} (h1 : xs[i]? = some f := by rfl) (h2 : vs[i]? = some v := by rfl) : f K = v := by
  have := congrArg (fun z : List SupV => z[i]?) e
  simp only [List.getElem?_map, h1, h2] at this
  exact Option.some.inj this
def isB (K : PySem.W.Frag) (C : Addr) : Bool := He.eqO (PySem.W.findIn K (.ref C) "__class__") (some (some (.builtin "object.__class__"))) && (He.eqO (PySem.W.specialIn K (.builtin "object.__class__") "__get__") (some (some (.builtin "getset_descriptor.__get__"))) && (decide (PySem.W.takesIn K (.builtin "object.__class__") = some true) && (decide (PySem.W.mroIn K C (.type "object") = some true) && decide (PySem.W.kitOne K (.ref C) (.ref C) = some true))))
theorem isB_ok {K : PySem.W.Frag} {C : Addr} (cl : Cls K C) (h : isB K C = true) : C8.InsC K C := by
  obtain ⟨h1, h⟩ := He.ba h
  obtain ⟨h2, h⟩ := He.ba h
  obtain ⟨h3, h⟩ := He.ba h
  obtain ⟨h4, h5⟩ := He.ba h
  exact ⟨cl, He.eqO_ok h1, He.eqO_ok h2, of_decide_eq_true h3, of_decide_eq_true h4, of_decide_eq_true h5⟩
def spB (K : PySem.W.Frag) (C : Addr) (m : Str) : Bool := He.eqO (PySem.W.findIn K (.ref C) m) (some (some (.ref (He.ma K C m)))) && (PySem.W.isFn K (.ref (He.ma K C m)) && PySem.W.fnIn K (He.ma K C m))
theorem spB_ok {K : PySem.W.Frag} {C : Addr} {m : Str} (h : spB K C m = true) : PySem.W.findIn K (.ref C) m = some (some (.ref (He.ma K C m))) ∧ PySem.W.isFn K (.ref (He.ma K C m)) = true ∧ PySem.W.fnIn K (He.ma K C m) = true := by
  obtain ⟨h1, h⟩ := He.ba h
  obtain ⟨h2, h3⟩ := He.ba h
  exact ⟨He.eqO_ok h1, h2, h3⟩
theorem all_at {bs : List Bool} (h : bs.all id = true) (i : Nat) {b : Bool} (e : bs[i]? = some b := by rfl) : b = true := List.all_eq_true.mp h b (List.mem_of_getElem? e)
theorem fnr_ok {P : Program} {w : World} {K : PySem.W.Frag} {mg : Str → Option Value} {base : Heap} {k : Nat} {f : Addr} {fd : FuncData} {ps : List Str} {sp : Sp} (F : FnOk P w K mg base CX0 k f fd ps sp) (b : Binds K fd ps []) : FnR P w K mg base CX0 k f sp := (FnOk.raw (dvs := []) F b .nil).imp fun vs H Q E h => by
  show sp (vs ++ []) H Q E
  rw [List.append_nil]
  exact h
/-! a property's getter -/
def gtA (K : PySem.W.Frag) (C : Addr) (m : Str) : Addr := match PySem.W.recIn K (He.ma K C m) "property" with
  | some (.ref g :: _) => g
  | _ => 0
def fdAt (K : PySem.W.Frag) (g : Addr) : Option FuncData := match K.lookup g with
  | some ⟨_, _, .func fd, _⟩ => some fd
  | _ => none
def propObs (x m : Str) (K : PySem.W.Frag) : SupV := (fdAt K (gtA K (He.ga K x) m)).map fun fd => (fd.name, fd.qualname, fd.params, fd.body, fd.scope, fd.globals, fd.closure.map (·.1), fd.defaults, fd.builtins)
def propVal (m q : Str) (st : Stmt) : SupV := some (m, q, defArgs st, .stmts (defBody st), defScope st, mainGlobals, [], .none, builtinsNs)
def propB (K : PySem.W.Frag) (C : Addr) (m q : Str) : Bool := He.eqO (PySem.W.findIn K (.ref C) m) (some (some (.ref (He.ma K C m)))) && (He.eqO (PySem.W.specialIn K (.ref (He.ma K C m)) "__get__") (some (some (.builtin "property.__get__"))) && (decide (PySem.W.takesIn K (.ref (He.ma K C m)) = some true) && ((match PySem.W.recIn K (He.ma K C m) "property" with
  | some (.ref _ :: _) => true
  | _ => false) && (PySem.W.keepIn K (.ref (gtA K C m)) && (match fdAt K (gtA K C m) with
  | some fd => PySem.W.codeIn K fd.code q && (He.dflB K fd.defaults [] && He.kwdB K fd.kwdefaults [])
  | none => false)))))
theorem prop_of {K : PySem.W.Frag} {x m q : Str} {st : Stmt} (h1 : propObs x m K = propVal m q st) (h2 : propB K (He.ga K x) m q = true) : ∃ fd : FuncData, PropOf K (He.ga K x) m (He.ma K (He.ga K x) m) (gtA K (He.ga K x) m) ∧ FunD K m q (defArgs st) (defBody st) (defScope st) [] [] (gtA K (He.ga K x) m) fd := by
  obtain ⟨g0, h2⟩ := He.ba h2
  obtain ⟨g1, h2⟩ := He.ba h2
  obtain ⟨g2, h2⟩ := He.ba h2
  obtain ⟨g3, h2⟩ := He.ba h2
  obtain ⟨g4, g5⟩ := He.ba h2
  have P : PropOf K (He.ga K x) m (He.ma K (He.ga K x) m) (gtA K (He.ga K x) m) := by
    refine ⟨He.eqO_ok g0, He.eqO_ok g1, of_decide_eq_true g2, ?_⟩
    unfold gtA
    split at g3
    · next g rest e =>
      rw [e]
      exact ⟨rest, rfl⟩
    · cases g3
  unfold propObs at h1
  cases e : fdAt K (gtA K (He.ga K x) m) with
  | none =>
    rw [e] at h1
    cases h1
  | some fd =>
    rw [e] at h1 g5
    have lk : ∃ oc od osl, K.lookup (gtA K (He.ga K x) m) = some ⟨oc, od, .func fd, osl⟩ := by
      unfold fdAt at e
      split at e
      · next oc od fd' osl l =>
        cases e
        exact ⟨_, _, _, l⟩
      · cases e
    obtain ⟨oc, od, osl, lk⟩ := lk
    obtain ⟨n1, n2, n3, n4, n5, n6, n7, n8, n9, n10, n11, n12, n13, n14, n15⟩ := fd
    have h1 : (some (n1, n2, n3, n4, n5, n6, n7.map (·.1), n8, n15) : SupV) = propVal m q st := h1
    unfold propVal at h1
    simp only [Option.some.injEq, Prod.mk.injEq] at h1
    obtain ⟨a1, a2, a3, a4, a5, a6, a7, a8, a9⟩ := h1
    have a7 : n7 = [] := List.map_eq_nil_iff.mp a7
    subst a1 a2 a3 a4 a5 a6 a7 a8 a9
    obtain ⟨k1, k2⟩ := He.ba (show (PySem.W.codeIn K n13 n2 && (He.dflB K .none [] && He.kwdB K n9 [])) = true from g5)
    obtain ⟨k3, k4⟩ := He.ba k2
    exact ⟨_, P, ⟨oc, od, _, n9, n10, n11, n12, n13, n14, osl, rfl, lk, k1, He.dflB_ok k3, He.kwdB_ok k4⟩, g4⟩
end Z
set_option Elab.async false
set_option linter.all false
set_option maxRecDepth 100000
set_option maxHeartbeats 4000000
namespace Z
open PySem PySem.Spec PyProof.Rows L2 NdefX
/-! ### the head's observation over given addresses (no reach is reckoned: far less memory) -/
def hookL (as : List Addr) (fa : List He.Fa) (fn : List He.DefD) (xs : List (PySem.W.Frag → SupV)) (vs : List SupV) (ex : PySem.W.Frag → Bool) : PySem.W.Hook where
  α := He.AlD × (List SupV × Bool)
  obs := fun s => (He.obsD fa fn (He.frG s.heap.get? as), xs.map (fun f => f (He.frG s.heap.get? as)), ex (He.frG s.heap.get? as))
  val := fun _ => (He.valD fn, vs, true)
  says := fun _ h => ∃ K : PySem.W.Frag, K.In h ∧ He.SaysD fa fn K ∧ xs.map (fun f => f K) = vs ∧ ex K = true
  of := fun _ _ e => ⟨_, He.frG_in, congrArg (fun z : He.AlD × (List SupV × Bool) => z.1) e, congrArg (fun z : He.AlD × (List SupV × Bool) => z.2.1) e, congrArg (fun z : He.AlD × (List SupV × Bool) => z.2.2) e⟩
  keeps := fun _ _ _ ⟨K, hK, c⟩ k => ⟨K, PySem.W.Frag.In.keeps hK k, c⟩
def obL (as : List Addr) (fa : List He.Fa) (fn : List He.DefD) (xs : List (PySem.W.Frag → SupV)) (ex : PySem.W.Frag → Bool) (g : Addr → Option Obj) : He.AlD × (List SupV × Bool) := (He.obsD fa fn (He.frG g as), xs.map (fun f => f (He.frG g as)), ex (He.frG g as))
theorem obL_eq {as : List Addr} {fa : List He.Fa} {fn : List He.DefD} {xs : List (PySem.W.Frag → SupV)} {vs : List SupV} {ex : PySem.W.Frag → Bool} {g : Addr → Option Obj} {s : Shared} (h : ∀ a, g a = s.heap.get? a) : obL as fa fn xs ex g = (hookL as fa fn xs vs ex).obs s := by
  have e : g = s.heap.get? := funext h
  rw [e] <;> rfl
end Z
set_option pp.maxSteps 700
set_option Elab.async false
set_option linter.all false
set_option maxRecDepth 100000
set_option maxHeartbeats 4000000
set_option maxHeartbeats 0
namespace Zr
open PySem PySem.Spec PyProof.Rows L2 NdefX Z
abbrev s_is_party : Stmt := topS 12
abbrev s_is_mark : Stmt := topS 13
abbrev s_check_party : Stmt := topS 14
abbrev s_check_mark : Stmt := topS 15
abbrev s_check_size : Stmt := topS 22
abbrev s_as_pact : Stmt := topS 31
abbrev s_Part___init__ : Stmt := inClass (topS 23) 1
abbrev s_Pact___init__ : Stmt := inClass (topS 30) 0
abbrev s_Pact___eq__ : Stmt := inClass (topS 30) 3
abbrev s_Pact___add__ : Stmt := inClass (topS 30) 1
abbrev s_Pact___mul__ : Stmt := inClass (topS 30) 2
abbrev s_end_of : Stmt := topS 37
abbrev s_number_of : Stmt := topS 38
abbrev s_word_token : Stmt := topS 39
abbrev s_token_at : Stmt := topS 40
abbrev s_built : Stmt := topS 43
abbrev s_built_part : Stmt := topS 42
abbrev s_parse_pact : Stmt := topS 44
abbrev s_Reader___init__ : Stmt := inClass (topS 41) 0
abbrev s_Reader_take : Stmt := inClass (topS 41) 1
abbrev s_Reader_read_pact : Stmt := inClass (topS 41) 2
abbrev s_Reader_read_part : Stmt := inClass (topS 41) 3
abbrev s_Reader_read_opening : Stmt := inClass (topS 41) 4
abbrev s_Reader_read_body : Stmt := inClass (topS 41) 5
abbrev s_Reader_read_options : Stmt := inClass (topS 41) 6
abbrev s_cell : Stmt := topS 46
abbrev s_draws : Stmt := topS 47
abbrev s_take : Stmt := topS 48
abbrev s_marks : Stmt := topS 49
abbrev s_amount : Stmt := topS 50
abbrev s_pact : Stmt := topS 51
abbrev s_part : Stmt := topS 52
abbrev s_weight : Stmt := topS 53
abbrev s_part_weight : Stmt := topS 54
abbrev s_depth : Stmt := topS 55
abbrev s_part_depth : Stmt := topS 56
abbrev s_cut : Stmt := topS 57
abbrev s_text : Stmt := topS 58
abbrev s_part_text : Stmt := topS 59
abbrev s_build : Stmt := topS 60
abbrev s_build_part : Stmt := topS 61
abbrev s_is : Stmt := topS 62
abbrev s_says : Stmt := topS 63
abbrev s_most : Stmt := topS 67
abbrev s_padded : Stmt := topS 68
abbrev s_chain : Stmt := topS 69
abbrev s_drawn : Stmt := topS 70
abbrev s_sized : Stmt := topS 64
abbrev s_same : Stmt := topS 65
abbrev s_same_part : Stmt := topS 66
abbrev s_back : Stmt := topS 71
abbrev s_changed : Stmt := topS 72
abbrev s_apart : Stmt := topS 73
abbrev s_law : Stmt := topS 74
abbrev s_Transfer___init__ : Stmt := inClass (topS 24) 1
abbrev s_Event___init__ : Stmt := inClass (topS 25) 1
abbrev s_Choice___init__ : Stmt := inClass (topS 26) 1
abbrev s_Rounds___init__ : Stmt := inClass (topS 27) 1
abbrev s_Endless___init__ : Stmt := inClass (topS 28) 1
abbrev s_Times___init__ : Stmt := inClass (topS 29) 1
/-- an own class whose __init__ ends with that of its own base B -/
def supP (fl : Str) (K : PySem.W.Frag) (C B : Addr) (q : Str) : Bool := (match initFd K C with
  | some fd => (match fd.code, fd.closure with
    | .ref c, [(_, cc)] => PySem.W.codeIn K (.ref c) q && ((match K.lookup c with
      | some ⟨_, _, .fields vs, _⟩ => (match (vs[2]? : Option Value) with
        | some (.str file _) => fl == file
        | _ => false)
      | _ => false) && (match K.lookup cc with
      | some ⟨_, _, .cell (some (.ref D)), _⟩ => decide (D = C)
      | _ => false))
    | _, _ => false)
  | none => false) && (decide (PySem.W.mroIn K C (.ref C) = some true) && (He.eqO (PySem.W.nsIn K cStatics "thirdparty.any") (some none) && (He.eqO (PySem.W.ks_superIn K C C "__init__") (some (some (.ref (He.ma K B "__init__")))) && (decide (PySem.W.typeIn K (.ref (He.ma K B "__init__")) = some (.type "function")) && PySem.W.fnIn K (He.ma K B "__init__")))))
/-- a text constant of a class -/
def conB (K : PySem.W.Frag) (C : Addr) (f z : Str) : Bool := match PySem.W.findIn K (.ref C) f with
  | some (some (.str y t)) => decide (y = z) && He.eqO (PySem.W.specialIn K (.str y t) "__get__") (some none)
  | _ => false
/-- the run's facts in two pieces (one piece alone wants too much memory) -/
theorem run_join {α β γ δ : Type} {o : Option α} {f : α → β} {g : α → γ} {h : α → δ} {b : β} {c : γ} {d : δ} (h1 : o.map (fun s => (f s, g s)) = some (b, c)) (h2 : o.map h = some d) : o.map (fun s => (f s, g s, h s)) = some (b, c, d) := by
  cases o with
  | none => cases h2
  | some s =>
    simp only [Option.map_some, Option.some.injEq, Prod.mk.injEq] at h1 h2 ⊢
    exact ⟨h1.1, h1.2, h2⟩
def d_is_party : He.DefD := ⟨("is_party", none), "is_party", "is_party", defArgs s_is_party, defBody s_is_party, defScope s_is_party, [], []⟩
def d_is_mark : He.DefD := ⟨("is_mark", none), "is_mark", "is_mark", defArgs s_is_mark, defBody s_is_mark, defScope s_is_mark, [], []⟩
def d_check_party : He.DefD := ⟨("check_party", none), "check_party", "check_party", defArgs s_check_party, defBody s_check_party, defScope s_check_party, [], []⟩
def d_check_mark : He.DefD := ⟨("check_mark", none), "check_mark", "check_mark", defArgs s_check_mark, defBody s_check_mark, defScope s_check_mark, [], []⟩
def d_check_size : He.DefD := ⟨("check_size", none), "check_size", "check_size", defArgs s_check_size, defBody s_check_size, defScope s_check_size, [], []⟩
def d_as_pact : He.DefD := ⟨("as_pact", none), "as_pact", "as_pact", defArgs s_as_pact, defBody s_as_pact, defScope s_as_pact, [], []⟩
def d_Part___init__ : He.DefD := ⟨("Part", some "__init__"), "__init__", "Part.__init__", defArgs s_Part___init__, defBody s_Part___init__, defScope s_Part___init__, [], []⟩
def d_Pact___init__ : He.DefD := ⟨("Pact", some "__init__"), "__init__", "Pact.__init__", defArgs s_Pact___init__, defBody s_Pact___init__, defScope s_Pact___init__, [], []⟩
def d_Pact___eq__ : He.DefD := ⟨("Pact", some "__eq__"), "__eq__", "Pact.__eq__", defArgs s_Pact___eq__, defBody s_Pact___eq__, defScope s_Pact___eq__, [], []⟩
def d_Pact___add__ : He.DefD := ⟨("Pact", some "__add__"), "__add__", "Pact.__add__", defArgs s_Pact___add__, defBody s_Pact___add__, defScope s_Pact___add__, [], []⟩
def d_Pact___mul__ : He.DefD := ⟨("Pact", some "__mul__"), "__mul__", "Pact.__mul__", defArgs s_Pact___mul__, defBody s_Pact___mul__, defScope s_Pact___mul__, [], []⟩
def d_end_of : He.DefD := ⟨("end_of", none), "end_of", "end_of", defArgs s_end_of, defBody s_end_of, defScope s_end_of, [], []⟩
def d_number_of : He.DefD := ⟨("number_of", none), "number_of", "number_of", defArgs s_number_of, defBody s_number_of, defScope s_number_of, [], []⟩
def d_word_token : He.DefD := ⟨("word_token", none), "word_token", "word_token", defArgs s_word_token, defBody s_word_token, defScope s_word_token, [], []⟩
def d_token_at : He.DefD := ⟨("token_at", none), "token_at", "token_at", defArgs s_token_at, defBody s_token_at, defScope s_token_at, [], []⟩
def d_built : He.DefD := ⟨("built", none), "built", "built", defArgs s_built, defBody s_built, defScope s_built, [], []⟩
def d_built_part : He.DefD := ⟨("built_part", none), "built_part", "built_part", defArgs s_built_part, defBody s_built_part, defScope s_built_part, [], []⟩
def d_parse_pact : He.DefD := ⟨("parse_pact", none), "parse_pact", "parse_pact", defArgs s_parse_pact, defBody s_parse_pact, defScope s_parse_pact, [], []⟩
def d_Reader___init__ : He.DefD := ⟨("Reader", some "__init__"), "__init__", "Reader.__init__", defArgs s_Reader___init__, defBody s_Reader___init__, defScope s_Reader___init__, [], []⟩
def d_Reader_take : He.DefD := ⟨("Reader", some "take"), "take", "Reader.take", defArgs s_Reader_take, defBody s_Reader_take, defScope s_Reader_take, [], []⟩
def d_Reader_read_pact : He.DefD := ⟨("Reader", some "read_pact"), "read_pact", "Reader.read_pact", defArgs s_Reader_read_pact, defBody s_Reader_read_pact, defScope s_Reader_read_pact, [], []⟩
def d_Reader_read_part : He.DefD := ⟨("Reader", some "read_part"), "read_part", "Reader.read_part", defArgs s_Reader_read_part, defBody s_Reader_read_part, defScope s_Reader_read_part, [], []⟩
def d_Reader_read_opening : He.DefD := ⟨("Reader", some "read_opening"), "read_opening", "Reader.read_opening", defArgs s_Reader_read_opening, defBody s_Reader_read_opening, defScope s_Reader_read_opening, [], []⟩
def d_Reader_read_body : He.DefD := ⟨("Reader", some "read_body"), "read_body", "Reader.read_body", defArgs s_Reader_read_body, defBody s_Reader_read_body, defScope s_Reader_read_body, [], []⟩
def d_Reader_read_options : He.DefD := ⟨("Reader", some "read_options"), "read_options", "Reader.read_options", defArgs s_Reader_read_options, defBody s_Reader_read_options, defScope s_Reader_read_options, [], []⟩
def d_cell : He.DefD := ⟨("_law_cell", none), "_law_cell", "_law_cell", defArgs s_cell, defBody s_cell, defScope s_cell, [], []⟩
def d_draws : He.DefD := ⟨("_law_draws", none), "_law_draws", "_law_draws", defArgs s_draws, defBody s_draws, defScope s_draws, [], []⟩
def d_take : He.DefD := ⟨("_law_take", none), "_law_take", "_law_take", defArgs s_take, defBody s_take, defScope s_take, [], []⟩
def d_marks : He.DefD := ⟨("_law_marks", none), "_law_marks", "_law_marks", defArgs s_marks, defBody s_marks, defScope s_marks, [], []⟩
def d_amount : He.DefD := ⟨("_law_amount", none), "_law_amount", "_law_amount", defArgs s_amount, defBody s_amount, defScope s_amount, [], []⟩
def d_pact : He.DefD := ⟨("_law_pact", none), "_law_pact", "_law_pact", defArgs s_pact, defBody s_pact, defScope s_pact, [], []⟩
def d_part : He.DefD := ⟨("_law_part", none), "_law_part", "_law_part", defArgs s_part, defBody s_part, defScope s_part, [], []⟩
def d_weight : He.DefD := ⟨("_law_weight", none), "_law_weight", "_law_weight", defArgs s_weight, defBody s_weight, defScope s_weight, [], []⟩
def d_part_weight : He.DefD := ⟨("_law_part_weight", none), "_law_part_weight", "_law_part_weight", defArgs s_part_weight, defBody s_part_weight, defScope s_part_weight, [], []⟩
def d_depth : He.DefD := ⟨("_law_depth", none), "_law_depth", "_law_depth", defArgs s_depth, defBody s_depth, defScope s_depth, [], []⟩
def d_part_depth : He.DefD := ⟨("_law_part_depth", none), "_law_part_depth", "_law_part_depth", defArgs s_part_depth, defBody s_part_depth, defScope s_part_depth, [], []⟩
def d_cut : He.DefD := ⟨("_law_cut", none), "_law_cut", "_law_cut", defArgs s_cut, defBody s_cut, defScope s_cut, [], []⟩
def d_text : He.DefD := ⟨("_law_text", none), "_law_text", "_law_text", defArgs s_text, defBody s_text, defScope s_text, [], []⟩
def d_part_text : He.DefD := ⟨("_law_part_text", none), "_law_part_text", "_law_part_text", defArgs s_part_text, defBody s_part_text, defScope s_part_text, [], []⟩
def d_build : He.DefD := ⟨("_law_build", none), "_law_build", "_law_build", defArgs s_build, defBody s_build, defScope s_build, [], []⟩
def d_build_part : He.DefD := ⟨("_law_build_part", none), "_law_build_part", "_law_build_part", defArgs s_build_part, defBody s_build_part, defScope s_build_part, [], []⟩
def d_is : He.DefD := ⟨("_law_is", none), "_law_is", "_law_is", defArgs s_is, defBody s_is, defScope s_is, [], []⟩
def d_says : He.DefD := ⟨("_law_says", none), "_law_says", "_law_says", defArgs s_says, defBody s_says, defScope s_says, [], []⟩
def d_most : He.DefD := ⟨("_law_most", none), "_law_most", "_law_most", defArgs s_most, defBody s_most, defScope s_most, [], []⟩
def d_padded : He.DefD := ⟨("_law_padded", none), "_law_padded", "_law_padded", defArgs s_padded, defBody s_padded, defScope s_padded, [], []⟩
def d_chain : He.DefD := ⟨("_law_chain", none), "_law_chain", "_law_chain", defArgs s_chain, defBody s_chain, defScope s_chain, [], []⟩
def d_drawn : He.DefD := ⟨("_law_drawn", none), "_law_drawn", "_law_drawn", defArgs s_drawn, defBody s_drawn, defScope s_drawn, [], []⟩
def d_sized : He.DefD := ⟨("_law_sized", none), "_law_sized", "_law_sized", defArgs s_sized, defBody s_sized, defScope s_sized, [], []⟩
def d_same : He.DefD := ⟨("_law_same", none), "_law_same", "_law_same", defArgs s_same, defBody s_same, defScope s_same, [], []⟩
def d_same_part : He.DefD := ⟨("_law_same_part", none), "_law_same_part", "_law_same_part", defArgs s_same_part, defBody s_same_part, defScope s_same_part, [], []⟩
def d_back : He.DefD := ⟨("_law_back", none), "_law_back", "_law_back", defArgs s_back, defBody s_back, defScope s_back, [], []⟩
def d_changed : He.DefD := ⟨("_law_changed", none), "_law_changed", "_law_changed", defArgs s_changed, defBody s_changed, defScope s_changed, [], []⟩
def d_apart : He.DefD := ⟨("_law_apart", none), "_law_apart", "_law_apart", defArgs s_apart, defBody s_apart, defScope s_apart, [], []⟩
def d_law : He.DefD := ⟨("law", none), "law", "law", defArgs s_law, defBody s_law, defScope s_law, [], []⟩
abbrev s_BadParty___init__ : Stmt := inClass (topS 6) 0
theorem xn_BadParty {P : Program} {w : World} {K : PySem.W.Frag} {mg : Str → Option Value} {base : Heap} {fl : Str} (h1 : supObs K "BadParty" = supVal "BadParty.__init__" s_BadParty___init__) (h : ExnF K (He.ga K "BadParty") "BadParty.__init__" "party" fl) (hfl : ((P.main.file : Str) == fl) = true) (htop : (P.main.scope.names.lookup ("super" : Str)).isSome = false) (g : mg "BadParty" = some (.ref (He.ga K "BadParty"))) (m_super : mg "super" = none) : Exn P w K mg base "BadParty" (He.ga K "BadParty") "party" := by
  obtain ⟨c, cc, fd, kV, doc, pm, ct, an, hfd, S, hcd⟩ := sup_of h1 h.sup hfl htop
  refine ⟨S.oex, g, He.ma K _ "__init__", fd, ["self", "party"], h.ini, h.ty, ?_, ?_⟩
  · exact exn_ok (v := "party") (F := ⟨"__init__", "BadParty.__init__", defArgs s_BadParty___init__, defBody s_BadParty___init__, defScope s_BadParty___init__, [("__class__", cc)], c⟩) hfd S hcd (NdefX.nscope_by (sc := defScope s_BadParty___init__) (by decide +kernel)) rfl rfl rfl (show (defScope s_BadParty___init__).names.lookup ("super" : Str) = some .globalImplicit by decide +kernel) m_super h.no (by decide) (by decide) rfl (fun _ _ _ _ _ => rfl) (fun _ _ _ _ _ => rfl) (fun _ _ _ _ _ => rfl) (fun _ _ _ _ _ => rfl)
  · subst hfd
    exact Binds.all fun us hl => match us, hl with | [_, _], _ => rfl
def xns : List (PySem.W.Frag → SupV) := [fun K => supObs K "BadParty", fun K => supObs K "Transfer", fun K => supObs K "Event", fun K => supObs K "Choice", fun K => supObs K "Rounds", fun K => supObs K "Endless", fun K => supObs K "Times"]
def exPr (K : PySem.W.Frag) : List Bool := []
def xvs : List SupV := [supVal "BadParty.__init__" s_BadParty___init__, supVal "Transfer.__init__" s_Transfer___init__, supVal "Event.__init__" s_Event___init__, supVal "Choice.__init__" s_Choice___init__, supVal "Rounds.__init__" s_Rounds___init__, supVal "Endless.__init__" s_Endless___init__, supVal "Times.__init__" s_Times___init__]
def exXn (fl : Str) (K : PySem.W.Frag) : List Bool := [exnB fl "BadParty.__init__" "party" K (He.ga K "BadParty")]
def exSu (fl : Str) (K : PySem.W.Frag) : List Bool := [supP fl K (He.ga K "Transfer") (He.ga K "Part") "Transfer.__init__", supP fl K (He.ga K "Event") (He.ga K "Part") "Event.__init__", supP fl K (He.ga K "Choice") (He.ga K "Part") "Choice.__init__", supP fl K (He.ga K "Rounds") (He.ga K "Part") "Rounds.__init__", supP fl K (He.ga K "Endless") (He.ga K "Part") "Endless.__init__", supP fl K (He.ga K "Times") (He.ga K "Part") "Times.__init__"]
def fn : List He.DefD := [d_is_party, d_is_mark, d_check_party, d_check_mark, d_check_size, d_as_pact, d_Part___init__, d_Pact___init__, d_Pact___eq__, d_Pact___add__, d_Pact___mul__, d_end_of, d_number_of, d_word_token, d_token_at, d_built, d_built_part, d_parse_pact, d_Reader___init__, d_Reader_take, d_Reader_read_pact, d_Reader_read_part, d_Reader_read_opening, d_Reader_read_body, d_Reader_read_options, d_cell, d_draws, d_take, d_marks, d_amount, d_pact, d_part, d_weight, d_part_weight, d_depth, d_part_depth, d_cut, d_text, d_part_text, d_build, d_build_part, d_is, d_says, d_most, d_padded, d_chain, d_drawn, d_sized, d_same, d_same_part, d_back, d_changed, d_apart, d_law]
def fa : List He.Fa := [.glo "is_party", .glo "is_mark", .glo "check_party", .glo "check_mark", .glo "check_size", .glo "as_pact", .glo "end_of", .glo "number_of", .glo "word_token", .glo "token_at", .glo "built", .glo "built_part", .glo "parse_pact", .glo "_law_cell", .glo "_law_draws", .glo "_law_take", .glo "_law_marks", .glo "_law_amount", .glo "_law_pact", .glo "_law_part", .glo "_law_weight", .glo "_law_part_weight", .glo "_law_depth", .glo "_law_part_depth", .glo "_law_cut", .glo "_law_text", .glo "_law_part_text", .glo "_law_build", .glo "_law_build_part", .glo "_law_is", .glo "_law_says", .glo "_law_most", .glo "_law_padded", .glo "_law_chain", .glo "_law_drawn", .glo "_law_sized", .glo "_law_same", .glo "_law_same_part", .glo "_law_back", .glo "_law_changed", .glo "_law_apart", .glo "law", .free "abs", .free "all", .free "bool", .free "int", .free "isinstance", .free "len", .free "max", .free "min", .free "range", .free "str", .free "sum", .free "super", .free "tuple", .glo "Part", .cls "Part", .mkr "Part", .glo "Pact", .cls "Pact", .mkr "Pact", .noat "Pact" "parts", .noat "Pact" "weight", .noat "Pact" "depth", .noat "Pact" "text", .glo "Transfer", .cls "Transfer", .mkr "Transfer", .noat "Transfer" "payer", .noat "Transfer" "payee", .noat "Transfer" "amount", .noat "Transfer" "weight", .noat "Transfer" "depth", .noat "Transfer" "text", .glo "Event", .cls "Event", .mkr "Event", .noat "Event" "mark", .noat "Event" "weight", .noat "Event" "depth", .noat "Event" "text", .glo "Choice", .cls "Choice", .mkr "Choice", .noat "Choice" "owner", .noat "Choice" "options", .noat "Choice" "weight", .noat "Choice" "depth", .noat "Choice" "text", .glo "Rounds", .cls "Rounds", .mkr "Rounds", .noat "Rounds" "owner", .noat "Rounds" "body", .noat "Rounds" "weight", .noat "Rounds" "depth", .noat "Rounds" "text", .glo "Endless", .cls "Endless", .mkr "Endless", .noat "Endless" "body", .noat "Endless" "weight", .noat "Endless" "depth", .noat "Endless" "text", .glo "Times", .cls "Times", .mkr "Times", .noat "Times" "count", .noat "Times" "body", .noat "Times" "weight", .noat "Times" "depth", .noat "Times" "text", .glo "Reader", .cls "Reader", .mkr "Reader", .noat "Reader" "source", .noat "Reader" "token", .noat "Reader" "nesting", .meth "Reader" "take", .meth "Reader" "read_pact", .meth "Reader" "read_part", .meth "Reader" "read_opening", .meth "Reader" "read_body", .meth "Reader" "read_options", .int "MOST_AMOUNT" (1000000000000000000000000000000000000000000000000000000000000), .int "MOST_WEIGHT" (400), .int "MOST_DEPTH" (30), .int "MOST_COUNT" (100), .int "MOST_OPTIONS" (6), .int "MOST_DIGITS" (61), .str "PARTIES" "abcdef", .str "MARKS" "ABCDEFGHIJKLMNOPQRSTUVWXYZ", .str "DIGITS" "0123456789", .str "LETTERS" "abcdefghijklmnopqrstuvwxyzABCDEFGHIJKLMNOPQRSTUVWXYZ", .str "SIGNS" "()[]|,.", .glo "HouseError", .glo "BadParty"]
def loose : List Str := [("HouseError" : Str), ("BadAmount" : Str), ("BadCount" : Str), ("BadMark" : Str), ("BadPart" : Str), ("BadParty" : Str), ("BadText" : Str), ("TooLarge" : Str), ("PARTIES" : Str), ("MARKS" : Str), ("is_party" : Str), ("is_mark" : Str), ("check_party" : Str), ("check_mark" : Str), ("MOST_AMOUNT" : Str), ("MOST_WEIGHT" : Str), ("MOST_DEPTH" : Str), ("MOST_COUNT" : Str), ("MOST_OPTIONS" : Str), ("check_size" : Str), ("Part" : Str), ("Transfer" : Str), ("Event" : Str), ("Choice" : Str), ("Rounds" : Str), ("Endless" : Str), ("Times" : Str), ("Pact" : Str), ("as_pact" : Str), ("DIGITS" : Str), ("LETTERS" : Str), ("SIGNS" : Str), ("MOST_DIGITS" : Str), ("end_of" : Str), ("number_of" : Str), ("word_token" : Str), ("token_at" : Str), ("Reader" : Str), ("built_part" : Str), ("built" : Str), ("parse_pact" : Str), ("_law_cell" : Str), ("_law_draws" : Str), ("_law_take" : Str), ("_law_marks" : Str), ("_law_amount" : Str), ("_law_pact" : Str), ("_law_part" : Str), ("_law_weight" : Str), ("_law_part_weight" : Str), ("_law_depth" : Str), ("_law_part_depth" : Str), ("_law_cut" : Str), ("_law_text" : Str), ("_law_part_text" : Str), ("_law_build" : Str), ("_law_build_part" : Str), ("_law_is" : Str), ("_law_says" : Str), ("_law_sized" : Str), ("_law_same" : Str), ("_law_same_part" : Str), ("_law_most" : Str), ("_law_padded" : Str), ("_law_chain" : Str), ("_law_drawn" : Str), ("_law_back" : Str), ("_law_changed" : Str), ("_law_apart" : Str)]
/-- all places of the heap behind the top (there are fewer) -/
def AS : List Addr := List.range 900
def fl : Str := PySem.Challenge.pw_signedpacts_k26_whole_pact_round_trip.main.file
def exL0 (K : PySem.W.Frag) : List Bool := [isB K (He.ga K "Pact"), spB K (He.ga K "Pact") "__eq__", spB K (He.ga K "Pact") "__add__", spB K (He.ga K "Pact") "__mul__", PySem.W.selfFirst K (He.ga K "Pact"), He.eqO (PySem.W.findIn K (.ref (He.ga K "Pact")) "__rmul__") (some none), (PySem.W.findIn K (.type "int") "__mul__").isSome, (PySem.W.findIn K (.type "int") "__rmul__").isSome, decide (PySem.W.subIn K (.type "int") (.ref (He.ga K "Pact")) = some false)]
def exL1 (K : PySem.W.Frag) : List Bool := [isB K (He.ga K "Transfer"), isB K (He.ga K "Event"), isB K (He.ga K "Choice"), isB K (He.ga K "Rounds"), isB K (He.ga K "Endless"), isB K (He.ga K "Times")]
def exL2 (K : PySem.W.Frag) : List Bool := [kitVB K (He.ga K "Transfer") (.ref (He.ga K "Part")) true, kitVB K (He.ga K "Event") (.ref (He.ga K "Part")) true, kitVB K (He.ga K "Choice") (.ref (He.ga K "Part")) true, kitVB K (He.ga K "Rounds") (.ref (He.ga K "Part")) true, kitVB K (He.ga K "Endless") (.ref (He.ga K "Part")) true, kitVB K (He.ga K "Times") (.ref (He.ga K "Part")) true]
def exL3 (K : PySem.W.Frag) : List Bool := [conB K (He.ga K "Transfer") "KIND" "transfer", conB K (He.ga K "Event") "KIND" "event", conB K (He.ga K "Choice") "KIND" "choice", conB K (He.ga K "Rounds") "KIND" "rounds", conB K (He.ga K "Endless") "KIND" "endless", conB K (He.ga K "Times") "KIND" "times"]
def ex1 (K : PySem.W.Frag) : Bool := (exL0 K).all id && (exXn fl K).all id
def ex2 (K : PySem.W.Frag) : Bool := (exPr K).all id && (exSu fl K).all id
def ex3 (K : PySem.W.Frag) : Bool := (exL1 K).all id && ((exL2 K).all id && (exL3 K).all id)
def ex (K : PySem.W.Frag) : Bool := ex1 K && (ex2 K && ex3 K)
abbrev R : PySem.W.OpenRow := PySem.W.OpenLaw.row PySem.Challenge.rw_signedpacts_k26_whole_pact_round_trip
abbrev hk : PySem.W.Hook := hookL AS fa fn xns xvs ex
def ob (s : PySem.W.SharedT) : He.AlD × (List SupV × Bool) := obL AS fa fn xns ex (HandSHeadRun.getT s)
theorem ob_eq (s : PySem.W.SharedT) : ob s = hk.obs s.abs := obL_eq (HandSHeadRun.getT_eq s)
open HandSHeadRun PySem.W PySem.Calls in
theorem run_a (w : World) (os : OsState) : (endF (stepQ (denQ tabQ) Zr.R.prog w) 8000 Zr.R.prog w os).map (fun s => (looksF Zr.R.prog (boot_heap w.params) s.abs, seenQ (PySem.W.view Zr.R.prog [74]) loose (importedModules Zr.R.prog.main.body) (fun s => xlAt (PySem.W.view Zr.R.prog [74]) [] s && recOk Zr.R.toRowW.records s) s.abs)) = some (true, openGood (PySem.W.view Zr.R.prog [74]) loose) := by kernel_rfl
open HandSHeadRun in
theorem run_b (w : World) (os : OsState) : (endF (stepQ (denQ tabQ) Zr.R.prog w) 8000 Zr.R.prog w os).map ob = some (hk.val w) := by kernel_rfl
theorem run (w : World) : HandSHeadRun.RunEq Zr.R (PySem.W.view Zr.R.prog [74]) hk ob 8000 loose w := by
  intro os
  have z := run_join (run_a w os) (run_b w os)
  exact z
end Zr
set_option Elab.async false
set_option linter.all false
set_option maxRecDepth 100000
set_option maxHeartbeats 4000000
namespace Z
open PySem PySem.Spec PyProof.Rows L2
/-! ### comprehensions that give ints, over a list of ints and over a range -/
theorem lc_ofs {K : PySem.W.Frag} {J : It} {D : Addr} {n : Nat} {H0 : Hp} {i : Nat} {te : TE} {vs : List Nat} {σ : L2.St} {Qd : Hp → Prop} (g : Nat → Int) (xv : Nat → V) (hn : n ≤ 1000000) (nD : H0 D = none)
    (hgo : ∀ k H1, k < n → Same H0 H1 → J.go k H1) (hst : ∀ H1, Same H0 H1 → J.stop n H1) (hy : ∀ k H1 x H2, k < n → Same H0 H1 → J.yld k H1 x H2 → H2 = H1 ∧ x = xv k)
    (hw : ∀ k, wipe ((wipe σ vs).set i (some (xv k))) vs = wipe σ vs)
    (ht : ∀ k H1 (Q : VK), k < n → Same H0 H1 → (∀ H2, Same H1 H2 → Q (.int (g k)) H2) → te ((wipe σ vs).set i (some (xv k))) H1 Q)
    (hd : ∀ H1, Same H0 H1 → H1 D = some (.lst (((List.range n).map g).map V.int)) → Qd H1) : lcW J (gName i) tYes te vs σ D Qd H0 := by
  refine lc_gen (n := n) (fun k H1 => Same H0 H1 ∧ H1 D = some (.lst (((List.range k).map g).map V.int))) ⟨same_new nD, upd_same⟩ (fun k H1 hk p => hgo k H1 hk p.1) (fun H1 p => hst H1 p.1) ?_ (fun H1 p => hd H1 p.1 p.2)
  rintro k H1 x H2 hk ⟨s, e⟩ y
  obtain ⟨rfl, rfl⟩ := hy k H1 x H2 hk s y
  refine ⟨hw k, ?_⟩
  refine ht k _ _ hk s (fun H3 s3 => ⟨_, s3 _ _ e, ?_, Z.Same.mut (s.trans s3) nD, ?_⟩)
  · rw [List.length_map, List.length_map, List.length_range]
    exact Nat.lt_of_lt_of_le hk (Nat.le_trans hn (by decide))
  · rw [upd_same, List.range_succ, List.map_append, List.map_append]
    rfl
theorem lc_rng {K : PySem.W.Frag} {lo : Int} {D : Addr} {n : Nat} {H0 : Hp} {i : Nat} {te : TE} {vs : List Nat} {σ : L2.St} {Qd : Hp → Prop} (g : Nat → Int) (hn : n ≤ 1000000) (nD : H0 D = none) (hw : ∀ k : Nat, wipe ((wipe σ vs).set i (some (.int (lo + k)))) vs = wipe σ vs)
    (ht : ∀ (k : Nat) H1 (Q : VK), k < n → Same H0 H1 → (∀ H2, Same H1 H2 → Q (.int (g k)) H2) → te ((wipe σ vs).set i (some (.int (lo + k)))) H1 Q)
    (hd : ∀ H1, Same H0 H1 → H1 D = some (.lst (((List.range n).map g).map V.int)) → Qd H1) : lcW (Itr lo n) (gName i) tYes te vs σ D Qd H0 :=
  lc_ofs (K := K) g (fun k => .int (lo + k)) hn nD (fun k H1 hk _ => hk) (fun H1 _ => Nat.le_refl _) (fun k H1 x H2 _ _ y => y) hw ht hd
theorem lc_lst {K : PySem.W.Frag} {a D : Addr} {xs : List Int} {H0 : Hp} {i : Nat} {te : TE} {vs : List Nat} {σ : L2.St} {Qd : Hp → Prop} (hS : SqL K H0 a (xs.map V.int)) (g : Int → Int) (hn : xs.length ≤ 1000000) (nD : H0 D = none) (hw : ∀ x : Int, wipe ((wipe σ vs).set i (some (.int x))) vs = wipe σ vs)
    (ht : ∀ x H1 (Q : VK), x ∈ xs → Same H0 H1 → (∀ H2, Same H1 H2 → Q (.int (g x)) H2) → te ((wipe σ vs).set i (some (.int x))) H1 Q)
    (hd : ∀ H1, Same H0 H1 → H1 D = some (.lst ((xs.map g).map V.int)) → Qd H1) : lcW (Itl K a) (gName i) tYes te vs σ D Qd H0 := by
  have ex : ∀ k, k < xs.length → (xs.map V.int)[k]? = some (.int (xs.getD k 0)) := fun k hk => by
    rw [List.getElem?_map, List.getD_eq_getElem?_getD, List.getElem?_eq_getElem hk]
    rfl
  refine lc_ofs (K := K) (n := xs.length) (fun k => g (xs.getD k 0)) (fun k => .int (xs.getD k 0)) hn nD (fun k H1 hk s => ⟨_, _, s.seq hS, ex k hk⟩) (fun H1 s => ⟨_, s.seq hS, by rw [List.length_map]; exact Nat.le_refl _⟩) (fun k H1 x H2 hk s y => ⟨y.1, Option.some.inj ((y.2 _ (s.seq hS)).symm.trans (ex k hk))⟩) (fun k => hw _) (fun k H1 Q hk s q => ht _ H1 Q ?_ s q) (fun H1 s e => hd H1 s ?_)
  · rw [List.getD_eq_getElem?_getD, List.getElem?_eq_getElem hk]
    exact List.getElem_mem hk
  · rw [e]
    congr 2
    congr 1
    apply List.ext_getElem
    · rw [List.length_map, List.length_map, List.length_range]
    · intro k h1 h2
      rw [List.length_map] at h2
      rw [List.getElem_map, List.getElem_map, List.getElem_range, List.getD_eq_getElem?_getD, List.getElem?_eq_getElem h2]
      rfl
/-- for x in xs, ints -/
theorem for_lst {K : PySem.W.Frag} {a : Addr} {xs : List Int} {H0 H : Hp} {i : Nat} {tb : TS} {D : Ends} {σ : L2.St} (hS : SqL K H0 a (xs.map V.int)) (Pv : Nat → L2.St → Hp → Prop) (h0 : Pv 0 σ H) (hq : ∀ k σ H1, Pv k σ H1 → Same H0 H1)
    (hs : ∀ (k : Nat) (x : Int) (σ : L2.St) (H1 : Hp), xs[k]? = some x → Pv k σ H1 → tb { D with nx := Pv (k + 1), ct := Pv (k + 1), bk := D.nx } (σ.set i (some (.int x))) H1)
    (hd : ∀ σ H1, Pv xs.length σ H1 → D.nx σ H1) : forW (Itl K a) (gName i) tb D σ H := by
  have ex : ∀ k, k < xs.length → (xs.map V.int)[k]? = some (.int (xs.getD k 0)) := fun k hk => by
    rw [List.getElem?_map, List.getD_eq_getElem?_getD, List.getElem?_eq_getElem hk]
    rfl
  refine for_gen (n := xs.length) Pv h0 (fun k σ H1 hk p => ⟨_, _, (hq k σ H1 p).seq hS, ex k hk⟩) (fun σ H1 p => ⟨_, (hq _ σ H1 p).seq hS, by rw [List.length_map]; exact Nat.le_refl _⟩) ?_ hd
  intro k σ H1 x H2 hk p y
  obtain ⟨rfl, e⟩ := y
  have e2 := Option.some.inj ((e _ ((hq k σ _ p).seq hS)).symm.trans (ex k hk))
  subst e2
  refine hs k _ σ _ ?_ p
  rw [List.getD_eq_getElem?_getD, List.getElem?_eq_getElem hk]
  rfl
/-- for x in xs, any values -/
theorem for_vs {K : PySem.W.Frag} {a : Addr} {xs : List V} {H0 H : Hp} {i : Nat} {tb : TS} {D : Ends} {σ : L2.St} (hS : SqL K H0 a xs) (Pv : Nat → L2.St → Hp → Prop) (h0 : Pv 0 σ H) (hq : ∀ k σ H1, Pv k σ H1 → Same H0 H1)
    (hs : ∀ (k : Nat) (x : V) (σ : L2.St) (H1 : Hp), xs[k]? = some x → Pv k σ H1 → tb { D with nx := Pv (k + 1), ct := Pv (k + 1), bk := D.nx } (σ.set i (some x)) H1)
    (hd : ∀ σ H1, Pv xs.length σ H1 → D.nx σ H1) : forW (Itl K a) (gName i) tb D σ H := by
  refine for_gen (n := xs.length) Pv h0 (fun k σ H1 hk p => ⟨_, _, (hq k σ H1 p).seq hS, List.getElem?_eq_getElem hk⟩) (fun σ H1 p => ⟨_, (hq _ σ H1 p).seq hS, Nat.le_refl _⟩) ?_ hd
  intro k σ H1 x H2 hk p y
  obtain ⟨rfl, e⟩ := y
  exact hs k x σ _ (e _ ((hq k σ _ p).seq hS)) p
theorem pe_fld_K {X : Cx} {K : PySem.W.Frag} {e : Expr} {f : Str} {pos : Pos} {ta : TE} (h : X.K = K) (he : PE X e ta) (hb : attributeBase e f X.env (eval e X.env) = eval e X.env) : PE X (.Attribute e f pos) (tFld K ta f) := by
  subst h
  exact pe_fld he hb
/-! ### reads -/
theorem at_nat {xs : List Int} {i : Int} (h0 : 0 ≤ i) (h1 : i < xs.length) : atI (xs.map V.int) i = some (.int (xs.getD i.toNat 0)) := by
  have hk : i.toNat < xs.length := by omega
  rw [show i = ((i.toNat : Nat) : Int) by omega, List.getD_eq_getElem?_getD, Int.toNat_natCast, List.getElem?_eq_getElem hk]
  exact at_map (List.getElem?_eq_getElem hk)
theorem rd_at {K : PySem.W.Frag} {H : Hp} {a : Addr} {xs : List Int} {i : Int} {R : V → Prop} (h : SqL K H a (xs.map V.int)) (h0 : 0 ≤ i) (h1 : i < xs.length) (q : R (.int (xs.getD i.toNat 0))) : ∃ a' ys j v, V.ref a = .ref a' ∧ V.int i = .int j ∧ SqL K H a' ys ∧ atI ys j = some v ∧ R v := ⟨a, _, i, _, rfl, rfl, h, at_nat h0 h1, q⟩
theorem rd_atT {K : PySem.W.Frag} {H : Hp} {a : Addr} {xs : List Int} {i : Int} {R : V → Prop} (h : SqT K H a (xs.map V.int)) (h0 : 0 ≤ i) (h1 : i < xs.length) (q : R (.int (xs.getD i.toNat 0))) : ∃ a' ys j v, V.ref a = .ref a' ∧ V.int i = .int j ∧ SqT K H a' ys ∧ atI ys j = some v ∧ R v := ⟨a, _, i, _, rfl, rfl, h, at_nat h0 h1, q⟩
end Z
set_option Elab.async false
set_option linter.all false
set_option maxRecDepth 100000
set_option maxHeartbeats 4000000
namespace Z
open PySem PySem.Spec PyProof.Rows L2
/-! ### enumerate(x) of one argument: x a list, a tuple or a text -/
theorem enum_new1 {v : Value} {o : Obj} {G : Heap → Prop} (B : Begins v o G) :
    Meets (Builtin.«enumerate.__new__» ⟨[.type "enumerate", v], []⟩) (fun _ R s => G s.heap ∧
      R (.ok (.ret (.ref (s.heap.push o).objs.size))) { s with heap := (s.heap.push o).push { cls := .type "enumerate", data := .fields #[.none, .bool false, .ref s.heap.objs.size, rawInt 0, .none, .none] } }) :=
  .of_wp fun prog w A R s h => by
    obtain ⟨hp, gl, dd, tok, oo⟩ := s
    obtain ⟨g1, h⟩ := h
    have hsub := sub_enumerate
    have step : ∀ {A' : Around} {E : Value → Shared → Prop} {Q : Value → Shared → Prop}, Q (.ref hp.objs.size) ⟨hp.push o, gl, dd, tok, oo⟩ → wpAny (model prog w) A' (pyIter v) Q E ⟨hp, gl, dd, tok, oo⟩ := fun z => B.iter prog w _ _ ⟨hp, gl, dd, tok, oo⟩ _ g1 z
    wp_walk using step
    refine wpAny_stack_any fun _ => wpAny_pure ?_
    split
    · rename_i cc _ _ _ _ _
      cases (cc == Value.type "enumerate") <;>
        (wp_walk using step
         exact ⟨_, rfl, h⟩)
    · wp_walk using step
      exact ⟨_, rfl, h⟩
section
variable {prog : Program} {w : World} {A : Around} {E : Value → Shared → Prop} {s : Shared}
theorem enum_begins1 {v : Value} {o : Obj} {G : Heap → Prop} {Q : Value → Shared → Prop} (B : Begins v o G) (g : G s.heap)
    (h : ∀ h', IsEnum h' (s.heap.objs.size + 1) s.heap.objs.size 0 .none → h'.get? s.heap.objs.size = some o → (∀ b ob, s.heap.get? b = some ob → h'.get? b = some ob) → Q (.ref (s.heap.objs.size + 1)) { s with heap := h' }) :
    wpAny (model prog w) A (call (.type "enumerate") [v]) Q E s := by
  refine callType_new F.called_enumerate (by decide) (F.typeCall_enumerate_1 v) (F.newCall_enumerate_1 v) (fun ob => F.args_object_init_2 ob _) F.entry_enumerate_new (enum_new1 B) ⟨g, ?_⟩
  have sz : (s.heap.push o).objs.size = s.heap.objs.size + 1 := Heap.size_push ..
  show _ ∧ _
  rw [sz]
  have ie : IsEnum ((s.heap.push o).push { cls := .type "enumerate", data := .fields #[.none, .bool false, .ref s.heap.objs.size, rawInt 0, .none, .none] }) (s.heap.objs.size + 1) s.heap.objs.size 0 .none := by
    have z := Heap.get?_push_size (s.heap.push o) (o := { cls := .type "enumerate", data := .fields #[.none, .bool false, .ref s.heap.objs.size, rawInt 0, .none, .none] }) rfl
    rw [sz] at z
    exact z
  exact ⟨⟨_, ie, rfl⟩, h _ ie (Heap.get?_push_of_some _ (Heap.get?_push_size _ B.free)) fun b ob z => Heap.get?_push_of_some _ (Heap.get?_push_of_some _ z)⟩
end
/-- pairs of a turn's number and its item -/
def ItEM (p : Bool) (K : PySem.W.Frag) (a : Addr) : It :=
  ⟨fun i H => ∃ (xs : List V) (x : V), SqK p K H a xs ∧ xs[i]? = some x,
   fun i H v H' => ∃ T x, v = .ref T ∧ H T = none ∧ H' = upd H T (.tup [.int (i : Nat), x]) ∧ (∀ xs, SqK p K H a xs → xs[i]? = some x),
   fun i H => ∃ xs : List V, SqK p K H a xs ∧ xs.length = i⟩
def ItES (z : Str) : It :=
  ⟨fun i _ => i < z.cps.size,
   fun i H v H' => ∃ T c, v = .ref T ∧ H T = none ∧ H' = upd H T (.tup [.int (i : Nat), .str ⟨#[c]⟩]) ∧ z.cps[i]? = some c,
   fun i _ => z.cps.size = i⟩
theorem enum_item {X : Cx} {pins : List (Addr × Obj)} {σ : L2.St} {H : Hp} {s : Shared} {e it : Addr} {fp : List Addr} {n i : Nat} {Pi : Nat → Value → Prop} {Si : Nat → Heap → Prop} {old : Value} {elts : List Expr} {kk : Nat} {tpos : Pos} {E : Value → Shared → Prop}
    (I : Inv X pins σ H s) (hf : ∀ b ∈ [e, it], FpOk X pins H b) (D : Draws X.prog X.w X.A.in1 it fp n Pi Si) (he : IsEnum s.heap e it ((i : Nat) : Int) old) (st : Si i s.heap) (lt : i < n) (ne : e ≠ it) (ef : e ∉ fp)
    (x : V) (ru : ∀ v, Pi i v → L2.RelV x v) :
    wpAny (model X.prog X.w) X.A (pyNext (.ref e)) (fun r s1 => ∃ u, r = some u ∧ wpAny (model X.prog X.w) X.A (letOwnedTupleGo (.Tuple elts kk tpos) (.ref e) u) (fun _ s2 => ∃ T, u = .ref T ∧ H T = none ∧ Inv X pins σ (upd H T (.tup [.int (i : Nat), x])) s2 ∧ (∃ o, IsEnum s2.heap e it ((i + 1 : Nat) : Int) o) ∧ Si (i + 1) s2.heap ∧ ∀ b ∈ [e, it], upd H T (.tup [.int (i : Nat), x]) b = none) E s1) E s := by
  have el : e < s.heap.objs.size := Heap.lt_size he
  have il : it < s.heap.objs.size := by
    obtain ⟨_, z⟩ := D.live _ _ st
    exact Heap.lt_size z
  refine wpAny_pyNext_enum_itemC D he st lt ne ef fun v g tk pv go st' gT gs gk => ?_
  refine ⟨_, rfl, wpAny_letOwnedTupleGo_enum (s := { s with heap := g, toks := tk + 1 }) go fun g2 ge sb => ?_⟩
  have gT2 : g2.get? s.heap.objs.size = some { cls := .type "tuple", data := .seq #[.int i tk, v] } := (sb.2 _ (Nat.ne_of_gt el)).trans gT
  have nw : ObjOk X.prog X.w (upd H s.heap.objs.size (.tup [.int (i : Nat), x])) g2 s.heap.objs.size (.tup [.int (i : Nat), x]) := ⟨by show 2 ≤ sizeLine; decide, [.int i tk, v], .cons ⟨tk, rfl⟩ (.cons (ru v pv) .nil), ⟨_, gT2, rfl, _, rfl⟩⟩
  have I1 : Inv X pins σ (upd H s.heap.objs.size (.tup [.int (i : Nat), x])) { s with heap := g2, toks := tk + 1 } :=
    I.turnedNew (t' := tk + 1) (ch := [e, it]) (fun b ob nb z => (sb.2 b (fun w => nb (by simp [w]))).trans (gk b ob (fun w => nb (by simp [w])) (fun w => nb (by simp [w])) z)) hf (Nat.le_refl _) nw
  refine ⟨_, rfl, I.hok.fresh (Nat.le_refl _), I1, ⟨v, ?_⟩, D.frame _ _ _ st' fun b hb o z => (sb.2 b fun w => ef (w ▸ hb)).trans z, fun b hb => ?_⟩
  · rw [show ((i + 1 : Nat) : Int) = (i : Int) + 1 by omega]
    exact ge
  · have lb : b < s.heap.objs.size := by
      rcases (show b = e ∨ b = it by simpa using hb) with z | z
      · rw [z]
        exact el
      · rw [z]
        exact il
    rw [upd_ne (Nat.ne_of_lt lb)]
    exact (hf b hb).1
theorem enum_done {X : Cx} {pins : List (Addr × Obj)} {σ : L2.St} {H : Hp} {s : Shared} {e it : Addr} {fp : List Addr} {n : Nat} {Pi : Nat → Value → Prop} {Si : Nat → Heap → Prop} {old : Value} {c : Int} {E : Value → Shared → Prop}
    (I : Inv X pins σ H s) (hf : ∀ b ∈ [e, it], FpOk X pins H b) (D : Draws X.prog X.w X.A.in1 it fp n Pi Si) (he : IsEnum s.heap e it c old) (st : Si n s.heap) :
    wpAny (model X.prog X.w) X.A (pyNext (.ref e)) (fun r s1 => r = none ∧ Inv X pins σ H s1) E s := by
  obtain ⟨f0, f1, f2, f3, f4, f5⟩ := hf it (by simp)
  exact wpAny_pyNext_enum_endD D he st fun g gk => ⟨rfl, I.turned (t' := s.toks) (fun b o hb z => gk b o hb z) f0 f1 f3 f4 f5⟩
theorem turn_enumM {p : Bool} {P : Program} {w : World} {K : PySem.W.Frag} {elts : List Expr} {kk : Nat} {tpos : Pos} (a e it : Addr) (ea : e ≠ a) (ia : a ≠ it) :
    Turn P w K (.Tuple elts kk tpos) (ItEM p K a) [e, it] e (fun i h => (∃ old, IsEnum h e it ((i : Nat) : Int) old) ∧ ItK p h it a i ∧ e ≠ it) where
  mem := by simp
  obj := fun i h st b hb => by
    obtain ⟨⟨old, he⟩, hi, _⟩ := st
    rcases (show b = e ∨ b = it by simpa using hb) with z | z
    · rw [z]
      exact ⟨_, he, fun v q => nomatch q⟩
    · rw [z]
      exact hi.obj
  keep := fun i h h' st k => by
    obtain ⟨⟨old, he⟩, hi, ne⟩ := st
    exact ⟨⟨old, k e (by simp) _ he⟩, hi.at' (fun o z => k it (by simp) o z), ne⟩
  item := by
    intro X hP hw hK hc i pins s σ H E I hf st hg
    subst hP hw hK
    obtain ⟨⟨old, he⟩, hi, ne⟩ := st
    obtain ⟨xs, x, qx, ex⟩ := hg
    obtain ⟨us, rx, kx, _⟩ := sqk_is I qx
    obtain ⟨u, eu, ru⟩ := rx.get ex
    have lu : i < us.toArray.size := by simpa using (List.getElem?_eq_some_iff.mp eu).1
    have hh : X.A.in1.handled = none := I.ok.hd hc
    have key : ∀ v, us.toArray[i]? = some v → L2.RelV x v := fun v pv => by
      have t1 : us.toArray[i]? = some u := by simpa using eu
      have t2 : u = v := Option.some.inj (t1.symm.trans pv)
      exact t2 ▸ ru
    refine thn (enum_item (elts := elts) (kk := kk) (tpos := tpos) (E := E) I hf (drawsK p hh it a ia us.toArray) he ⟨hi, kx⟩ lu ne (by simp [ne, ea]) x key) fun r s1 hr => ?_
    obtain ⟨v, er, hv⟩ := hr
    refine ⟨v, er, thn hv fun _ s2 z => ?_⟩
    obtain ⟨T, eT, nT, I2, ie, si, fr⟩ := z
    subst eT
    exact ⟨.ref T, _, I2, rfl, ⟨T, x, rfl, nT, rfl, fun l hl => by rw [sqk_inj I hl qx]; exact ex⟩, ⟨ie, si.1, ne⟩, fr⟩
  done := by
    intro X hP hw hK hc i pins s σ H E I hf st hg
    subst hP hw hK
    obtain ⟨⟨old, he⟩, hi, ne⟩ := st
    obtain ⟨xs, qx, el⟩ := hg
    obtain ⟨us, rx, kx, _⟩ := sqk_is I qx
    have lx := rx.length
    have hh : X.A.in1.handled = none := I.ok.hd hc
    have hn : us.toArray.size = i := by
      rw [List.size_toArray]
      omega
    exact enum_done I hf (drawsK p hh it a ia us.toArray) he (by rw [hn]; exact ⟨hi, kx⟩)
  self := fun A i s Q E st h => by
    obtain ⟨⟨_, he⟩, _⟩ := st
    exact wpAny_pyIter_enum he h
def iEnumM (K : PySem.W.Frag) (ta : TA) : TI := fun σ H R => ta σ H fun vs H1 => ∃ p a xs, vs = [.ref a] ∧ SqK p K H1 a xs ∧ R (ItEM p K a) H1
theorem pi_enumM {X : Cx} {e : Expr} {ta : TA} {p pos tpos : Pos} {elts : List Expr} {kk : Nat} (hg : Gl X "enumerate") (hm : X.mg "enumerate" = none) (ha : PA X [e] ta) (hs : starEach [e] X.env = [(false, eval e X.env)] := by rfl) :
    PI X (.Tuple elts kk tpos) (.Call (.Name "enumerate" p) [e] [] pos) (iEnumM X.K ta) := by
  constructor
  intro pins s σ H R I h
  refine Call_ (ld_blt I hg hm PyProof.Rows.boot_enumerate (PyProof.Rows.callWith_type1 (thn (ha.run pos pins s σ H _ I h) fun us s1 ⟨vs, H1, I1, r1, q1⟩ => ?_) hs rfl))
  obtain ⟨k1, a, xs, ex, qx, q⟩ := q1
  subst ex
  cases r1 with
  | cons r rr =>
    cases rr
    cases r
    obtain ⟨i1, _, p1, lt1⟩ := sqk_is I1 qx
    obtain ⟨o1, G1, B1, g1, w1⟩ := begK p1
    refine enum_begins1 B1 g1 fun h' he e1 hk => wpAny_pyIter_enum he ?_
    have I2 : Inv X pins σ H1 { s1 with heap := h' } := I1.kept (t' := s1.toks) hk
    refine ⟨s1.heap.objs.size + 1, [s1.heap.objs.size + 1, s1.heap.objs.size], _, _, H1, rfl, I2, turn_enumM a (s1.heap.objs.size + 1) s1.heap.objs.size (Nat.ne_of_gt (Nat.lt_succ_of_lt lt1)) (Nat.ne_of_lt lt1), ⟨⟨.none, he⟩, w1 _ _ e1, Nat.succ_ne_self _⟩, fun b hb => ?_, q⟩
    have lb : s1.heap.objs.size ≤ b := by
      rcases (show b = s1.heap.objs.size + 1 ∨ b = s1.heap.objs.size by simpa using hb) with z | z
      · rw [z]
        exact Nat.le_add_right _ _
      · rw [z]
        exact Nat.le_refl _
    exact I1.fpOk lb (I1.hok.fresh lb)
/-! over a text -/
theorem drawsS {prog : Program} {w : World} {A : Around} (hh : A.handled = none) (it : Addr) (z : Str) (t : Tok) :
    Draws prog w A it [it] z.cps.size (fun i v => ∃ c u, z.cps[i]? = some c ∧ v = .str ⟨#[c]⟩ u) (fun i h => h.IsStrIter it (strIterType z) z t i) := by
  unfold strIterType
  cases z.cps.all (· < 128)
  · exact Draws.strWide hh it z t
  · exact Draws.strAscii hh it z t
theorem turn_enumS {P : Program} {w : World} {K : PySem.W.Frag} {elts : List Expr} {kk : Nat} {tpos : Pos} (z : Str) (t : Tok) (e it : Addr) :
    Turn P w K (.Tuple elts kk tpos) (ItES z) [e, it] e (fun i h => (∃ old, IsEnum h e it ((i : Nat) : Int) old) ∧ h.IsStrIter it (strIterType z) z t i ∧ e ≠ it) where
  mem := by simp
  obj := fun i h st b hb => by
    obtain ⟨⟨old, he⟩, ⟨o, eo, _, d⟩, _⟩ := st
    rcases (show b = e ∨ b = it by simpa using hb) with y | y
    · rw [y]
      exact ⟨_, he, fun v q => nomatch q⟩
    · rw [y]
      exact ⟨o, eo, fun v q => by rw [d] at q; cases q⟩
  keep := fun i h h' st k => by
    obtain ⟨⟨old, he⟩, ⟨o, eo, r⟩, ne⟩ := st
    exact ⟨⟨old, k e (by simp) _ he⟩, ⟨o, k it (by simp) o eo, r⟩, ne⟩
  item := by
    intro X hP hw hK hc i pins s σ H E I hf st hg
    subst hP hw hK
    obtain ⟨⟨old, he⟩, hi, ne⟩ := st
    have lt : i < z.cps.size := hg
    have hh : X.A.in1.handled = none := I.ok.hd hc
    have ec : z.cps[i]? = some z.cps[i] := Array.getElem?_eq_getElem lt
    refine thn (enum_item (elts := elts) (kk := kk) (tpos := tpos) (E := E) I hf (drawsS hh it z t) he hi lt ne (by simp [ne]) (.str ⟨#[z.cps[i]]⟩) (fun v pv => ?_)) fun r s1 hr => ?_
    · obtain ⟨c, u, e1, e2⟩ := pv
      rw [ec] at e1
      cases e1
      subst e2
      exact ⟨u, rfl⟩
    obtain ⟨v, er, hv⟩ := hr
    refine ⟨v, er, thn hv fun _ s2 y => ?_⟩
    obtain ⟨T, eT, nT, I2, ie, si, fr⟩ := y
    subst eT
    exact ⟨.ref T, _, I2, rfl, ⟨T, _, rfl, nT, rfl, ec⟩, ⟨ie, si, ne⟩, fr⟩
  done := by
    intro X hP hw hK hc i pins s σ H E I hf st hg
    subst hP hw hK
    obtain ⟨⟨old, he⟩, hi, ne⟩ := st
    have el : z.cps.size = i := hg
    have hh : X.A.in1.handled = none := I.ok.hd hc
    exact enum_done I hf (drawsS hh it z t) he (by rw [el]; exact hi)
  self := fun A i s Q E st h => by
    obtain ⟨⟨_, he⟩, _⟩ := st
    exact wpAny_pyIter_enum he h
def iEnumS (ta : TA) : TI := fun σ H R => ta σ H fun vs H1 => ∃ z, vs = [.str z] ∧ R (ItES z) H1
theorem pi_enumS {X : Cx} {e : Expr} {ta : TA} {p pos tpos : Pos} {elts : List Expr} {kk : Nat} (hg : Gl X "enumerate") (hm : X.mg "enumerate" = none) (ha : PA X [e] ta) (hs : starEach [e] X.env = [(false, eval e X.env)] := by rfl) :
    PI X (.Tuple elts kk tpos) (.Call (.Name "enumerate" p) [e] [] pos) (iEnumS ta) := by
  constructor
  intro pins s σ H R I h
  refine Call_ (ld_blt I hg hm PyProof.Rows.boot_enumerate (PyProof.Rows.callWith_type1 (thn (ha.run pos pins s σ H _ I h) fun us s1 ⟨vs, H1, I1, r1, q1⟩ => ?_) hs rfl))
  obtain ⟨z, ex, q⟩ := q1
  subst ex
  cases r1 with
  | cons r rr =>
    cases rr
    obtain ⟨t, rfl⟩ := r
    refine enum_begins1 (begins_text z t) trivial fun h' he e1 hk => wpAny_pyIter_enum he ?_
    have I2 : Inv X pins σ H1 { s1 with heap := h' } := I1.kept (t' := s1.toks) hk
    refine ⟨s1.heap.objs.size + 1, [s1.heap.objs.size + 1, s1.heap.objs.size], _, _, H1, rfl, I2, turn_enumS z t (s1.heap.objs.size + 1) s1.heap.objs.size, ⟨⟨.none, he⟩, ⟨_, e1, rfl, rfl⟩, Nat.succ_ne_self _⟩, fun b hb => ?_, q⟩
    have lb : s1.heap.objs.size ≤ b := by
      rcases (show b = s1.heap.objs.size + 1 ∨ b = s1.heap.objs.size by simpa using hb) with y | y
      · rw [y]
        exact Nat.le_add_right _ _
      · rw [y]
        exact Nat.le_refl _
    exact I1.fpOk lb (I1.hok.fresh lb)
end Z
set_option Elab.async false
set_option linter.all false
set_option maxRecDepth 100000
set_option maxHeartbeats 4000000
namespace Z
open PySem PySem.Spec PyProof.Rows L2
/-! ### walks over a list (true) or a tuple (false) -/
inductive SeqOr (A B : Prop) : Prop
  | l : A → SeqOr A B
  | r : B → SeqOr A B
def iSeq (K : PySem.W.Frag) (tl : TE) : TI := fun σ H R => SeqOr (iList K tl σ H R) (iTup K tl σ H R)
theorem pi_sq {X : Cx} {tg l : Expr} {tl : TE} (he : PE X l tl) : PI X tg l (iSeq X.K tl) := by
  constructor
  intro pins s σ H R I h
  rcases h with h | h
  · exact (pi_list he).run pins s σ H R I h
  · exact (pi_tup he).run pins s σ H R I h
theorem pi_sq_K {X : Cx} {K : PySem.W.Frag} {tg l : Expr} {tl : TE} (h : X.K = K) (he : PE X l tl) : PI X tg l (iSeq K tl) := by
  subst h
  exact pi_sq he
theorem pi_list_K {X : Cx} {K : PySem.W.Frag} {tg l : Expr} {tl : TE} (h : X.K = K) (he : PE X l tl) : PI X tg l (iList K tl) := by
  subst h
  exact pi_list he
theorem pi_tup_K {X : Cx} {K : PySem.W.Frag} {tg l : Expr} {tl : TE} (h : X.K = K) (he : PE X l tl) : PI X tg l (iTup K tl) := by
  subst h
  exact pi_tup he
def ItQ (b : Bool) (K : PySem.W.Frag) (a : Addr) : It := match b with
  | true => Itl K a
  | false => Itt K a
theorem itq_go {b : Bool} {K : PySem.W.Frag} {H : Hp} {a : Addr} {xs : List V} {i : Nat} {x : V} (h : SqK b K H a xs) (e : xs[i]? = some x) : (ItQ b K a).go i H := by
  cases b <;> exact ⟨_, _, h, e⟩
theorem itq_stop {b : Bool} {K : PySem.W.Frag} {H : Hp} {a : Addr} {xs : List V} {i : Nat} (h : SqK b K H a xs) (e : xs.length ≤ i) : (ItQ b K a).stop i H := by
  cases b <;> exact ⟨_, h, e⟩
theorem itq_yld {b : Bool} {K : PySem.W.Frag} {H H' : Hp} {a : Addr} {xs : List V} {i : Nat} {x : V} (h : SqK b K H a xs) (y : (ItQ b K a).yld i H x H') : H' = H ∧ xs[i]? = some x := by
  cases b <;> exact ⟨y.1, y.2 _ h⟩
theorem rd_sq {b : Bool} {K : PySem.W.Frag} {σ : L2.St} {H : Hp} {i : Nat} {a : Addr} {xs : List V} {R : It → Hp → Prop} (e : σ[i]? = some (some (.ref a))) (h : SqK b K H a xs) (r : R (ItQ b K a) H) : iSeq K (tVar i) σ H R := by
  cases b
  · exact .r ⟨_, e, a, rfl, ⟨xs, h⟩, r⟩
  · exact .l ⟨_, e, a, rfl, ⟨xs, h⟩, r⟩
theorem lc_sq {b : Bool} {K : PySem.W.Frag} {a D : Addr} {xs : List Int} {H0 : Hp} {i : Nat} {te : TE} {vs : List Nat} {σ : L2.St} {Qd : Hp → Prop} (hS : SqK b K H0 a (xs.map V.int)) (g : Int → Int) (hn : xs.length ≤ 1000000) (nD : H0 D = none) (hw : ∀ x : Int, wipe ((wipe σ vs).set i (some (.int x))) vs = wipe σ vs)
    (ht : ∀ x H1 (Q : VK), x ∈ xs → Same H0 H1 → (∀ H2, Same H1 H2 → Q (.int (g x)) H2) → te ((wipe σ vs).set i (some (.int x))) H1 Q)
    (hd : ∀ H1, Same H0 H1 → H1 D = some (.lst ((xs.map g).map V.int)) → Qd H1) : lcW (ItQ b K a) (gName i) tYes te vs σ D Qd H0 := by
  have ex : ∀ k, k < xs.length → (xs.map V.int)[k]? = some (.int (xs.getD k 0)) := fun k hk => by
    rw [List.getElem?_map, List.getD_eq_getElem?_getD, List.getElem?_eq_getElem hk]
    rfl
  refine lc_ofs (K := K) (n := xs.length) (fun k => g (xs.getD k 0)) (fun k => .int (xs.getD k 0)) hn nD (fun k H1 hk s => itq_go (Z.Same.sqK s hS) (ex k hk)) (fun H1 s => itq_stop (Z.Same.sqK s hS) (by rw [List.length_map]; exact Nat.le_refl _)) (fun k H1 x H2 hk s y => ?_) (fun k => hw _) (fun k H1 Q hk s q => ht _ H1 Q ?_ s q) (fun H1 s e => hd H1 s ?_)
  · obtain ⟨e1, e2⟩ := itq_yld (Z.Same.sqK s hS) y
    exact ⟨e1, Option.some.inj (e2.symm.trans (ex k hk))⟩
  · rw [List.getD_eq_getElem?_getD, List.getElem?_eq_getElem hk]
    exact List.getElem_mem hk
  · rw [e]
    congr 2
    congr 1
    apply List.ext_getElem
    · rw [List.length_map, List.length_map, List.length_range]
    · intro k h1 h2
      rw [List.length_map] at h2
      rw [List.getElem_map, List.getElem_map, List.getElem_range, List.getD_eq_getElem?_getD, List.getElem?_eq_getElem h2]
      rfl
/-- for x in xs, any values -/
theorem for_sq {b : Bool} {K : PySem.W.Frag} {a : Addr} {xs : List V} {H0 H : Hp} {i : Nat} {tb : TS} {D : Ends} {σ : L2.St} (hS : SqK b K H0 a xs) (Pv : Nat → L2.St → Hp → Prop) (h0 : Pv 0 σ H) (hq : ∀ k σ H1, Pv k σ H1 → Same H0 H1)
    (hs : ∀ (k : Nat) (x : V) (σ : L2.St) (H1 : Hp), xs[k]? = some x → Pv k σ H1 → tb { D with nx := Pv (k + 1), ct := Pv (k + 1), bk := D.nx } (σ.set i (some x)) H1)
    (hd : ∀ σ H1, Pv xs.length σ H1 → D.nx σ H1) : forW (ItQ b K a) (gName i) tb D σ H := by
  refine for_gen (n := xs.length) Pv h0 (fun k σ H1 hk p => itq_go (Z.Same.sqK (hq k σ H1 p) hS) (List.getElem?_eq_getElem hk)) (fun σ H1 p => itq_stop (Z.Same.sqK (hq _ σ H1 p) hS) (Nat.le_refl _)) ?_ hd
  intro k σ H1 x H2 hk p y
  obtain ⟨rfl, e⟩ := itq_yld (Z.Same.sqK (hq k σ H1 p) hS) y
  exact hs k x σ _ e p
/-- for i, x in enumerate(xs) -/
theorem for_enum {b : Bool} {K : PySem.W.Frag} {a : Addr} {xs : List V} {H0 H : Hp} {i j : Nat} {tb : TS} {D : Ends} {σ : L2.St} (hS : SqK b K H0 a xs) (Pv : Nat → L2.St → Hp → Prop) (h0 : Pv 0 σ H) (hq : ∀ k σ H1, Pv k σ H1 → Same H0 H1)
    (hs : ∀ (k : Nat) (x : V) (σ : L2.St) (H1 H2 : Hp), xs[k]? = some x → Pv k σ H1 → Same H1 H2 → tb { D with nx := Pv (k + 1), ct := Pv (k + 1), bk := D.nx } ((σ.set i (some (.int (k : Nat)))).set j (some x)) H2)
    (hd : ∀ σ H1, Pv xs.length σ H1 → D.nx σ H1) : forW (ItEM b K a) (gTup K 2 (gCons (gName i) (gCons (gName j) gNil))) tb D σ H := by
  refine for_gen (n := xs.length) Pv h0 (fun k σ H1 hk p => ⟨xs, _, Z.Same.sqK (hq k σ H1 p) hS, List.getElem?_eq_getElem hk⟩) (fun σ H1 p => ⟨xs, Z.Same.sqK (hq _ σ H1 p) hS, rfl⟩) ?_ hd
  intro k σ H1 x H2 hk p y
  obtain ⟨T, z, rfl, nT, rfl, e⟩ := y
  exact ⟨T, _, rfl, SqT.of upd_same, rfl, _, _, rfl, _, _, rfl, rfl, hs k z σ H1 _ (e _ (Z.Same.sqK (hq k σ H1 p) hS)) p (same_new nT)⟩
/-- for i, c in enumerate(text) -/
theorem for_enumS {K : PySem.W.Frag} {z : Str} {H : Hp} {i j : Nat} {tb : TS} {D : Ends} {σ : L2.St} (Pv : Nat → L2.St → Hp → Prop) (h0 : Pv 0 σ H)
    (hs : ∀ (k : Nat) (c : Nat) (σ : L2.St) (H1 H2 : Hp), z.cps[k]? = some c → Pv k σ H1 → Same H1 H2 → tb { D with nx := Pv (k + 1), ct := Pv (k + 1), bk := D.nx } ((σ.set i (some (.int (k : Nat)))).set j (some (.str ⟨#[c]⟩))) H2)
    (hd : ∀ σ H1, Pv z.cps.size σ H1 → D.nx σ H1) : forW (ItES z) (gTup K 2 (gCons (gName i) (gCons (gName j) gNil))) tb D σ H := by
  refine for_gen (n := z.cps.size) Pv h0 (fun k σ H1 hk p => hk) (fun σ H1 p => rfl) ?_ hd
  intro k σ H1 x H2 hk p y
  obtain ⟨T, c, rfl, nT, rfl, e⟩ := y
  exact ⟨T, _, rfl, SqT.of upd_same, rfl, _, _, rfl, _, _, rfl, rfl, hs k c σ H1 _ e p (same_new nT)⟩
/-! ### built-ins within a comprehension's block -/
theorem cr_min_K {X : Cx} {K : PySem.W.Frag} (h : X.K = K) (hc : X.calm = true) : CallR X (.builtin "min") (rMin K) := by
  subst h
  exact cr_min hc
theorem cr_max_K {X : Cx} {K : PySem.W.Frag} (h : X.K = K) (hc : X.calm = true) : CallR X (.builtin "max") (rMax K) := by
  subst h
  exact cr_max hc
theorem cr_sum_K {X : Cx} {K : PySem.W.Frag} (h : X.K = K) (hc : X.calm = true) : CallR X (.builtin "sum") (rSum K) := by
  subst h
  exact cr_sum hc
theorem cr_all_K {X : Cx} {K : PySem.W.Frag} (h : X.K = K) (hc : X.calm = true) : CallR X (.builtin "all") (rAll K) := by
  subst h
  exact cr_all hc
theorem cr_any_K {X : Cx} {K : PySem.W.Frag} (h : X.K = K) (hc : X.calm = true) : CallR X (.builtin "any") (rAny K) := by
  subst h
  exact cr_any hc
/-! ### comprehensions with a test, any values -/
def fltL (kb : Nat → Bool) (g : Nat → V) (n : Nat) : List V := ((List.range n).filter kb).map g
theorem flt_succ (kb : Nat → Bool) (g : Nat → V) (n : Nat) : fltL kb g (n + 1) = fltL kb g n ++ (if kb n then [g n] else []) := by
  unfold fltL
  rw [List.range_succ, List.filter_append, List.map_append]
  cases e : kb n <;> simp [e]
theorem flt_len (kb : Nat → Bool) (g : Nat → V) (n : Nat) : (fltL kb g n).length ≤ n := by
  unfold fltL
  rw [List.length_map]
  exact Nat.le_trans (List.length_filter_le ..) (by rw [List.length_range]; exact Nat.le_refl _)
theorem lc_flt {J : It} {D : Addr} {n : Nat} {H0 : Hp} {i : Nat} {tt : TT} {te : TE} {vs : List Nat} {σ : L2.St} {Qd : Hp → Prop} (xv : Nat → V) (kb : Nat → Bool) (g : Nat → V) (hn : n ≤ 1000000) (nD : H0 D = none)
    (hgo : ∀ k H1, k < n → Same H0 H1 → J.go k H1) (hst : ∀ H1, Same H0 H1 → J.stop n H1) (hy : ∀ k H1 x H2, k < n → Same H0 H1 → J.yld k H1 x H2 → Same H1 H2 ∧ x = xv k)
    (hw : ∀ k, wipe ((wipe σ vs).set i (some (xv k))) vs = wipe σ vs)
    (hb : ∀ k H1 (Q : Bool → Hp → Prop), k < n → Same H0 H1 → (∀ H2, Same H1 H2 → Q (kb k) H2) → tt ((wipe σ vs).set i (some (xv k))) H1 Q)
    (ht : ∀ k H1 (Q : VK), k < n → kb k = true → Same H0 H1 → (∀ H2, Same H1 H2 → Q (g k) H2) → te ((wipe σ vs).set i (some (xv k))) H1 Q)
    (hd : ∀ H1, Same H0 H1 → H1 D = some (.lst (fltL kb g n)) → Qd H1) : lcW J (gName i) tt te vs σ D Qd H0 := by
  refine lc_gen (n := n) (fun k H1 => Same H0 H1 ∧ H1 D = some (.lst (fltL kb g k))) ⟨same_new nD, upd_same⟩ (fun k H1 hk p => hgo k H1 hk p.1) (fun H1 p => hst H1 p.1) ?_ (fun H1 p => hd H1 p.1 p.2)
  rintro k H1 x H2 hk ⟨s, e⟩ y
  obtain ⟨s2, rfl⟩ := hy k H1 x H2 hk s y
  refine ⟨hw k, ?_⟩
  refine hb k _ _ hk (s.trans s2) (fun H3 s3 => ?_)
  cases eb : kb k
  · rw [if_neg (by decide)]
    refine ⟨s.trans (s2.trans s3), ?_⟩
    rw [flt_succ, eb]
    simpa using s3 _ _ (s2 _ _ e)
  · rw [if_pos rfl]
    refine ht k _ _ hk eb (s.trans (s2.trans s3)) (fun H4 s4 => ⟨_, s4 _ _ (s3 _ _ (s2 _ _ e)), ?_, Z.Same.mut (s.trans (s2.trans (s3.trans s4))) nD, ?_⟩)
    · exact Nat.lt_of_le_of_lt (flt_len kb g k) (Nat.lt_of_lt_of_le hk (Nat.le_trans hn (by decide)))
    · rw [upd_same, flt_succ, eb]
      rfl
end Z
set_option Elab.async false
set_option linter.all false
set_option maxRecDepth 100000
set_option maxHeartbeats 4000000
namespace Z
open PySem PySem.Spec PyProof PyProof.Rows L2 F
/-! ### len(x), x an instance of a class with __len__ -/
structure LenO (P : Program) (w : World) (K : PySem.W.Frag) (mg : Str → Option Value) (base : Heap) (k : Nat) (C : Addr) (sp : Sp) : Prop where
  ex : ∃ (f : Addr) (fd : FuncData) (ps : List Str), FnOk P w K mg base CX0 k f fd ps sp ∧ PySem.W.findIn K (.ref C) "__len__" = some (some (.ref f)) ∧ PySem.W.isFn K (.ref f) = true ∧ Binds K fd ps []
def rLenO (C : Addr) (sp : Sp) : List V → Hp → VK → Prop := fun xs H Q => ∃ a dx fs, xs = [.ref a] ∧ H a = some (.ins C dx fs) ∧ sp [.ref a] H (fun v H' => ∃ n : Int, v = .int n ∧ 0 ≤ n ∧ n < 2 ^ 63 ∧ Q (.int n) H') E0
theorem call_lenO {X : Cx} {k j : Nat} {C : Addr} {sp : Sp} (c : LenO X.prog X.w X.K X.mg X.base k C sp) (hr : Room j X.A) (hk : k + 1 ≤ j) : CallR X (.builtin "len") (rLenO C sp) := by
  intro pins s σ H xs us Q I r h
  obtain ⟨f, fd, ps, F, hs, hf, hb⟩ := c.ex
  obtain ⟨a, dx, fs, rfl, ha, q⟩ := h
  obtain ⟨u, rfl, ru⟩ := vals1 r
  obtain rfl : u = Value.ref a := ru
  obtain ⟨mA, J, _⟩ := ins_get I.hok ha
  obtain ⟨od, J, _⟩ := J.look
  refine Calls.call_function_entry kind_len plain_len entry_len (args_len1 _) ?_
  unfold Builtin.«len»
  refine wpAny_bind (m := oneArg "len" _) (wpAny_pure ?_)
  have e0 : Env0 X.prog X.w X.K X.mg X.base X.A.in1 X.stack s H := by
    have e := I.env0
    exact ⟨e.frames, e.mod, e.bs, e.bsz, e.funs, e.frf, e.hok, e.bare⟩
  refine wpAny_bind (m := callSpecial? (.ref a) (PySem.Str.ofString "__len__")) (PySem.W.special_fn (name := "__len__") (args := []) I.kIn J hs (beq_iff_eq.mp hf) ?_)
  have hl := F.len _ _ _ _ q
  refine wpAny_call (codeAny_mono (F.run X.A.in1 X.stack s H ⟨[.ref a], []⟩ [.ref a] [.ref a] _ E0 (hr.mono hk).in1 e0 (by
    have := hb s [.ref a] I.kIn (by simpa using hl)
    simpa using this) (.cons rfl .nil) q) fun r s' hq => ?_)
  cases r with
  | error e => exact pass0 pins σ H s e s' I hq
  | ok fl =>
    cases fl with
    | next => exact False.elim hq
    | brk => exact False.elim hq
    | cont => exact False.elim hq
    | ret u =>
      obtain ⟨v, H1, I1, rv, n, rfl, h0, h1, q1⟩ := I.after hq
      obtain ⟨t, rfl⟩ := rv
      refine wpAny_bind (wpAny_holding (wpAny_pure ?_))
      refine wpAny_bind (wpAny_letGo ?_)
      show wpAny _ _ (if n < 0 then _ else _) _ _ _
      rw [if_neg (by omega)]
      show wpAny _ _ (if n ≥ 2 ^ 63 then _ else _) _ _ _
      rw [if_neg (by omega)]
      exact wpAny_bind (wpAny_mkInt (wpAny_pure ⟨_, rfl, .int n, H1, I1.tok _, ⟨_, rfl⟩, q1⟩))
end Z
set_option Elab.async false
set_option linter.all false
set_option maxRecDepth 100000
set_option maxHeartbeats 4000000
namespace L2N
open PySem PySem.Spec PyProof.Rows L2
/-! ### several clauses `except c as n` -/
/-- a clause: its class, the slot of its name, its suite's reading -/
abbrev Cl := Value × Nat × (Addr → Value → Option Addr → TS)
def wManyA (K : PySem.W.Frag) (Wout : WX) (D : Ends) : List Cl → WX
  | [] => Wout
  | h :: r => wAs K h.1 h.2.1 h.2.2 (wManyA K Wout D r) D
inductive HdsA (X : Cx) : List ExceptHandler → List Cl → Prop
  | nil : HdsA X [] []
  | cons {x n : Str} {c : Value} {i : Nat} {ts : Addr → Value → Option Addr → TS} {b₀ : Stmt} {suite : List Stmt} {np pos' : Pos} {hds : List ExceptHandler} {l : List Cl} (hi : X.N[i]? = some n) (hln : X.env.kindOf n = some .local) (hc : Names X x c)
      (hsu : ∀ (a : Addr) (oe : Obj) (cls : Value) (d : Option Addr) (pn : List (Addr × Obj)), Zn cls d oe → (∃ vs, oe.data = .fields vs) → PSs (X.suite a ((a, oe) :: pn)) (b₀ :: suite) (ts a cls d)) (r : HdsA X hds l) :
      HdsA X (.ExceptHandler (some (.Name x np)) (some n) (b₀ :: suite) pos' :: hds) ((c, i, ts) :: l)
section
variable {X : Cx} {body : List Stmt} {h₀ : ExceptHandler} {hds : List ExceptHandler} {l : List Cl} {pos : Pos} {tb : WX → TS} {Wout : WX}
theorem ps_try_manyA (hs : X.stack = X.env :: X.outer) (hf : X.env.frame = some X.env.locals) (hN : X.N.Nodup) (tk : Takes X Wout)
    (hb : ∀ (W : WX) (pn : List (Addr × Obj)) (xe : Value → Shared → Prop), Takes (X.tr pn xe) W → PassesOwn (model X.prog X.w) X.A X.env xe → PSs (X.tr pn xe) body (tb W))
    (hh : HdsA X (h₀ :: hds) l) : PS X (.Try body (h₀ :: hds) [] [] pos) (fun D σ H => tb (wManyA X.K Wout D l) D σ H) := by
  refine ⟨fun pins s σ H D I h => ?_⟩
  have ok := I.ok
  have hfr : X.A.frames = some (X.env :: X.outer) := by rw [ok.frames, hs]
  have calm : ∀ (f : Flow) (s1 : Shared) , SP (X.tr (X.pn ++ pins) (fun e s₁ => wpAny (model X.prog X.w) X.A (noteFrame e X.env) (fun _ s₂ => wpAny (model X.prog X.w) X.A (setFlight e none) (fun _ s₃ =>
      wpAny (model X.prog X.w) X.A (handleBy e X.env (h₀ :: hds)) (SP X pins D) X.xe s₃) X.xe s₂) X.xe s₁)) [] D f s1 → SP X pins D f s1 := fun f s1 hsp => by
    cases f with
    | next =>
      obtain ⟨σ', H', J', q⟩ := hsp
      exact ⟨σ', H', J'.ofTry ok, q⟩
    | brk =>
      obtain ⟨σ', H', J', q⟩ := hsp
      exact ⟨σ', H', J'.ofTry ok, q⟩
    | cont =>
      obtain ⟨σ', H', J', q⟩ := hsp
      exact ⟨σ', H', J'.ofTry ok, q⟩
    | ret u =>
      obtain ⟨v, σ', H', J', r, q⟩ := hsp
      exact ⟨v, σ', H', J'.ofTry ok, r, q⟩
  refine wpAny_Try_except ?_
  refine wpAny_mono ((hb (wManyA X.K Wout D l) (X.pn ++ pins) (fun e s₁ => wpAny (model X.prog X.w) X.A (noteFrame e X.env) (fun _ s₂ => wpAny (model X.prog X.w) X.A (setFlight e none) (fun _ s₃ =>
    wpAny (model X.prog X.w) X.A (handleBy e X.env (h₀ :: hds)) (SP X pins D) X.xe s₃) X.xe s₂) X.xe s₁) (fun u s' xx => ?_) PassesOwn.looking).run [] s σ H D (I.toTry _) h) (fun f s1 hsp => ?_) (fun e s1 he => he)
  · obtain ⟨a, B, sI, pins', σ', H', cls, d, rfl, J', nb, up, sky, na, os, ag, w⟩ := xx
    have J : Inv X pins σ' H' sI := J'.ofTry ok
    have sky' : Sky B (X.env :: X.outer) a (Zn cls d) X.env.locals s'.heap := by rw [← hs]; exact sky
    show wpAny (model X.prog X.w) X.A (noteFrame (.ref a) X.env) _ _ _
    refine Sky.land Zn.steady hfr hf sky' fun h3 fl3 up3 => ?_
    have J3 : Inv X pins σ' H' { s' with heap := h3 } := J.landed nb fl3.1 (up.trans up3) os ag
    obtain ⟨oe3, vs3, he3, hz3, hd3⟩ := fl3.there
    have nfr : a ∉ frs (X.env :: X.outer) := fun hm => by
      obtain ⟨_, o', e', hnf⟩ := fl3.2.2.1.mem hm
      rw [he3] at e'
      cases e'
      exact hnf _ hd3
    have nL : a ≠ X.env.locals := fun z => nfr (List.mem_filterMap.mpr ⟨X.env, List.mem_cons_self, by rw [hf, z]⟩)
    have nF : a ∉ X.fs := fun hm => by
      obtain ⟨e, he, q⟩ := List.mem_filterMap.mp hm
      exact nfr (List.mem_filterMap.mpr ⟨e, List.mem_cons_of_mem _ he, q⟩)
    have S3 := J3.suite he3 hd3 na nL nF
    have go : ∀ {hds' : List ExceptHandler} {l' : List Cl}, HdsA X hds' l' → wManyA X.K Wout D l' cls d σ' H' →
        wpAny (model X.prog X.w) X.A (handleBy (.ref a) X.env hds') (SP X pins D) X.xe { s' with heap := h3 } := by
      intro hds' l' hk
      induction hk with
      | nil =>
        intro w
        refine wpAny_handleBy_nil ?_
        obtain ⟨k1, k2, k3, oe, vs, T, oT, ts', he, hz, hd, h1, hr⟩ := id fl3
        unfold PySem.passOn
        refine wpAny_bind (wpAny_field he hd h1 ?_)
        rw [if_neg (show ¬ ((Value.ref T == Value.none) = true) from by simp)]
        have fin : wpAny (model X.prog X.w) X.A (setFlight (.ref a) X.env.frame) (fun _ s4 => wpAny (model X.prog X.w) X.A (throw (.ref a) : Sem Flow) (SP X pins D) X.xe s4) X.xe { s' with heap := h3 } := by
          rw [hf]
          refine HandSPX.setFlight_upZ fl3 fun h4 hh4 up4 => wpAny_throw (tk _ _ ?_)
          exact ⟨a, B, sI, pins, σ', H', cls, d, rfl, J, nb, (up.trans up3).trans up4, .inr (.inr (by rw [hs]; exact hh4)), na, os, ag, w⟩
        first
          | exact wpAny_bind (wpAny_pure (wpAny_bind fin))
          | exact wpAny_bind fin
      | @cons x n c i ts b₀ suite np pos' hds2 l2 hi hln hc hsu r ih =>
        intro w
        obtain ⟨b, hb1, hyes, hno⟩ := w
        have hloc : Loc X.env.scope n := .inl hln
        refine wpAny_handleBy_cons (codeAny_handlers_test ?_) (by intro q; cases q)
        have LT : PySem.W.Looks (model X.prog X.w) h3 (typeOf (.ref a)) cls := fun A Q E s k q => wpAny_typeOf_ref (k _ _ he3) (by rw [hz3.1]; exact q)
        have LM := PySem.W.exm_one (M := model X.prog X.w) (J3.kIn) LT hb1
        have test : ∀ {Q : Value → Shared → Prop} {E : Value → Shared → Prop}, Q c { s' with heap := h3 } → wpAny (model X.prog X.w) (X.A.mark (some (.ref a))) (eval (.Name x np) X.env) Q E { s' with heap := h3 } := fun {Q E} q => by
          obtain ⟨hg, hdbg, hm | ⟨hm, hv, hnn⟩⟩ := hc
          · exact ld_glob (X := X.suite a ((a, oe3) :: (X.pn ++ pins))) S3 hg hm q hdbg
          · exact ld_blt (X := X.suite a ((a, oe3) :: (X.pn ++ pins))) S3 hg hm hv q hnn hdbg
        refine test (LM.here ?_)
        cases b with
        | true =>
          refine codeAny_handlers_suite_as ?_
          refine HandSPX.lands_againZ fl3 fun h4 fl4 up4 => ?_
          have J4 : Inv X pins σ' H' { s' with heap := h4 } := J.landed nb fl4.1 ((up.trans up3).trans up4) os ag
          obtain ⟨oe4, vs4, he4, hz4, hd4⟩ := fl4.there
          have S4 := J4.suite he4 hd4 na nL nF
          refine store_ok (X := X.suite a ((a, oe4) :: (X.pn ++ pins))) (v := .ref a) S4 hN hi hloc rfl (fun s5 S5 => ?_) (.inr hln)
          refine wpAny_mono ((hsu a oe4 cls d (X.pn ++ pins) hz4 ⟨_, hd4⟩).run [] s5 _ H' _ S5 (hyes rfl a na)) (fun f s6 hsp => ?_) (fun _ _ z => False.elim z)
          have end_ : ∀ {σ6 : L2.St} {H6 : Hp} {Q : Shared → Prop}, Inv (X.suite a ((a, oe4) :: (X.pn ++ pins))) [] σ6 H6 s6 → (∀ s7, Inv X pins (σ6.set i none) H6 s7 → Q s7) →
              wpAny (model X.prog X.w) X.A (do bindName X.env n .none; unbindBehindTheSuite X.env n pos') (fun _ s7 => Q s7) X.xe s6 := fun {σ6 H6 Q} S6 hq => gone_ok (S6.unsuite ok) hN hi hln hq
          cases f with
          | next =>
            obtain ⟨σ6, H6, S6, q6⟩ := hsp
            exact end_ S6 fun s7 J7 => ⟨_, _, J7, q6⟩
          | brk =>
            obtain ⟨σ6, H6, S6, q6⟩ := hsp
            exact end_ S6 fun s7 J7 => ⟨_, _, J7, q6⟩
          | cont =>
            obtain ⟨σ6, H6, S6, q6⟩ := hsp
            exact end_ S6 fun s7 J7 => ⟨_, _, J7, q6⟩
          | ret u =>
            obtain ⟨v6, σ6, H6, S6, r6, q6⟩ := hsp
            exact end_ S6 fun s7 J7 => ⟨_, _, _, J7, r6, q6⟩
        | false =>
          show wpAny _ X.A (handleBy (.ref a) X.env hds2) _ _ _
          exact ih (hno rfl)
    exact go hh w
  · cases f with
    | next => exact wpAny_execs_nil (calm .next s1 hsp)
    | brk => exact calm .brk s1 hsp
    | cont => exact calm .cont s1 hsp
    | ret u => exact calm (.ret u) s1 hsp
end
end L2N
set_option Elab.async false
set_option linter.all false
set_option maxRecDepth 100000
set_option maxHeartbeats 4000000
namespace Z
open PySem PySem.Spec PyProof.Rows L2
/-! ### f(e, .., k = v), what is raised at the slots -/
structure CalKX (P : Program) (w : World) (K : PySem.W.Frag) (mg : Str → Option Value) (base : Heap) (k : Nat) (x : Str) (n : Nat) (ks : List Str) (gV : List V → List V → List V) (sp : Sp) : Prop where
  ex : ∃ (f : Addr) (fd : FuncData) (ps : List Str) (g : List Value → List Value → List Value), FnOk P w K mg base (L2N.CX P w) k f fd ps sp ∧ mg x = some (.ref f) ∧ PySem.W.keepIn K (.ref f) = true ∧ KBn K fd ps n ks g gV
def tClKW (n m : Nat) (sp : Sp) (gV : List V → List V → List V) (E : L2.St → XK) (t tk : TA) : TE := fun σ H Q => t σ H fun vs H1 => tk σ H1 fun zs H2 => vs.length = n ∧ zs.length = m ∧ sp (gV vs zs) H2 Q (E σ)
section
variable {X : Cx} {k j n : Nat} {x : Str} {sp : Sp} {ks : List Str} {gV : List V → List V → List V} {p pos : Pos} {e : Expr} {es : List Expr} {kws : List Keyword} {t tk : TA} {E : L2.St → XK}
theorem pe_clKE (c : CalKX X.prog X.w X.K X.mg X.base k x n ks gV sp) (hx : ∀ σ, PassesAt (L2N.CX X.prog X.w) X σ (E σ)) (hr : Room j X.A) (hk : k ≤ j) (hg : Gl X x) (ha : PA X (e :: es) t) (hkw : PK X kws tk)
    (hall : (backToKw pos (keywordEach kws X.env)).all (·.1.isSome) = true := by rfl) (hks : (backToKw pos (keywordEach kws X.env)).filterMap (·.1) = ks := by rfl) (hdb : (x == ("__debug__" : Str)) = false := by decide)
    (he : starEach (e :: es) X.env = (false, eval e X.env) :: starEach es X.env := by rfl) (hpl : ((backTo pos (starEach (e :: es) X.env)).any (·.1) || (backToKw pos (keywordEach kws X.env)).any (·.1.isNone)) = false := by rfl) :
    PE X (.Call (.Name x p) (e :: es) kws pos) (tClKW n ks.length sp gV E t tk) := by
  obtain ⟨f, fd, ps, g, F, hm, kp, hb⟩ := c.ex
  refine ⟨fun pins s σ H Q I h => ?_⟩
  refine wpAny_Call_Name_kw (ld_glob I hg hm ?_ hdb)
  refine PySem.W.callWith_KW (h₀ := X.base) I.ok.mod.kin kp hall (thn (ha.run pos pins s σ H _ I h) fun us s1 ⟨vs, H1, I1, r, q⟩ => ?_) hpl he
  refine thn (hkw.run pos pins s1 σ H1 _ I1 q) fun ws s2 ⟨zs, H2, I2, rz, l1, l2, q2⟩ => ⟨I2.kIn, ?_⟩
  rw [hks]
  have r2 := hb.rel r rz
  refine wpAny_call (codeAny_mono (F.run X.A X.stack s2 H2 ⟨us, ks.zip ws⟩ (g us ws) (gV vs zs) Q (E σ) (hr.mono hk) I2.env0 (hb.to s2 us ws I2.kIn (by rw [← r.length]; exact l1) (by rw [← rz.length]; exact l2)) r2 q2) fun r s' hq => ?_)
  exact back_at (hx σ) I2 r s' hq
end
end Z
set_option Elab.async false
set_option linter.all false
set_option maxRecDepth 100000
set_option maxHeartbeats 4000000
namespace Z
open PySem PySem.Spec PyProof.Rows L2
/-! ### raise X(), X an own class without own __init__ -/
structure Exn0 (K : PySem.W.Frag) (mg : Str → Option Value) (x : Str) (C : Addr) : Prop where
  ex : PySem.W.excIn K C He.veBase "ValueError.__new__" = true
  kp : PySem.W.keepIn K (.ref C) = true
  sub : PySem.W.subIn K (.ref C) (.type "BaseException") = some true
  ty : PySem.W.typeIn K (.ref C) = some (.type "type")
  gl : mg x = some (.ref C)
theorem pmk_ex0 {X : Cx} {x : Str} {C : Addr} {p pos : Pos} (c : Exn0 X.K X.mg x C) (hg : Gl X x) (hdb : (x == ("__debug__" : Str)) = false := by decide) :
    L2N.PMk X (.Call (.Name x p) [] [] pos) (fun _ H Q => Q (.ref C) none H) := by
  intro pins s σ H Q I h
  refine wpAny_Call_Name_kw (ld_glob I hg c.gl ?_ hdb)
  refine PySem.W.callWith_K0 I.kIn c.kp ?_
  obtain ⟨bm, N, nm, qn, bs, hdct, sn, sub, ab, col, dd, k0, k1, k2, k3, k5, mN, hC, hN, hni, T⟩ := exc_obj I.kIn c.ex
  refine wpAny_call_exc_subT PySem.F.excBase_ValueError T hC hN hni (fun h' e hm => ?_) (by decide)
  exact L2N.mk_of I hm (raises_own c.sub c.ty) h (I.hok.gone hm.new)
theorem ps_ex0 {X : Cx} {x : Str} {C : Addr} {p pos pos2 : Pos} {W : WX} (hc : X.calm = true) (tk : L2N.Takes X W) (c : Exn0 X.K X.mg x C) (hg : Gl X x) (hdb : (x == ("__debug__" : Str)) = false := by decide) :
    PS X (.Raise (some (.Call (.Name x p) [] [] pos)) none pos2) (fun _ σ H => W (.ref C) none σ H) := L2N.ps_raise hc tk (pmk_ex0 c hg hdb)
/-! ### isinstance(e, c), e a caught error without a dict -/
def rIs0 (K : PySem.W.Frag) (a : Addr) (cls : Value) (d : Option Addr) : List V → Hp → VK → Prop := fun xs H Q => ∃ (D : Addr) (c : V) (cv : Value) (b : Bool), cls = .ref D ∧ d = none ∧ ExcC K D ∧ xs = [.ref a, c] ∧ (∀ u, RelV c u → u = cv) ∧ PySem.W.kitOne K (.ref D) cv = some b ∧ Q (.bl b) H
theorem call_is0 {X : Cx} {a : Addr} {cls : Value} {d : Option Addr} {oe : Obj} {pn : List (Addr × Obj)} (hz : Zc cls d oe) (hf : ∃ vs, oe.data = .fields vs) : CallR (X.suite a ((a, oe) :: pn)) (.builtin "isinstance") (rIs0 X.K a cls d) := by
  intro pins s σ H xs us Q I r h
  obtain ⟨D, c, cv, b, rfl, rfl, C, rfl, hcv, e, q⟩ := h
  exact call_isE C hz hf pins s σ H _ us Q I r ⟨c, cv, b, rfl, hcv, e, q⟩
end Z
set_option Elab.async false
set_option linter.all false
set_option maxRecDepth 100000
set_option maxHeartbeats 4000000
namespace Z
open PySem PySem.Spec PyProof.Rows L2
open SX (S S_inj S_len S_cat)
/-! ### a text times an int -/
def rRepS : R2 := fun x y H Q => ∃ (l : List Nat) (k : Int), x = .str (S l) ∧ y = .int k ∧ -100000 ≤ k ∧ k ≤ 100000 ∧ l.length ≤ 10 ∧ Q (.str (S (List.replicate k.toNat l).flatten)) H
theorem op_repS {X : Cx} : OpR X (binaryOp .Mult) rRepS := by
  intro pins s σ H x y v u Q I rx ry h
  obtain ⟨l, k, rfl, rfl, h0, h1, hl, q⟩ := h
  obtain ⟨t, rfl⟩ := rx
  obtain ⟨t2, rfl⟩ := ry
  have el : (S l).length = l.length := S_len l
  have hm : l.length * k.toNat ≤ 10 * 100000 := Nat.mul_le_mul hl (by omega)
  refine PySem.P.mul_str ?_ ?_ ?_ ?_
  · rw [decide_eq_false (by omega), decide_eq_false (by omega)]
    rfl
  · intro h2 _ h3
    have : (k : Int) * ((2 ^ 63 - 1) / k) ≤ 2 ^ 63 - 1 := Int.mul_ediv_self_le (by omega)
    have h4 : (100000 : Int) ≤ (2 ^ 63 - 1) / k := by
      rw [Int.le_ediv_iff_mul_le (by omega)]
      omega
    rw [el] at h3
    omega
  · intro _ _
    rw [el]
    have hs : sizeLine = 16777216 := sizeLine_eq
    exact decide_eq_false (by omega)
  · have fr : ∀ (n : Nat) (acc : List Nat), List.foldl (fun x1 x2 => x1 ++ x2) acc.toArray (List.replicate n l.toArray) = (acc ++ (List.replicate n l).flatten).toArray := by
      intro n
      induction n with
      | zero => intro acc; simp
      | succ n ih =>
        intro acc
        have e : acc.toArray ++ l.toArray = (acc ++ l).toArray := by simp
        rw [List.replicate_succ, List.foldl_cons, e, ih, List.replicate_succ, List.flatten_cons, List.append_assoc]
    have fr0 := fr k.toNat []
    rw [List.nil_append] at fr0
    have e0 : (⟨List.foldl (fun x1 x2 => x1 ++ x2) #[] (List.replicate k.toNat (S l).cps)⟩ : Str) = S (List.replicate k.toNat l).flatten := congrArg Str.mk fr0
    have hz : (List.replicate k.toNat l).flatten.length ≤ 10 * 100000 := by
      rw [List.length_flatten, List.map_replicate, List.sum_replicate_nat]
      rw [Nat.mul_comm]
      exact hm
    by_cases c1 : k < 1
    · rw [if_pos c1]
      have : k.toNat = 0 := by omega
      rw [this] at q
      refine ⟨by decide, ?_⟩
      exact ⟨.str _, H, I.tok _, ⟨_, rfl⟩, q⟩
    · rw [if_neg c1]
      by_cases c2 : (k == 1 || (S l).length == 0) = true
      · rw [if_pos c2]
        have e2 : (List.replicate k.toNat l).flatten = l := by
          rw [Bool.or_eq_true, beq_iff_eq, beq_iff_eq, el] at c2
          rcases c2 with c2 | c2
          · rw [c2]
            simp
          · have : l = [] := List.length_eq_zero_iff.mp c2
            rw [this]
            simp
        rw [e2] at q
        exact ⟨.str _, H, I, ⟨_, rfl⟩, q⟩
      · rw [if_neg c2, e0]
        refine ⟨by rw [S_len]; exact Nat.le_trans hz (by decide), ?_⟩
        exact ⟨.str _, H, I.tok _, ⟨_, rfl⟩, q⟩
def rRepN : R2 := fun x y H Q => ∃ k : Int, x = .str "n" ∧ y = .int k ∧ -100000 ≤ k ∧ k ≤ 100000 ∧ Q (.str (S (List.replicate k.toNat 110))) H
theorem op_repN {X : Cx} : OpR X (binaryOp .Mult) rRepN := by
  intro pins s σ H x y v u Q I rx ry h
  obtain ⟨k, rfl, rfl, h0, h1, q⟩ := h
  have e : ∀ n : Nat, (List.replicate n [110]).flatten = List.replicate n 110 := by
    intro n
    induction n with
    | zero => rfl
    | succ n ih =>
      rw [List.replicate_succ, List.flatten_cons, ih, List.replicate_succ]
      rfl
  refine op_repS pins s σ H _ _ v u Q I rx ry ⟨[110], k, congrArg V.str (by decide +kernel), rfl, h0, h1, by decide, ?_⟩
  rw [e]
  exact q
end Z
set_option Elab.async false
set_option linter.all false
set_option maxRecDepth 100000
set_option maxHeartbeats 4000000
namespace Z
open PySem PySem.Spec PyProof.Rows L2 NdefX
/-! ### a method whose last statement is super().__init__(..), the base an own class -/
/-- what the written part says: the function f of the class C (cell cc, code c), the base's __init__ at g -/
structure SupP (P : Program) (K : PySem.W.Frag) (C f c cc g : Addr) (fd : FuncData) : Prop where
  lk : ∃ oc od osl, K.lookup f = some ⟨oc, od, .func fd, osl⟩
  code : ∃ (ccl : Value) (cdd : Option Addr) (vs : Array Value) (ccs : Array (Option Value)) (file : Str) (tf : Tok), K.lookup c = some ⟨ccl, cdd, .fields vs, ccs⟩ ∧ vs[2]? = some (.str file tf) ∧ ((P.main.file : Str) == file) = true
  cell : ∃ cl cld csl, K.lookup cc = some ⟨cl, cld, .cell (some (.ref C)), csl⟩
  top : (P.main.scope.names.lookup ("super" : Str)).isSome = false
  mro : PySem.W.mroIn K C (.ref C) = some true
  opq : PySem.W.nsIn K cStatics "thirdparty.any" = some none
  ini : PySem.W.ks_superIn K C C "__init__" = some (some (.ref g))
  ty : PySem.W.typeIn K (.ref g) = some (.type "function")
  fi : PySem.W.fnIn K g = true
theorem takes_ncx {P : Program} {w : World} {K : PySem.W.Frag} {mg : Str → Option Value} {base : Heap} {N : List Str} {F : NF} {f : Addr} {A : Around} {outer : List Env} {s : Shared} {H : Hp} {E : XK} : L2N.Takes (ncx (L2N.CX P w) P w K mg base N F f A outer s H E) (fun cls d _ H' => E cls d H') := L2N.takes_of rfl rfl rfl rfl
theorem wpAt_to' {M : Model} {A : Around} {c : Code} {α : Type} {m : Sem α} {Q Q' : α → Shared → Prop} {E : Value → Shared → Prop} {s : Shared} (h : _root_.PySem.wpAt M A c m Q E s) (hq : ∀ a s', Q a s' → Q' a s') : _root_.PySem.wpAt M A c m Q' E s := ks_wpAt_mono h hq fun _ _ z => z
/-- statements, then one more -/
theorem wp_snoc {M : Model} {Γ : PySem.Ctx} {env : Env} {last : Stmt} {QQ : Flow → Pos → Shared → Prop} {EE : Value → Pos → Shared → Prop} : ∀ (pre : List Stmt) (p : Pos) (s : Shared),
    Sem.wp M Γ (execs pre env) (fun f p' s' => match f with | .next => Sem.wp M Γ (exec last env) QQ EE p' s' | f => QQ f p' s') EE p s → Sem.wp M Γ (execs (pre ++ [last]) env) QQ EE p s
  | [], p, s, h => by
    have h : Sem.wp M Γ (exec last env) QQ EE p s := h
    show Sem.wp M Γ (execs [last] env) QQ EE p s
    rw [execs_cons, Sem.wp_bind']
    refine Sem.wp_mono M Γ _ (fun f p' s' h' => ?_) (fun _ _ _ h' => h') _ _ h
    cases f <;> exact h'
  | st :: pre, p, s, h => by
    rw [List.cons_append, execs_cons, Sem.wp_bind']
    rw [execs_cons, Sem.wp_bind'] at h
    refine Sem.wp_mono M Γ _ (fun f p' s' h' => ?_) (fun _ _ _ h' => h') _ _ h
    cases f
    case next => exact wp_snoc pre p' s' h'
    all_goals exact h'
theorem wpAt_execs_snoc {M : Model} {A : Around} {c : Code} {env : Env} {E : Value → Shared → Prop} {last : Stmt} {Q : Flow → Shared → Prop} {pre : List Stmt} {s : Shared}
    (h : _root_.PySem.wpAt M A c (execs pre env) (fun f s' => match f with | .next => _root_.PySem.wpAt M A c (exec last env) Q E s' | f => Q f s') E s) : _root_.PySem.wpAt M A c (execs (pre ++ [last]) env) Q E s := fun Γ p hc hΓ =>
  wp_snoc (QQ := fun a _ s' => Q a s') (EE := fun e _ s' => E e s') pre p s (Sem.wp_mono M Γ _ (fun f p' s' h' => by cases f <;> first | exact h' Γ p' hc hΓ | exact h') (fun _ _ _ h' => h') _ _ (h Γ p hc hΓ))
section
variable {P : Program} {w : World} {K : PySem.W.Frag} {mg : Str → Option Value} {base : Heap} {N ps : List Str} {F : NF} {f C a cc g : Addr} {A : Around} {outer : List Env} {s0 s : Shared} {H0 H : Hp} {E : XK} {σ : L2.St}
/-- super().__init__(e, ..) of an own base class -/
theorem super_stmt {pl : Sem Bool} {fd : FuncData} {ar : Arg} {t : TA} {e : Expr} {es : List Expr} {p0 p1 p2 pos pos2 : Pos} {k : Nat} {sp : Sp} {dx : Addr} {fs : List (Str × V)} {Qn : Hp → Prop} (S : SupP P K C f F.c cc g fd) (hcl : F.cl = [(("__class__" : Str), cc)]) (hp : (fd.params.posonlyargs ++ fd.params.args).head? = some ar)
    (hks : F.scope.names.lookup ("super" : Str) = some .globalImplicit) (hkc : F.scope.names.lookup ("__class__" : Str) = some .free) (hka : F.scope.names.lookup ar.arg = some .local) (hk : F.scope.kind = .function) (m_super : mg "super" = none)
    (hN : N[0]? = some ar.arg) (ha : PA (ncx (L2N.CX P w) P w K mg base N F f A outer s0 H0 E) (e :: es) t) (Fg : FnR P w K mg base (L2N.CX P w) k g sp) (hr : Room k (ncx (L2N.CX P w) P w K mg base N F f A outer s0 H0 E).A)
    (I : Inv (ncx (L2N.CX P w) P w K mg base N F f A outer s0 H0 E) [] σ H s) (hs : σ[0]? = some (some (.ref a))) (hx : H a = some (.ins C dx fs))
    (ht : t σ H fun vs H1 => sp (.ref a :: vs) H1 (fun _ H2 => Qn H2) E)
    (hint : interactive (ncx (L2N.CX P w) P w K mg base N F f A outer s0 H0 E).env = false := by rfl) (hsw : swapsWith (.Call (.Attribute (.Call (.Name "super" p0) [] [] p1) "__init__" p2) (e :: es) [] pos) none pos2.line (ncx (L2N.CX P w) P w K mg base N F f A outer s0 H0 E).env = pure false := by rfl)
    (hev : eval (.Call (.Attribute (.Call (.Name "super" p0) [] [] p1) "__init__" p2) (e :: es) [] pos) (ncx (L2N.CX P w) P w K mg base N F f A outer s0 H0 E).env = (do
      let ov ← attributeBase (.Call (.Name "super" p0) [] [] p1) "__init__" (ncx (L2N.CX P w) P w K mg base N F f A outer s0 H0 E).env (eval (.Call (.Name "super" p0) [] [] p1) (ncx (L2N.CX P w) P w K mg base N F f A outer s0 H0 E).env)
      standAt p2.atName
      let (g, first) ← holding [ov] (getMethod ov "__init__" pl)
      callWith pos g first (backTo pos (starEach (e :: es) (ncx (L2N.CX P w) P w K mg base N F f A outer s0 H0 E).env)) []) := by rfl)
    (he : starEach (e :: es) (ncx (L2N.CX P w) P w K mg base N F f A outer s0 H0 E).env = (false, eval e (ncx (L2N.CX P w) P w K mg base N F f A outer s0 H0 E).env) :: starEach es (ncx (L2N.CX P w) P w K mg base N F f A outer s0 H0 E).env := by rfl) (hpl : (backTo pos (starEach es (ncx (L2N.CX P w) P w K mg base N F f A outer s0 H0 E).env)).any (·.1) = false := by rfl) :
    _root_.PySem.wpAt (model P w) (ncx (L2N.CX P w) P w K mg base N F f A outer s0 H0 E).A (.func F.body (ncx (L2N.CX P w) P w K mg base N F f A outer s0 H0 E).env) (exec (.Expr (.Call (.Attribute (.Call (.Name "super" p0) [] [] p1) "__init__" p2) (e :: es) [] pos) pos2) (ncx (L2N.CX P w) P w K mg base N F f A outer s0 H0 E).env)
      (fun fl s' => fl = .next ∧ ∃ H1, Inv (ncx (L2N.CX P w) P w K mg base N F f A outer s0 H0 E) [] σ H1 s' ∧ Qn H1) (ncx (L2N.CX P w) P w K mg base N F f A outer s0 H0 E).xe s := by
  obtain ⟨oc, od, osl, lkf⟩ := S.lk
  obtain ⟨ccl, cdd, vs, ccs, file, tf, lkc, hvs, hfile⟩ := S.code
  obtain ⟨cl, cld, csl, lkcc⟩ := S.cell
  have KX : K.In s.heap := I.kIn
  obtain ⟨m, hn, hl⟩ := I.loc
  obtain ⟨u, ru, lu⟩ := hl 0 ar.arg (.ref a) hN hs (.inl hka)
  obtain rfl : u = .ref a := ru
  have hma : m ar.arg = some (.ref a) := by
    rcases lu with ⟨_, z⟩ | ⟨z, _⟩
    · exact z
    · rcases z with z | z
      · rw [show (ncx (L2N.CX P w) P w K mg base N F f A outer s0 H0 E).env.kindOf ar.arg = some .local from hka] at z; cases z
      · rw [show (ncx (L2N.CX P w) P w K mg base N F f A outer s0 H0 E).env.kindOf ar.arg = some .local from hka] at z; cases z
  obtain ⟨mA, J, _⟩ := ins_get I.hok hx
  obtain ⟨oda, J, _⟩ := J.look
  cases hc : PySem.W.clsIn K C with
  | none =>
    have hm := S.ini
    unfold PySem.W.ks_superIn at hm
    rw [hc] at hm
    cases hm
  | some cd =>
    obtain ⟨oC, hC1, hC2⟩ : ∃ oC, s.heap.get? C = some oC ∧ oC.data = .cls cd := by
      unfold PySem.W.clsIn at hc
      split at hc
      · rename_i c d cd' sl ho
        cases hc
        exact ⟨_, KX _ _ ho, rfl⟩
      · cases hc
    refine ks_wpAt_Expr_any (ks_wpAt_MethodCall ?_ hev) hint hsw
    refine ks_wpAt_super_base (env := (ncx (L2N.CX P w) P w K mg base N F f A outer s0 H0 E).env) (cc := F.c) hks hkc (by decide) rfl (KX _ _ lkf) rfl hp rfl (KX _ _ lkc) rfl hvs hfile S.top ?_
    obtain ⟨mb, h1, h2⟩ := I.mod.blt
    refine PySem.W.ks_loadName_global hk hks (Calls.loadGlobal_builtin (by rw [I.ok.glob]; exact I.mod.glob.keeps I.bk) m_super (by rw [I.ok.blt]; exact h1.keeps I.bk) ((h2 "super" (by decide)).trans (by decide +kernel)) ⟨rfl, ?_⟩)
    refine wpAny_loadName_free hk hkc (c := cc) (by show F.cl.lookup _ = _; rw [hcl]; rfl) ⟨_, KX _ _ lkcc, rfl⟩ ?_
    refine wpAny_loadName_local hk hka hn hma ?_
    refine ks_wpAny_isType_cls hC1 hC2 ⟨rfl, ?_⟩
    obtain ⟨hh, gn, d, tk, os⟩ := s
    refine ks_wpAny_call_super hC1 hC2 J.at_ J.cls (fun c z => ?_) (PySem.W.looks_mroIn KX S.mro) (fun h' eso kso => ?_)
    · have := J.no
      unfold PySem.W.notCls at this
      rw [z] at this
      exact Bool.noConfusion this
    have I2 : Inv (ncx (L2N.CX P w) P w K mg base N F f A outer s0 H0 E) [] σ H ⟨h', gn, d, tk, os⟩ := I.kept kso
    have KX2 : K.In h' := I2.kIn
    obtain ⟨mA2, J2, _⟩ := ins_get I2.hok hx
    obtain ⟨oda2, J2, _⟩ := J2.look
    have hm := S.ini
    unfold PySem.W.ks_superIn at hm
    rw [hc] at hm
    obtain ⟨of, hof, hofc⟩ : ∃ of, h'.get? g = some of ∧ of.cls = .type "function" := by
      have ht' : (K.lookup g).map (·.cls) = some (.type "function") := S.ty
      cases z : K.lookup g with
      | none => rw [z] at ht'; cases ht'
      | some of => rw [z] at ht'; exact ⟨of, KX2 _ _ z, Option.some.inj ht'⟩
    refine ks_wpAny_getMethod_super eso (PySem.W.looks_opaque KX2 S.opq) (l₀ := cd.mro) ?_ rfl KX2 hm hof hofc (PySem.W.ks_ne KX2 J2 hc) (by decide) ?_
    · exact fun A Q E s k q => wpAny_bind ((PySem.W.looks_clsIn KX2 hc) A _ E s k (wpAny_pure q))
    have I3 := ClX.met_new (g := g) (C := a) I2
    refine ClX.callwith_cm I3 (ClX.base_none I2 (Nat.le_refl _)) S.fi ?_ he hpl
    have hrun := ha.run pos _ _ σ H _ I3 ht
    refine thn hrun fun us s3 ⟨ws, H3, I4, r, q1⟩ => ?_
    refine ⟨⟨ClX.pin_at I4, I4.kIn⟩, ?_⟩
    refine thn (ClX.run_cm Fg hr (L2N.passes_call takes_ncx (fun _ _ _ _ h => h)) I4 r q1) fun v s' ⟨_, H4, I5, _, q2⟩ => ⟨rfl, H4, I5, q2⟩
/-- THE RULE: a method that ends with super().__init__(..), the statements ahead by their readings -/
theorem sup_last {pl : Sem Bool} {fd : FuncData} {dV kV doc pm ct : Value} {an : Option Addr} {ar : Arg} {j k : Nat} {sp spB : Sp} {e : Expr} {es : List Expr} {p0 p1 p2 pos pos2 : Pos} {pre : List Stmt} (hfd : fd = PySem.W.fnX F.name F.qual F.params F.body F.scope F.cl dV kV doc pm an (.ref F.c) ct)
    (S : SupP P K C f F.c cc g fd) (hcd : PySem.W.codeIn K (.ref F.c) F.qual = true) (NS : NScope N ps ["__class__"] F.scope) (hcl : F.cl = [(("__class__" : Str), cc)]) (hp : (F.params.posonlyargs ++ F.params.args).head? = some ar) (hks : F.scope.names.lookup ("super" : Str) = some .globalImplicit) (m_super : mg "super" = none)
    (hN : N[0]? = some ar.arg) (hka : F.scope.names.lookup ar.arg = some .local)
    (hb : F.body = pre ++ [.Expr (.Call (.Attribute (.Call (.Name "super" p0) [] [] p1) "__init__" p2) (e :: es) [] pos) pos2]) (Fg : FnR P w K mg base (L2N.CX P w) k g spB) (hkj : k ≤ j)
    (len : ∀ vs H Q E, sp vs H Q E → vs.length = ps.length)
    (hint : ∀ (A : Around) (outer : List Env) (s : Shared) (H : Hp) (E : XK), interactive (ncx (L2N.CX P w) P w K mg base N F f A outer s H E).env = false)
    (hsw : ∀ (A : Around) (outer : List Env) (s : Shared) (H : Hp) (E : XK), swapsWith (.Call (.Attribute (.Call (.Name "super" p0) [] [] p1) "__init__" p2) (e :: es) [] pos) none pos2.line (ncx (L2N.CX P w) P w K mg base N F f A outer s H E).env = pure false)
    (hev : ∀ (A : Around) (outer : List Env) (s : Shared) (H : Hp) (E : XK), eval (.Call (.Attribute (.Call (.Name "super" p0) [] [] p1) "__init__" p2) (e :: es) [] pos) (ncx (L2N.CX P w) P w K mg base N F f A outer s H E).env = (do
      let ov ← attributeBase (.Call (.Name "super" p0) [] [] p1) "__init__" (ncx (L2N.CX P w) P w K mg base N F f A outer s H E).env (eval (.Call (.Name "super" p0) [] [] p1) (ncx (L2N.CX P w) P w K mg base N F f A outer s H E).env)
      standAt p2.atName
      let (g, first) ← holding [ov] (getMethod ov "__init__" pl)
      callWith pos g first (backTo pos (starEach (e :: es) (ncx (L2N.CX P w) P w K mg base N F f A outer s H E).env)) []))
    (he : ∀ (A : Around) (outer : List Env) (s : Shared) (H : Hp) (E : XK), starEach (e :: es) (ncx (L2N.CX P w) P w K mg base N F f A outer s H E).env = (false, eval e (ncx (L2N.CX P w) P w K mg base N F f A outer s H E).env) :: starEach es (ncx (L2N.CX P w) P w K mg base N F f A outer s H E).env)
    (hpl : ∀ (A : Around) (outer : List Env) (s : Shared) (H : Hp) (E : XK), (backTo pos (starEach es (ncx (L2N.CX P w) P w K mg base N F f A outer s H E).env)).any (·.1) = false)
    (hrest : ∀ (A : Around) (outer : List Env) (s : Shared) (H : Hp) (vs : List V) (Q : VK) (E : XK), Room j (ncx (L2N.CX P w) P w K mg base N F f A outer s H E).A → sp vs H Q E → ∃ t ta, PSs (ncx (L2N.CX P w) P w K mg base N F f A outer s H E) pre t ∧ PA (ncx (L2N.CX P w) P w K mg base N F f A outer s H E) (e :: es) ta ∧
      t { nx := fun σ1 H1 => ∃ (a dx : Addr) (fs : List (Str × V)), σ1[0]? = some (some (.ref a)) ∧ H1 a = some (.ins C dx fs) ∧ ta σ1 H1 fun ws H2 => spB (.ref a :: ws) H2 (fun _ H3 => Q .non H3) E, rt := Q } (startF N vs [some (.ref C)]) H) : FnOk P w K mg base (L2N.CX P w) (j + 1) f fd ps sp := by
  refine ⟨len, fun A outer s H args us vs Q E hr e0 hbn r hsp => ?_⟩
  have hl := len _ _ _ _ hsp
  have KX : K.In s.heap := e0.mod.kin.keeps fun b o e => (e0.bs b o e).1
  have lim : s.heap.NoLimit := e0.mod.nolimit.keeps fun b o e => (e0.bs b o e).1
  obtain ⟨oc, od, osl, lkf⟩ := S.lk
  obtain ⟨cl, cld, csl, lkcc⟩ := S.cell
  have CA : CellsAt F.cl ["__class__"] [some (.ref C)] s.heap H := by
    refine ⟨rfl, fun y c e => ?_, fun x y c e1 e2 => ?_, fun i y e => ?_⟩
    · rw [hcl] at e
      have ec : c = cc := by
        unfold List.lookup at e
        split at e
        · exact (Option.some.inj e).symm
        · cases e
      subst ec
      exact ⟨(e0.bs _ _ (e0.mod.kin _ _ lkcc)).2, _, _, KX _ _ lkcc, rfl⟩
    · rw [hcl] at e1 e2
      have k : ∀ z : Str, ([(("__class__" : Str), cc)] : List (Str × Addr)).lookup z = some c → z = "__class__" := fun z e => by
        unfold List.lookup at e
        split at e
        · next h => exact beq_iff_eq.mp h
        · cases e
      rw [k x e1, k y e2]
    · have ey : y = "__class__" := by
        cases i with
        | zero => exact (Option.some.inj e).symm
        | succ i => cases e
      subst ey
      refine ⟨cc, by rw [hcl]; rfl, fun v hv => ?_⟩
      have ei : i = 0 := by
        cases i with
        | zero => rfl
        | succ i => cases e
      subst ei
      obtain rfl : V.ref C = v := Option.some.inj (Option.some.inj hv)
      exact ⟨.ref C, rfl, _, KX _ _ lkcc, rfl⟩
  subst hfd
  refine ks_codeAny_call_defAt hr.depth (KX _ _ lkf) rfl lim (PySem.W.codeRec_of KX hcd) rfl hbn NS.nocell (fun ⟨n, _⟩ hy => NS.par n (List.of_mem_zip hy).1) (fun h₁ hns kp => ?_) NS.co NS.gen NS.kind
  show _root_.PySem.wpAt _ (ncx (L2N.CX P w) P w K mg base N F f A outer s H E).A (.func F.body (ncx (L2N.CX P w) P w K mg base N F f A outer s H E).env) (execs F.body (ncx (L2N.CX P w) P w K mg base N F f A outer s H E).env) _ (ncx (L2N.CX P w) P w K mg base N F f A outer s H E).xe _
  have I : Inv (ncx (L2N.CX P w) P w K mg base N F f A outer s H E) [] (startF N vs [some (.ref C)]) H { s with heap := h₁, toks := s.toks + (ps.zip us).length } := inv_startN NS hr.hd e0 hl r CA hns kp
  have hrN : Room j (ncx (L2N.CX P w) P w K mg base N F f A outer s H E).A := hr.deeper _
  obtain ⟨t, ta, ht, hta, hq⟩ := hrest A outer s H vs Q E hrN hsp
  have fin : ∀ {σ' : L2.St} {H' : Hp} {v : V} {u : Value} {s' : Shared}, Inv (ncx (L2N.CX P w) P w K mg base N F f A outer s H E) [] σ' H' s' → L2.RelV v u → Q v H' → CE outer P w H s Q u s' :=
    fun {σ' H' v u s'} J rv q => ⟨v, H', J.os, J.bare, J.base, J.hok, rv, q⟩
  rw [show execs F.body (ncx (L2N.CX P w) P w K mg base N F f A outer s H E).env = execs (pre ++ [.Expr (.Call (.Attribute (.Call (.Name "super" p0) [] [] p1) "__init__" p2) (e :: es) [] pos) pos2]) (ncx (L2N.CX P w) P w K mg base N F f A outer s H E).env by rw [hb]]
  refine wpAt_execs_snoc (wpAt_of_wpAny (wpAny_mono (ht.run [] _ _ H _ I hq) (fun fl s' hs => ?_) fun e s' hs => hs))
  cases fl with
  | ret u =>
    obtain ⟨v, σ', H', J, rv, q⟩ := hs
    exact fin J rv q
  | next =>
    obtain ⟨σ', H', J, a, dx, fs, hσ, hx, q⟩ := hs
    refine wpAt_to' (super_stmt (Qn := fun H3 => Q .non H3) S hcl hp hks (NS.frk _ (List.mem_cons_self ..)) hka NS.kind m_super hN hta Fg (hrN.mono hkj) J hσ hx q (hint A outer s H E) (hsw A outer s H E) (hev A outer s H E) (he A outer s H E) (hpl A outer s H E)) ?_
    rintro fl s1 ⟨rfl, H1, I1, q1⟩
    exact fin (v := V.non) (u := Value.none) I1 rfl q1
  | brk =>
    obtain ⟨_, _, _, q⟩ := hs
    exact False.elim q
  | cont =>
    obtain ⟨_, _, _, q⟩ := hs
    exact False.elim q
end
end Z
set_option Elab.async false
set_option linter.all false
set_option maxRecDepth 100000
set_option maxHeartbeats 4000000
namespace Z
open PySem PySem.Spec PyProof.Rows L2
/-! ### a class made by its name: the promise speaks of the made instance alone; it may raise -/
structure MakY (P : Program) (w : World) (K : PySem.W.Frag) (mg : Str → Option Value) (base : Heap) (k : Nat) (x : Str) (sp : Sp) : Prop where
  ex : ∃ (C : Addr) (si : Sp), MakX P w K mg base k x C si ∧ ∀ vs H Q E, sp vs H Q E → ∀ n dx, H n = none → H dx = none → dx ≠ n → si (.ref n :: vs) (upd (upd H dx (.own n)) n (.ins C dx [])) (fun v H2 => v = .non ∧ Q (.ref n) H2) E
section
variable {X : Cx} {k j : Nat} {x : Str} {sp : Sp} {E : L2.St → XK} {p pos : Pos} {e : Expr} {es : List Expr} {t : TA}
theorem pe_mkY (c : MakY X.prog X.w X.K X.mg X.base k x sp) (hx : ∀ σ, PassesAt (L2N.CX X.prog X.w) X σ (E σ)) (hr : Room j X.A) (hk : k + 1 ≤ j) (hg : Gl X x) (ha : PA X (e :: es) t) (hdb : (x == ("__debug__" : Str)) = false := by decide) (he : starEach (e :: es) X.env = (false, eval e X.env) :: starEach es X.env := by rfl) (hpl : (backTo pos (starEach es X.env)).any (·.1) = false := by rfl) :
    PE X (.Call (.Name x p) (e :: es) [] pos) (fun σ H Q => t σ H fun vs H1 => sp vs H1 Q (E σ)) := by
  obtain ⟨C, si, ⟨f, fd, ps, M, F, hm, b⟩, imp⟩ := c.ex
  constructor
  intro pins s σ H Q I h
  refine wpAny_Call_Name_kw (ld_glob I hg hm ?_ hdb)
  refine PySem.W.callWith_K (h₀ := X.base) I.ok.mod.kin M.kp (thn (ha.run pos pins s σ H _ I h) fun us s1 z => ?_) he hpl
  obtain ⟨vs, H1, I1, rr, q⟩ := z
  refine ⟨I1.kIn, ?_⟩
  obtain ⟨n, hn⟩ : ∃ n, n = s1.heap.objs.size := ⟨_, rfl⟩
  have q1 := imp _ _ _ _ q (n + 1) n (I1.hok.fresh (by rw [hn]; exact Nat.le_succ _)) (I1.hok.fresh (by rw [hn]; exact Nat.le_refl _)) (Nat.ne_of_lt (Nat.lt_succ_self _))
  subst hn
  have J := Inv.made (C := C) I1
  have r3 : Vals (V.ref (s1.heap.objs.size + 1) :: vs) (Value.ref (s1.heap.objs.size + 1) :: us) := .cons rfl rr
  have b3 := b { s1 with heap := (s1.heap.push PySem.W.emptyDict).push (PySem.W.instObj C s1.heap.objs.size) } (Value.ref (s1.heap.objs.size + 1) :: us) J.kIn (by rw [List.append_nil, ← r3.length]; exact F.len _ _ _ _ q1)
  rw [List.append_nil] at b3
  have run := F.run _ X.stack _ _ _ _ _ _ _ ((hr.mono hk).make C us []) (J.env0.make C us []) b3 r3 q1
  refine wpAny_call (make_map (f := f) I1.kIn M.makes M.init (beq_iff_eq.mp M.fn) (codeAny_mono run fun r s' hq => ?_))
  have z := back_at (hx σ) J r s' hq
  match r, z with
  | .error e, z => exact z
  | .ok (.ret u), ⟨v, H', J', rv, ev, q3⟩ =>
    subst ev
    exact ⟨rv, V.ref (s1.heap.objs.size + 1), H', J', rfl, q3⟩
end
end Z
set_option Elab.async false
set_option linter.all false
set_option maxRecDepth 100000
set_option maxHeartbeats 4000000
namespace Z
open PySem PySem.Spec PyProof.Rows L2
/-! ### max(xs, default=d), xs a list of ints -/
def mxD (d : Int) (ns : List Int) : Int := match ns with | [] => d | n :: r => r.foldl max n
def rMaxD (K : PySem.W.Frag) : List V → List V → Hp → VK → Prop := fun vs zs H Q => ∃ (a : Addr) (ns : List Int) (d : Int), vs = [.ref a] ∧ zs = [.int d] ∧ SqL K H a (ns.map V.int) ∧ Q (.int (mxD d ns)) H
theorem holdI {h : Heap} : ∀ {ns : List Int} {us : List Value}, Vals (ns.map V.int) us → PySem.W.HoldAll h us ns
  | [], _, .nil => PySem.W.HoldAll.nil
  | n :: ns, _, .cons r rs => by
    obtain ⟨t, rfl⟩ := r
    exact PySem.W.HoldAll.cons (PySem.W.holds_int n t) (holdI rs)
theorem maxOf_int : ∀ (r : List Int) (n : Int), PySem.W.maxOf n r = r.foldl max n
  | [], n => rfl
  | x :: r, n => by
    have e : (if PySem.W.DatumOrd.lt n x = true then x else n) = max n x := by
      show (if decide (n < x) = true then x else n) = max n x
      by_cases h : n < x
      · rw [decide_eq_true h, if_pos rfl]
        omega
      · rw [decide_eq_false h, if_neg (by decide)]
        omega
    show PySem.W.maxOf (if PySem.W.DatumOrd.lt n x = true then x else n) r = r.foldl max (max n x)
    rw [e, maxOf_int r]
theorem cr_maxD {X : Cx} (hc : X.calm = true) (hu : X.A.units + 64 < cLine) : CallRK X (.builtin "max") [Str.ofString "default"] (rMaxD X.K) := by
  intro pins s σ H vs zs us ws Q I r rz h
  obtain ⟨a, ns, d, rfl, rfl, hs, q⟩ := h
  obtain rfl := Vals.ref1 r
  obtain ⟨w1, rfl, t, rfl⟩ := vals1 rz
  obtain ⟨its, rv, hl, hz⟩ := I.list hs
  refine PySem.W.max_list_datum_default (α := Int) (I.ok.hd hc) hl.isList (holdI rv) (by show X.A.units + 1 + 0 < cLine; omega) (fun e h' tk k => ?_) (fun y ys i v h' tk e hi hv k => ?_)
  · subst e
    exact ⟨.int d, H, I.kept k, ⟨_, rfl⟩, q⟩
  · subst e
    obtain ⟨m, t2, rfl⟩ : ∃ m t2, v = .int m t2 := by
      have hj : its[i]? = some v := by simpa using hi
      have hlt := (List.getElem?_eq_some_iff.mp hj).1
      have e1 := rv.length
      obtain ⟨z, hz2⟩ : ∃ z, ((y :: ys).map V.int)[i]? = some z := ⟨_, List.getElem?_eq_getElem (by omega)⟩
      obtain ⟨z2, e2, rz2⟩ := Vals.get rv hz2
      rw [hj] at e2
      cases e2
      rw [List.getElem?_map] at hz2
      cases e3 : (y :: ys)[i]? with
      | none => rw [e3] at hz2; cases hz2
      | some n =>
        rw [e3] at hz2
        cases hz2
        obtain ⟨t2, e4⟩ := rz2
        exact ⟨n, t2, e4⟩
    obtain ⟨as, hr⟩ := hv
    have em : PySem.W.maxOf y ys = m := by
      have hr : Reads h' (.int m t2) (.int (PySem.W.maxOf y ys)) as := hr
      cases hr
      rfl
    rw [maxOf_int] at em
    refine ⟨.int m, H, I.kept k, ⟨_, rfl⟩, ?_⟩
    rw [← em]
    exact q
end Z
set_option linter.all false
set_option maxRecDepth 100000
namespace Pk
/-! ### pacts as data -/
inductive Pt where
  | tr (p q m : Nat)
  | ev (k : Nat)
  | ch (o : Nat) (os : List (List Pt))
  | rd (o : Nat) (b : List Pt)
  | en (b : List Pt)
  | ti (c : Nat) (b : List Pt)
mutual
def wt : Pt → Nat
  | .tr _ _ _ => 1
  | .ev _ => 1
  | .ch _ os => 1 + wtLL os
  | .rd _ b => wtL b + 1
  | .en b => wtL b + 1
  | .ti c b => wtL b * (if c < 1 then 1 else c) + 1
def wtL : List Pt → Nat
  | [] => 0
  | p :: l => wt p + wtL l
def wtLL : List (List Pt) → Nat
  | [] => 0
  | b :: l => wtL b + wtLL l
end
mutual
def dp : Pt → Nat
  | .tr _ _ _ => 1
  | .ev _ => 1
  | .ch _ os => 1 + dpLL os
  | .rd _ b => dpL b + 1
  | .en b => dpL b + 1
  | .ti _ b => dpL b + 1
def dpL : List Pt → Nat
  | [] => 0
  | p :: l => max (dp p) (dpL l)
def dpLL : List (List Pt) → Nat
  | [] => 0
  | b :: l => max (dpL b) (dpLL l)
end
def dig (n : Nat) : List Nat := (Nat.toDigits 10 n).map Char.toNat
/-- texts with a text between them -/
def jn (s : List Nat) : List (List Nat) → List Nat
  | [] => []
  | [a] => a
  | a :: b :: r => a ++ s ++ jn s (b :: r)
mutual
def tx : Pt → List Nat
  | .tr p q m => [p] ++ [q] ++ dig m
  | .ev k => [k]
  | .ch o os => [o] ++ [40] ++ jn [32, 124, 32] (txLL os) ++ [41]
  | .rd o b => [o] ++ [91] ++ txB b ++ [93]
  | .en b => [91] ++ txB b ++ [93]
  | .ti c b => dig c ++ [40] ++ txB b ++ [41]
def txs : List Pt → List (List Nat)
  | [] => []
  | p :: l => tx p :: txs l
def txB : List Pt → List Nat
  | [] => [46]
  | p :: l => jn [44, 32] (tx p :: txs l)
def txLL : List (List Pt) → List (List Nat)
  | [] => []
  | b :: l => txB b :: txLL l
end
theorem txB_cons (p : Pt) (l : List Pt) : txB (p :: l) = jn [44, 32] (txs (p :: l)) := by
  rw [txB, txs]
theorem wtL_app : ∀ l m : List Pt, wtL (l ++ m) = wtL l + wtL m
  | [], m => by rw [List.nil_append, wtL, Nat.zero_add]
  | p :: l, m => by rw [List.cons_append, wtL, wtL, wtL_app l m, Nat.add_assoc]
theorem dpL_app : ∀ l m : List Pt, dpL (l ++ m) = max (dpL l) (dpL m)
  | [], m => by rw [List.nil_append, dpL]; omega
  | p :: l, m => by rw [List.cons_append, dpL, dpL, dpL_app l m]; omega
theorem wt_pos : ∀ p : Pt, 1 ≤ wt p := fun p => by cases p <;> rw [wt] <;> omega
theorem wtL_sum : ∀ l : List Pt, wtL l = (l.map wt).sum
  | [] => by rw [wtL]; rfl
  | p :: l => by rw [wtL, wtL_sum l]; rfl
theorem wtLL_sum : ∀ l : List (List Pt), wtLL l = (l.map wtL).sum
  | [] => by rw [wtLL]; rfl
  | p :: l => by rw [wtLL, wtLL_sum l]; rfl
theorem txs_map : ∀ l : List Pt, txs l = l.map tx
  | [] => by rw [txs]; rfl
  | p :: l => by rw [txs, txs_map l]; rfl
theorem txLL_map : ∀ l : List (List Pt), txLL l = l.map txB
  | [] => by rw [txLL]; rfl
  | p :: l => by rw [txLL, txLL_map l]; rfl
theorem le_sum : ∀ {l : List Nat} {x : Nat}, x ∈ l → x ≤ l.sum
  | y :: l, x, h => by
    rw [List.sum_cons]
    rcases List.mem_cons.mp h with h | h
    · omega
    · have := le_sum h
      omega
theorem wtL_mem {p : Pt} {l : List Pt} (h : p ∈ l) : wt p ≤ wtL l := by
  rw [wtL_sum]
  exact le_sum (List.mem_map.mpr ⟨p, h, rfl⟩)
theorem dpL_mem {p : Pt} : ∀ {l : List Pt}, p ∈ l → dp p ≤ dpL l
  | q :: l, h => by
    rw [dpL]
    rcases List.mem_cons.mp h with h | h
    · rw [h]; omega
    · have := dpL_mem h
      omega
theorem wtLL_mem {b : List Pt} {l : List (List Pt)} (h : b ∈ l) : wtL b ≤ wtLL l := by
  rw [wtLL_sum]
  exact le_sum (List.mem_map.mpr ⟨b, h, rfl⟩)
theorem dpLL_mem {b : List Pt} : ∀ {l : List (List Pt)}, b ∈ l → dpL b ≤ dpLL l
  | q :: l, h => by
    rw [dpLL]
    rcases List.mem_cons.mp h with h | h
    · rw [h]; omega
    · have := dpLL_mem h
      omega
/-! ### right pacts -/
def PAR : List Nat := [97, 98, 99, 100, 101, 102]
def MRK : List Nat := (List.range 26).map (· + 65)
mutual
def Ok : Pt → Prop
  | .tr p q m => p ∈ PAR ∧ q ∈ PAR ∧ p ≠ q ∧ m ≤ 10 ^ 60
  | .ev k => k ∈ MRK
  | .ch o os => o ∈ PAR ∧ 2 ≤ os.length ∧ os.length ≤ 6 ∧ OkLL os
  | .rd o b => o ∈ PAR ∧ OkL b
  | .en b => OkL b
  | .ti c b => c ≤ 100 ∧ OkL b
def OkL : List Pt → Prop
  | [] => True
  | p :: l => Ok p ∧ OkL l
def OkLL : List (List Pt) → Prop
  | [] => True
  | b :: l => OkL b ∧ OkLL l
end
theorem okL_iff : ∀ {l : List Pt}, OkL l ↔ ∀ p ∈ l, Ok p
  | [] => ⟨fun _ p h => absurd h List.not_mem_nil, fun _ => by rw [OkL]; trivial⟩
  | q :: l => by
    rw [OkL, okL_iff (l := l)]
    exact ⟨fun ⟨a, b⟩ p h => by
      rcases List.mem_cons.mp h with h | h
      · rw [h]; exact a
      · exact b p h, fun h => ⟨h q List.mem_cons_self, fun p hp => h p (List.mem_cons_of_mem _ hp)⟩⟩
theorem okLL_iff : ∀ {l : List (List Pt)}, OkLL l ↔ ∀ p ∈ l, OkL p
  | [] => ⟨fun _ p h => absurd h List.not_mem_nil, fun _ => by rw [OkLL]; trivial⟩
  | q :: l => by
    rw [OkLL, okLL_iff (l := l)]
    exact ⟨fun ⟨a, b⟩ p h => by
      rcases List.mem_cons.mp h with h | h
      · rw [h]; exact a
      · exact b p h, fun h => ⟨h q List.mem_cons_self, fun p hp => h p (List.mem_cons_of_mem _ hp)⟩⟩
/-! ### how long the texts are -/
theorem dig_len {m : Nat} (h : m ≤ 10 ^ 60) : (dig m).length ≤ 61 := by
  unfold dig
  rw [List.length_map]
  exact (Nat.length_toDigits_le_iff (by decide) (by decide)).mpr (by omega)
theorem dig_len3 {m : Nat} (h : m ≤ 100) : (dig m).length ≤ 3 := by
  unfold dig
  rw [List.length_map]
  exact (Nat.length_toDigits_le_iff (by decide) (by decide)).mpr (by omega)
theorem jn_len (s : List Nat) : ∀ ts : List (List Nat), (jn s ts).length ≤ (ts.map fun t => t.length + s.length).sum
  | [] => Nat.zero_le _
  | [a] => by
    show a.length ≤ _
    simp
  | a :: b :: r => by
    have := jn_len s (b :: r)
    show (a ++ s ++ jn s (b :: r)).length ≤ _
    rw [List.map_cons, List.sum_cons, List.length_append, List.length_append]
    omega
mutual
theorem tx_len : ∀ p : Pt, Ok p → (tx p).length + 2 ≤ 66 * wt p
  | .tr p q m, h => by
    rw [Ok] at h
    have := dig_len h.2.2.2
    rw [tx, wt]
    simp only [List.length_append, List.length_cons, List.length_nil]
    omega
  | .ev k, h => by
    rw [tx, wt]
    show 1 + 2 ≤ 66 * 1
    decide
  | .ch o os, h => by
    rw [Ok] at h
    have h1 := txLL_len os h.2.2.2
    have h2 : (jn [32, 124, 32] (txLL os)).length ≤ ((txLL os).map fun t => t.length + 3).sum := jn_len [32, 124, 32] (txLL os)
    rw [tx, wt]
    simp only [List.length_append, List.length_cons, List.length_nil]
    omega
  | .rd o b, h => by
    rw [Ok] at h
    have := txB_len b h.2
    rw [tx, wt]
    simp only [List.length_append, List.length_cons, List.length_nil]
    omega
  | .en b, h => by
    rw [Ok] at h
    have := txB_len b h
    rw [tx, wt]
    simp only [List.length_append, List.length_cons, List.length_nil]
    omega
  | .ti c b, h => by
    rw [Ok] at h
    have := txB_len b h.2
    have h3 := dig_len3 h.1
    have h4 : wtL b ≤ wtL b * (if c < 1 then 1 else c) := Nat.le_mul_of_pos_right _ (by split <;> omega)
    rw [tx, wt]
    simp only [List.length_append, List.length_cons, List.length_nil]
    omega
theorem txs_len : ∀ l : List Pt, OkL l → ((txs l).map fun t => t.length + 2).sum ≤ 66 * wtL l
  | [], h => by rw [txs]; exact Nat.zero_le _
  | p :: l, h => by
    rw [OkL] at h
    have h1 := tx_len p h.1
    have h2 := txs_len l h.2
    rw [txs, wtL, List.map_cons, List.sum_cons]
    omega
theorem txB_len : ∀ l : List Pt, OkL l → (txB l).length ≤ 66 * wtL l + 1
  | [], h => by rw [txB, wtL]; decide
  | p :: l, h => by
    rw [OkL] at h
    have h1 := tx_len p h.1
    have h2 := txs_len l h.2
    have h3 : (jn [44, 32] (tx p :: txs l)).length ≤ ((tx p :: txs l).map fun t => t.length + 2).sum := jn_len [44, 32] (tx p :: txs l)
    rw [txB, wtL]
    rw [List.map_cons, List.sum_cons] at h3
    omega
theorem txLL_len : ∀ l : List (List Pt), OkLL l → ((txLL l).map fun t => t.length + 3).sum ≤ 66 * wtLL l + 4 * l.length
  | [], h => by rw [txLL]; exact Nat.zero_le _
  | b :: l, h => by
    rw [OkLL] at h
    have h1 := txB_len b h.1
    have h2 := txLL_len l h.2
    rw [txLL, wtLL, List.map_cons, List.sum_cons, List.length_cons]
    omega
end
end Pk
set_option Elab.async false
set_option linter.all false
set_option maxRecDepth 100000
set_option maxHeartbeats 4000000
namespace Z
open PySem PySem.Spec PyProof.Rows L2 Pk
open SX (S S_inj S_len S_cat)
/-! ### pacts in the heap -/
/-- the classes -/
structure Cs where
  T : Addr
  E : Addr
  C : Addr
  R : Addr
  N : Addr
  M : Addr
  P : Addr
def tl3 (w d : Nat) (t : List Nat) : List (Str × V) := [("weight", .int (w : Int)), ("depth", .int (d : Int)), ("text", .str (S t))]
def tlP (p : Pt) : List (Str × V) := tl3 (wt p) (dp p) (tx p)
/-- the fields of a pact -/
def pfl (t : Addr) (l : List Pt) : List (Str × V) := ("parts", .ref t) :: tl3 (wtL l) (dpL l) (txB l)
mutual
def PtAt (c : Cs) (K : PySem.W.Frag) (H : Hp) : Pt → Addr → Prop
  | .tr p q m, a => ∃ dx, H a = some (.ins c.T dx (("payer", .str (S [p])) :: ("payee", .str (S [q])) :: ("amount", .int (m : Int)) :: tlP (.tr p q m)))
  | .ev k, a => ∃ dx, H a = some (.ins c.E dx (("mark", .str (S [k])) :: tlP (.ev k)))
  | .ch o os, a => ∃ (dx t : Addr) (as : List Addr), H a = some (.ins c.C dx (("owner", .str (S [o])) :: ("options", .ref t) :: tlP (.ch o os))) ∧ SqT K H t (as.map V.ref) ∧ PasAt c K H os as
  | .rd o b, a => ∃ (dx x dy t : Addr) (as : List Addr), H a = some (.ins c.R dx (("owner", .str (S [o])) :: ("body", .ref x) :: tlP (.rd o b))) ∧ H x = some (.ins c.P dy (pfl t b)) ∧ SqT K H t (as.map V.ref) ∧ PtsAt c K H b as
  | .en b, a => ∃ (dx x dy t : Addr) (as : List Addr), H a = some (.ins c.N dx (("body", .ref x) :: tlP (.en b))) ∧ H x = some (.ins c.P dy (pfl t b)) ∧ SqT K H t (as.map V.ref) ∧ PtsAt c K H b as
  | .ti n b, a => ∃ (dx x dy t : Addr) (as : List Addr), H a = some (.ins c.M dx (("count", .int (n : Int)) :: ("body", .ref x) :: tlP (.ti n b))) ∧ H x = some (.ins c.P dy (pfl t b)) ∧ SqT K H t (as.map V.ref) ∧ PtsAt c K H b as
def PtsAt (c : Cs) (K : PySem.W.Frag) (H : Hp) : List Pt → List Addr → Prop
  | [], as => as = []
  | p :: l, as => ∃ a r, as = a :: r ∧ PtAt c K H p a ∧ PtsAt c K H l r
def PasAt (c : Cs) (K : PySem.W.Frag) (H : Hp) : List (List Pt) → List Addr → Prop
  | [], as => as = []
  | b :: l, as => ∃ x r, as = x :: r ∧ (∃ (dy t : Addr) (bs : List Addr), H x = some (.ins c.P dy (pfl t b)) ∧ SqT K H t (bs.map V.ref) ∧ PtsAt c K H b bs) ∧ PasAt c K H l r
end
/-- a pact -/
def PaAt (c : Cs) (K : PySem.W.Frag) (H : Hp) (b : List Pt) (x : Addr) : Prop := ∃ (dy t : Addr) (as : List Addr), H x = some (.ins c.P dy (pfl t b)) ∧ SqT K H t (as.map V.ref) ∧ PtsAt c K H b as
/-- all that is no new instance and no list stands as before -/
def SmW (H H' : Hp) : Prop := ∀ a o, H a = some o → (∀ C dx, o ≠ .ins C dx []) → (∀ xs, o ≠ .lst xs) → H' a = some o
/-- all that is no new instance stands as before -/
def SmN (H H' : Hp) : Prop := ∀ a o, H a = some o → (∀ C dx, o ≠ .ins C dx []) → H' a = some o
section
variable {c : Cs} {K : PySem.W.Frag} {H H' : Hp}
theorem SmN.ins (s : SmN H H') {a C dx : Addr} {x : Str × V} {fs : List (Str × V)} (h : H a = some (.ins C dx (x :: fs))) : H' a = some (.ins C dx (x :: fs)) := s _ _ h (fun _ _ z => by cases z)
theorem SmW.ins (s : SmW H H') {a C dx : Addr} {x : Str × V} {fs : List (Str × V)} (h : H a = some (.ins C dx (x :: fs))) : H' a = some (.ins C dx (x :: fs)) := s _ _ h (fun _ _ z => by cases z) (fun _ z => by cases z)
theorem SmW.tup (s : SmW H H') {a : Addr} {xs : List V} (h : SqT K H a xs) : SqT K H' a xs := by
  rcases h with (h | ⟨o, h⟩) | h
  · exact .inl (.inl (s _ _ h (fun _ _ z => by cases z) (fun _ z => by cases z)))
  · exact .inl (.inr ⟨o, s _ _ h (fun _ _ z => by cases z) (fun _ z => by cases z)⟩)
  · exact .inr h
theorem SmN.w (s : SmN H H') : SmW H H' := fun a o e h _ => s a o e h
theorem SmN.tup (s : SmN H H') {a : Addr} {xs : List V} (h : SqT K H a xs) : SqT K H' a xs := s.w.tup h
theorem smW_of (s : Same H H') : SmW H H' := fun a o e _ _ => s a o e
theorem SmW.trans {H2 : Hp} (s : SmW H H') (t : SmW H' H2) : SmW H H2 := fun a o e h l => t a o (s a o e h l) h l
theorem SmN.sqK (s : SmN H H') {q : Bool} {a : Addr} {xs : List V} (h : SqK q K H a xs) : SqK q K H' a xs := by
  cases q
  · exact s.tup h
  · rcases h with (h | ⟨o, h⟩) | h
    · exact .inl (.inl (s _ _ h (fun _ _ z => by cases z)))
    · exact .inl (.inr ⟨o, s _ _ h (fun _ _ z => by cases z)⟩)
    · exact .inr h
theorem smN_of (s : Same H H') : SmN H H' := fun a o e _ => s a o e
theorem SmN.trans {H2 : Hp} (s : SmN H H') (t : SmN H' H2) : SmN H H2 := fun a o e h => t a o (s a o e h) h
theorem smN_sb {n C dx : Addr} (s : SB n H H') (e : H n = some (.ins C dx [])) : SmN H H' := fun a o h nz => s a o (fun z => by rw [z, e] at h; cases h; exact nz _ _ rfl) h
mutual
theorem PtAt.monoW (s : SmW H H') : ∀ (p : Pt) (a : Addr), PtAt c K H p a → PtAt c K H' p a
  | .tr p q m, a, h => by
    rw [PtAt] at h ⊢
    obtain ⟨dx, h⟩ := h
    exact ⟨dx, s.ins h⟩
  | .ev k, a, h => by
    rw [PtAt] at h ⊢
    obtain ⟨dx, h⟩ := h
    exact ⟨dx, s.ins h⟩
  | .ch o os, a, h => by
    rw [PtAt] at h ⊢
    obtain ⟨dx, t, as, h1, h2, h3⟩ := h
    exact ⟨dx, t, as, s.ins h1, (s.tup h2), PasAt.monoW s os as h3⟩
  | .rd o b, a, h => by
    rw [PtAt] at h ⊢
    obtain ⟨dx, x, dy, t, as, h1, h2, h3, h4⟩ := h
    exact ⟨dx, x, dy, t, as, s.ins h1, s.ins h2, (s.tup h3), PtsAt.monoW s b as h4⟩
  | .en b, a, h => by
    rw [PtAt] at h ⊢
    obtain ⟨dx, x, dy, t, as, h1, h2, h3, h4⟩ := h
    exact ⟨dx, x, dy, t, as, s.ins h1, s.ins h2, (s.tup h3), PtsAt.monoW s b as h4⟩
  | .ti n b, a, h => by
    rw [PtAt] at h ⊢
    obtain ⟨dx, x, dy, t, as, h1, h2, h3, h4⟩ := h
    exact ⟨dx, x, dy, t, as, s.ins h1, s.ins h2, (s.tup h3), PtsAt.monoW s b as h4⟩
theorem PtsAt.monoW (s : SmW H H') : ∀ (l : List Pt) (as : List Addr), PtsAt c K H l as → PtsAt c K H' l as
  | [], as, h => by
    rw [PtsAt] at h ⊢
    exact h
  | p :: l, as, h => by
    rw [PtsAt] at h ⊢
    obtain ⟨a, r, h1, h2, h3⟩ := h
    exact ⟨a, r, h1, PtAt.monoW s p a h2, PtsAt.monoW s l r h3⟩
theorem PasAt.monoW (s : SmW H H') : ∀ (l : List (List Pt)) (as : List Addr), PasAt c K H l as → PasAt c K H' l as
  | [], as, h => by
    rw [PasAt] at h ⊢
    exact h
  | b :: l, as, h => by
    rw [PasAt] at h ⊢
    obtain ⟨x, r, h1, ⟨dy, t, bs, h2, h3, h4⟩, h5⟩ := h
    exact ⟨x, r, h1, ⟨dy, t, bs, s.ins h2, (s.tup h3), PtsAt.monoW s b bs h4⟩, PasAt.monoW s l r h5⟩
end
theorem PaAt.monoW (s : SmW H H') {b : List Pt} {x : Addr} (h : PaAt c K H b x) : PaAt c K H' b x := by
  obtain ⟨dy, t, bs, h2, h3, h4⟩ := h
  exact ⟨dy, t, bs, s.ins h2, (s.tup h3), PtsAt.monoW s b bs h4⟩
theorem PaAt.monoN (s : SmN H H') {b : List Pt} {x : Addr} (h : PaAt c K H b x) : PaAt c K H' b x := h.monoW s.w
theorem PtAt.monoN (s : SmN H H') (p : Pt) (a : Addr) (h : PtAt c K H p a) : PtAt c K H' p a := PtAt.monoW s.w p a h
theorem PtsAt.monoN (s : SmN H H') (l : List Pt) (as : List Addr) (h : PtsAt c K H l as) : PtsAt c K H' l as := PtsAt.monoW s.w l as h
theorem PasAt.monoN (s : SmN H H') (l : List (List Pt)) (as : List Addr) (h : PasAt c K H l as) : PasAt c K H' l as := PasAt.monoW s.w l as h
theorem PaAt.mono (s : Same H H') {b : List Pt} {x : Addr} (h : PaAt c K H b x) : PaAt c K H' b x := h.monoN (smN_of s)
theorem PtAt.mono (s : Same H H') (p : Pt) (a : Addr) (h : PtAt c K H p a) : PtAt c K H' p a := h.monoN (smN_of s)
theorem PtsAt.mono (s : Same H H') (l : List Pt) (as : List Addr) (h : PtsAt c K H l as) : PtsAt c K H' l as := h.monoN (smN_of s)
theorem PasAt.mono (s : Same H H') (l : List (List Pt)) (as : List Addr) (h : PasAt c K H l as) : PasAt c K H' l as := h.monoN (smN_of s)
theorem PaAt.sbN {n C dx : Addr} (h : PaAt c K H b x) (s : SB n H H') (e : H n = some (.ins C dx [])) : PaAt c K H' b x := h.monoN (smN_sb s e)
theorem ptsAt_app : ∀ (l m : List Pt) (as bs : List Addr), PtsAt c K H l as → PtsAt c K H m bs → PtsAt c K H (l ++ m) (as ++ bs)
  | [], m, as, bs, h, h2 => by
    rw [PtsAt] at h
    rw [h]
    exact h2
  | p :: l, m, as, bs, h, h2 => by
    rw [PtsAt] at h
    obtain ⟨a, r, rfl, h1, h3⟩ := h
    rw [List.cons_append, PtsAt]
    exact ⟨a, r ++ bs, rfl, h1, ptsAt_app l m r bs h3 h2⟩
theorem PtsAt.len : ∀ (l : List Pt) (as : List Addr), PtsAt c K H l as → as.length = l.length
  | [], as, h => by
    rw [PtsAt] at h
    rw [h]
    rfl
  | p :: l, as, h => by
    rw [PtsAt] at h
    obtain ⟨a, r, rfl, h1, h3⟩ := h
    rw [List.length_cons, List.length_cons, PtsAt.len l r h3]
theorem PtsAt.get : ∀ (l : List Pt) (as : List Addr), PtsAt c K H l as → ∀ (i : Nat) (p : Pt), l[i]? = some p → ∃ a, as[i]? = some a ∧ PtAt c K H p a
  | [], as, h, i, p, e => by cases e
  | q :: l, as, h, i, p, e => by
    rw [PtsAt] at h
    obtain ⟨a, r, rfl, h1, h3⟩ := h
    cases i with
    | zero =>
      cases e
      exact ⟨a, rfl, h1⟩
    | succ i => exact PtsAt.get l r h3 i p e
theorem ptsAt_of : ∀ (l : List Pt) (as : List Addr), as.length = l.length → (∀ (i : Nat) (p : Pt) (a : Addr), l[i]? = some p → as[i]? = some a → PtAt c K H p a) → PtsAt c K H l as
  | [], as, e, h => by
    rw [PtsAt]
    exact List.length_eq_zero_iff.mp e
  | p :: l, as, e, h => by
    cases as with
    | nil => cases e
    | cons a r =>
      rw [PtsAt]
      exact ⟨a, r, rfl, h 0 p a rfl rfl, ptsAt_of l r (by rw [List.length_cons, List.length_cons] at e; omega) fun i => h (i + 1)⟩
theorem PasAt.len : ∀ (l : List (List Pt)) (as : List Addr), PasAt c K H l as → as.length = l.length
  | [], as, h => by
    rw [PasAt] at h
    rw [h]
    rfl
  | p :: l, as, h => by
    rw [PasAt] at h
    obtain ⟨a, r, rfl, h1, h3⟩ := h
    rw [List.length_cons, List.length_cons, PasAt.len l r h3]
theorem PasAt.get : ∀ (l : List (List Pt)) (as : List Addr), PasAt c K H l as → ∀ (i : Nat) (b : List Pt), l[i]? = some b → ∃ x, as[i]? = some x ∧ PaAt c K H b x
  | [], as, h, i, p, e => by cases e
  | q :: l, as, h, i, p, e => by
    rw [PasAt] at h
    obtain ⟨a, r, rfl, h1, h3⟩ := h
    cases i with
    | zero =>
      cases e
      exact ⟨a, rfl, h1⟩
    | succ i => exact PasAt.get l r h3 i p e
theorem pasAt_of : ∀ (l : List (List Pt)) (as : List Addr), as.length = l.length → (∀ (i : Nat) (b : List Pt) (x : Addr), l[i]? = some b → as[i]? = some x → PaAt c K H b x) → PasAt c K H l as
  | [], as, e, h => by
    rw [PasAt]
    exact List.length_eq_zero_iff.mp e
  | p :: l, as, e, h => by
    cases as with
    | nil => cases e
    | cons a r =>
      rw [PasAt]
      exact ⟨a, r, rfl, h 0 p a rfl rfl, pasAt_of l r (by rw [List.length_cons, List.length_cons] at e; omega) fun i => h (i + 1)⟩
end
/-! ### described pacts: tuples and lists -/
mutual
def DtAt (H : Hp) : Pt → Addr → Prop
  | .tr p q m, a => H a = some (.tup [.str "transfer", .str (S [p]), .str (S [q]), .int (m : Int)])
  | .ev k, a => H a = some (.tup [.str "event", .str (S [k])])
  | .ch o os, a => ∃ (L : Addr) (as : List Addr), H a = some (.tup [.str "choice", .str (S [o]), .ref L]) ∧ H L = some (.lst (as.map V.ref)) ∧ DasAt H os as
  | .rd o b, a => ∃ (L : Addr) (as : List Addr), H a = some (.tup [.str "rounds", .str (S [o]), .ref L]) ∧ H L = some (.lst (as.map V.ref)) ∧ DtsAt H b as
  | .en b, a => ∃ (L : Addr) (as : List Addr), H a = some (.tup [.str "endless", .ref L]) ∧ H L = some (.lst (as.map V.ref)) ∧ DtsAt H b as
  | .ti n b, a => ∃ (L : Addr) (as : List Addr), H a = some (.tup [.str "times", .int (n : Int), .ref L]) ∧ H L = some (.lst (as.map V.ref)) ∧ DtsAt H b as
def DtsAt (H : Hp) : List Pt → List Addr → Prop
  | [], as => as = []
  | p :: l, as => ∃ a r, as = a :: r ∧ DtAt H p a ∧ DtsAt H l r
def DasAt (H : Hp) : List (List Pt) → List Addr → Prop
  | [], as => as = []
  | b :: l, as => ∃ L r, as = L :: r ∧ (∃ bs : List Addr, H L = some (.lst (bs.map V.ref)) ∧ DtsAt H b bs) ∧ DasAt H l r
end
/-- a described pact -/
def DaAt (H : Hp) (b : List Pt) (L : Addr) : Prop := ∃ bs : List Addr, H L = some (.lst (bs.map V.ref)) ∧ DtsAt H b bs
section
variable {H H' : Hp}
mutual
theorem DtAt.mono (s : Same H H') : ∀ (p : Pt) (a : Addr), DtAt H p a → DtAt H' p a
  | .tr p q m, a, h => by
    rw [DtAt] at h ⊢
    exact s _ _ h
  | .ev k, a, h => by
    rw [DtAt] at h ⊢
    exact s _ _ h
  | .ch o os, a, h => by
    rw [DtAt] at h ⊢
    obtain ⟨t, as, h1, h2, h3⟩ := h
    exact ⟨t, as, s _ _ h1, s _ _ h2, DasAt.mono s os as h3⟩
  | .rd o b, a, h => by
    rw [DtAt] at h ⊢
    obtain ⟨t, as, h1, h2, h3⟩ := h
    exact ⟨t, as, s _ _ h1, s _ _ h2, DtsAt.mono s b as h3⟩
  | .en b, a, h => by
    rw [DtAt] at h ⊢
    obtain ⟨t, as, h1, h2, h3⟩ := h
    exact ⟨t, as, s _ _ h1, s _ _ h2, DtsAt.mono s b as h3⟩
  | .ti n b, a, h => by
    rw [DtAt] at h ⊢
    obtain ⟨t, as, h1, h2, h3⟩ := h
    exact ⟨t, as, s _ _ h1, s _ _ h2, DtsAt.mono s b as h3⟩
theorem DtsAt.mono (s : Same H H') : ∀ (l : List Pt) (as : List Addr), DtsAt H l as → DtsAt H' l as
  | [], as, h => by
    rw [DtsAt] at h ⊢
    exact h
  | p :: l, as, h => by
    rw [DtsAt] at h ⊢
    obtain ⟨a, r, h1, h2, h3⟩ := h
    exact ⟨a, r, h1, DtAt.mono s p a h2, DtsAt.mono s l r h3⟩
theorem DasAt.mono (s : Same H H') : ∀ (l : List (List Pt)) (as : List Addr), DasAt H l as → DasAt H' l as
  | [], as, h => by
    rw [DasAt] at h ⊢
    exact h
  | b :: l, as, h => by
    rw [DasAt] at h ⊢
    obtain ⟨x, r, h1, ⟨bs, h3, h4⟩, h5⟩ := h
    exact ⟨x, r, h1, ⟨bs, s _ _ h3, DtsAt.mono s b bs h4⟩, DasAt.mono s l r h5⟩
end
theorem DaAt.mono (s : Same H H') {b : List Pt} {x : Addr} (h : DaAt H b x) : DaAt H' b x := by
  obtain ⟨bs, h3, h4⟩ := h
  exact ⟨bs, s _ _ h3, DtsAt.mono s b bs h4⟩
theorem dtsAt_app : ∀ (l m : List Pt) (as bs : List Addr), DtsAt H l as → DtsAt H m bs → DtsAt H (l ++ m) (as ++ bs)
  | [], m, as, bs, h, h2 => by
    rw [DtsAt] at h
    rw [h]
    exact h2
  | p :: l, m, as, bs, h, h2 => by
    rw [DtsAt] at h
    obtain ⟨a, r, rfl, h1, h3⟩ := h
    rw [List.cons_append, DtsAt]
    exact ⟨a, r ++ bs, rfl, h1, dtsAt_app l m r bs h3 h2⟩
theorem dtsAt_one {p : Pt} {a : Addr} (h : DtAt H p a) : DtsAt H [p] [a] := by
  rw [DtsAt]
  exact ⟨a, [], rfl, h, by rw [DtsAt]⟩
theorem dasAt_app : ∀ (l m : List (List Pt)) (as bs : List Addr), DasAt H l as → DasAt H m bs → DasAt H (l ++ m) (as ++ bs)
  | [], m, as, bs, h, h2 => by
    rw [DasAt] at h
    rw [h]
    exact h2
  | p :: l, m, as, bs, h, h2 => by
    rw [DasAt] at h
    obtain ⟨a, r, rfl, h1, h3⟩ := h
    rw [List.cons_append, DasAt]
    exact ⟨a, r ++ bs, rfl, h1, dasAt_app l m r bs h3 h2⟩
theorem dasAt_one {b : List Pt} {a : Addr} (h : DaAt H b a) : DasAt H [b] [a] := by
  rw [DasAt]
  exact ⟨a, [], rfl, h, by rw [DasAt]⟩
theorem DtsAt.len : ∀ (l : List Pt) (as : List Addr), DtsAt H l as → as.length = l.length
  | [], as, h => by
    rw [DtsAt] at h
    rw [h]
    rfl
  | p :: l, as, h => by
    rw [DtsAt] at h
    obtain ⟨a, r, rfl, h1, h3⟩ := h
    rw [List.length_cons, List.length_cons, DtsAt.len l r h3]
theorem DtsAt.get : ∀ (l : List Pt) (as : List Addr), DtsAt H l as → ∀ (i : Nat) (p : Pt), l[i]? = some p → ∃ a, as[i]? = some a ∧ DtAt H p a
  | [], as, h, i, p, e => by cases e
  | q :: l, as, h, i, p, e => by
    rw [DtsAt] at h
    obtain ⟨a, r, rfl, h1, h3⟩ := h
    cases i with
    | zero =>
      cases e
      exact ⟨a, rfl, h1⟩
    | succ i => exact DtsAt.get l r h3 i p e
theorem DtsAt.gets {H : Hp} : ∀ (l : List Pt) (as : List Addr), DtsAt H l as → ∀ (i : Nat) (x : V), (as.map V.ref)[i]? = some x → ∃ y p, x = .ref y ∧ l[i]? = some p ∧ DtAt H p y
  | [], as, h, i, x, e => by
    rw [DtsAt] at h
    rw [h] at e
    cases e
  | q :: l, as, h, i, x, e => by
    rw [DtsAt] at h
    obtain ⟨a, r, rfl, h1, h3⟩ := h
    cases i with
    | zero =>
      cases e
      exact ⟨a, q, rfl, rfl, h1⟩
    | succ i => exact DtsAt.gets l r h3 i x e
theorem DasAt.gets {H : Hp} : ∀ (l : List (List Pt)) (as : List Addr), DasAt H l as → ∀ (i : Nat) (x : V), (as.map V.ref)[i]? = some x → ∃ y p, x = .ref y ∧ l[i]? = some p ∧ DaAt H p y
  | [], as, h, i, x, e => by
    rw [DasAt] at h
    rw [h] at e
    cases e
  | q :: l, as, h, i, x, e => by
    rw [DasAt] at h
    obtain ⟨a, r, rfl, h1, h3⟩ := h
    cases i with
    | zero =>
      cases e
      exact ⟨a, q, rfl, rfl, h1⟩
    | succ i => exact DasAt.gets l r h3 i x e
theorem dtsAt_of : ∀ (l : List Pt) (as : List Addr), as.length = l.length → (∀ (i : Nat) (p : Pt) (a : Addr), l[i]? = some p → as[i]? = some a → DtAt H p a) → DtsAt H l as
  | [], as, e, h => by
    rw [DtsAt]
    exact List.length_eq_zero_iff.mp e
  | p :: l, as, e, h => by
    cases as with
    | nil => cases e
    | cons a r =>
      rw [DtsAt]
      exact ⟨a, r, rfl, h 0 p a rfl rfl, dtsAt_of l r (by rw [List.length_cons, List.length_cons] at e; omega) fun i => h (i + 1)⟩
theorem DasAt.len : ∀ (l : List (List Pt)) (as : List Addr), DasAt H l as → as.length = l.length
  | [], as, h => by
    rw [DasAt] at h
    rw [h]
    rfl
  | p :: l, as, h => by
    rw [DasAt] at h
    obtain ⟨a, r, rfl, h1, h3⟩ := h
    rw [List.length_cons, List.length_cons, DasAt.len l r h3]
theorem DasAt.get : ∀ (l : List (List Pt)) (as : List Addr), DasAt H l as → ∀ (i : Nat) (b : List Pt), l[i]? = some b → ∃ x, as[i]? = some x ∧ DaAt H b x
  | [], as, h, i, p, e => by cases e
  | q :: l, as, h, i, p, e => by
    rw [DasAt] at h
    obtain ⟨a, r, rfl, h1, h3⟩ := h
    cases i with
    | zero =>
      cases e
      exact ⟨a, rfl, h1⟩
    | succ i => exact DasAt.get l r h3 i p e
end
/-! ### numbers as texts -/
theorem str_dig (n : Nat) : Str.ofString (toString (n : Int)) = S (dig n) := by
  rw [Str.ofString_eq_toList, show toString (n : Int) = Nat.repr n from rfl]
  unfold dig Nat.repr
  rw [String.toList_ofList]
end Z
set_option linter.all false
set_option maxRecDepth 100000
namespace Z
open PySem PySem.Spec PyProof.Rows L2
theorem none_of {H J : Hp} {p : Addr} (s : Same H J) (n : J p = none) : H p = none := by
  cases e : H p with
  | none => rfl
  | some o =>
    have := s p o e
    rw [n] at this
    cases this
theorem szC {n : Nat} (h : n ≤ 10000000) : n < sizeLine := Nat.lt_of_le_of_lt h (by decide)
theorem ixN_nat {n j : Nat} (h : j < n) : ixN n (j : Int) = some j := by
  unfold ixN
  rw [if_pos (by omega)]
  first
    | (rw [if_pos (by omega)]; congr 1)
    | simp [h]
theorem sqk_or {q : Bool} {K : PySem.W.Frag} {H : Hp} {a : Addr} {xs : List V} (h : SqK q K H a xs) : SqL K H a xs ∨ SqT K H a xs := by
  cases q
  · exact .inr h
  · exact .inl h
theorem nd_inj {l : List Nat} (nd : l.Nodup) {i j c : Nat} (hi : l[i]? = some c) (hj : l[j]? = some c) : i = j := by
  obtain ⟨h1, e1⟩ := List.getElem?_eq_some_iff.mp hi
  exact (List.getElem?_inj h1 nd).mp (hi.trans hj.symm)
theorem relv_ref {a : Addr} : L2.RelV (.ref a) (.ref a) := rfl
end Z
set_option Elab.async false
set_option linter.all false
set_option maxRecDepth 100000
set_option maxHeartbeats 4000000
namespace Z
open PySem PySem.Spec PyProof.Rows L2
/-! ### [e for x in xs], xs a list or tuple of any values, the values of e known -/
theorem lc_vs {b : Bool} {K : PySem.W.Frag} {a D : Addr} {xs : List V} {H0 : Hp} {i : Nat} {te : TE} {vs : List Nat} {σ : L2.St} {Qd : Hp → Prop} (hS : SqK b K H0 a xs) (ys : List V) (hl : ys.length = xs.length) (hn : xs.length ≤ 1000000) (nD : H0 D = none)
    (hw : ∀ x : V, wipe ((wipe σ vs).set i (some x)) vs = wipe σ vs)
    (ht : ∀ (k : Nat) (x y : V) J (Q : VK), xs[k]? = some x → ys[k]? = some y → Same H0 J → (∀ J2, Same J J2 → Q y J2) → te ((wipe σ vs).set i (some x)) J Q)
    (hd : ∀ J, Same H0 J → J D = some (.lst ys) → Qd J) : lcW (ItQ b K a) (gName i) tYes te vs σ D Qd H0 := by
  have gx : ∀ k, k < xs.length → xs[k]? = some (xs.getD k .non) := fun k hk => by
    rw [List.getD_eq_getElem?_getD, List.getElem?_eq_getElem hk]
    rfl
  have gy : ∀ k, k < xs.length → ys[k]? = some (ys.getD k .non) := fun k hk => by
    rw [List.getD_eq_getElem?_getD, List.getElem?_eq_getElem (by omega)]
    rfl
  refine lc_flt (n := xs.length) (fun k => xs.getD k .non) (fun _ => true) (fun k => ys.getD k .non) hn nD (fun k J hk s => itq_go (Z.Same.sqK s hS) (gx k hk)) (fun J s => itq_stop (Z.Same.sqK s hS) (Nat.le_refl _)) (fun k J x J2 hk s y => ?_) (fun k => hw _) (fun k J Q1 _ _ q1 => q1 _ (Same.refl _)) (fun k J Q1 hk _ s q1 => ?_) (fun J s eD => hd J s ?_)
  · obtain ⟨rfl, ex⟩ := itq_yld (Z.Same.sqK s hS) y
    rw [gx k hk] at ex
    cases ex
    exact ⟨Same.refl _, rfl⟩
  · exact ht k _ _ J Q1 (gx k hk) (gy k hk) s q1
  · rw [eD]
    congr 2
    unfold fltL
    rw [List.filter_eq_self.mpr (fun _ _ => rfl)]
    refine List.ext_getElem? fun k => ?_
    rw [List.getElem?_map]
    by_cases hk : k < xs.length
    · rw [List.getElem?_range hk, gy k hk]
      rfl
    · rw [List.getElem?_eq_none (by rw [List.length_range]; omega), List.getElem?_eq_none (by omega)]
      rfl
/-- the list form of a walk -/
theorem lc_vsL {K : PySem.W.Frag} {a D : Addr} {xs : List V} {H0 : Hp} {i : Nat} {te : TE} {vs : List Nat} {σ : L2.St} {Qd : Hp → Prop} (hS : SqL K H0 a xs) (ys : List V) (hl : ys.length = xs.length) (hn : xs.length ≤ 1000000) (nD : H0 D = none)
    (hw : ∀ x : V, wipe ((wipe σ vs).set i (some x)) vs = wipe σ vs)
    (ht : ∀ (k : Nat) (x y : V) J (Q : VK), xs[k]? = some x → ys[k]? = some y → Same H0 J → (∀ J2, Same J J2 → Q y J2) → te ((wipe σ vs).set i (some x)) J Q)
    (hd : ∀ J, Same H0 J → J D = some (.lst ys) → Qd J) : lcW (Itl K a) (gName i) tYes te vs σ D Qd H0 := lc_vs (b := true) hS ys hl hn nD hw ht hd
/-! ### tuple(xs), xs a list or a tuple -/
theorem tup_sq {K : PySem.W.Frag} {q : Bool} {H : Hp} {a : Addr} {xs : List V} {Q : VK} (h : SqK q K H a xs) (hq : ∀ t H', Same H H' → SqT K H' t xs → Q (.ref t) H') : (SqL K H a xs ∧ ∀ l, H l = none → Q (.ref l) (upd H l (.tup xs))) ∨ (SqT K H a xs ∧ Q (.ref a) H) := by
  cases q
  · exact .inr ⟨h, hq a H (Same.refl _) h⟩
  · exact .inl ⟨h, fun l nl => hq l _ (same_new nl) (SqT.of upd_same)⟩
def rTupSq (K : PySem.W.Frag) : List V → Hp → VK → Prop := fun vs H Q => ∃ (q : Bool) (a : Addr) (xs : List V), vs = [.ref a] ∧ SqK q K H a xs ∧ ∀ t H', Same H H' → SqT K H' t xs → Q (.ref t) H'
theorem call_tupleSq {X : Cx} : CallR X (.type "tuple") (rTupSq X.K) := by
  intro pins s σ H vs us Q I r h
  obtain ⟨q, a, xs, rfl, hS, hq⟩ := h
  exact call_tuple_of pins s σ H _ us Q I r ⟨a, xs, rfl, tup_sq hS hq⟩
end Z
set_option Elab.async false
set_option linter.all false
set_option maxRecDepth 100000
set_option maxHeartbeats 4000000
namespace Z
open PySem PySem.Spec PyProof.Rows L2
open SX (S S_inj S_len S_cat)
/-! ### draws and their place -/
structure Tk (K : PySem.W.Frag) (a p : Addr) (ds : List Int) (n : Nat) (H0 H1 : Hp) : Prop where
  hA : H1 a = some (.lst (ds.map V.int))
  hd : Dr n ds
  ne : a ≠ p
  sb : SB p H0 H1
  pl : ∃ m : Nat, H1 p = some (.lst [.int (m : Int)])
section
variable {K : PySem.W.Frag} {a p : Addr} {ds : List Int} {n m : Nat} {H0 H1 H2 : Hp}
theorem Tk.more (t : Tk K a p ds n H0 H1) (s : Same H1 H2) : Tk K a p ds n H0 H2 := by
  obtain ⟨m, e⟩ := t.pl
  exact ⟨s _ _ t.hA, t.hd, t.ne, t.sb.trans (Z.Same.sb s), m, s _ _ e⟩
theorem Tk.next (t : Tk K a p ds n H0 H1) (e : H1 p = some (.lst [.int (m : Int)])) : Tk K a p ds n H0 (upd H1 p (.lst [.int ((m + 1 : Nat) : Int)])) ∧ SB p H1 (upd H1 p (.lst [.int ((m + 1 : Nat) : Int)])) := by
  have sb : SB p H1 (upd H1 p (.lst [.int ((m + 1 : Nat) : Int)])) := SB.upd (Z.Same.sb (Same.refl H1))
  exact ⟨⟨sb _ _ t.ne t.hA, t.hd, t.ne, t.sb.trans sb, m + 1, upd_same⟩, sb⟩
theorem Tk.slf (t : Tk K a p ds n H0 H1) : Tk K a p ds n H1 H1 := ⟨t.hA, t.hd, t.ne, Z.Same.sb (Same.refl _), t.pl⟩
theorem Tk.tr (t : Tk K a p ds n H0 H1) (u : Tk K a p ds n H1 H2) : Tk K a p ds n H0 H2 := ⟨u.hA, u.hd, u.ne, t.sb.trans u.sb, u.pl⟩
theorem Tk.nn {q : Addr} (t : Tk K a p ds n H0 H1) (h : H1 q = none) : H0 q = none := by
  cases e : H0 q with
  | none => rfl
  | some o =>
    have pq : q ≠ p := fun z => by
      obtain ⟨m, em⟩ := t.pl
      rw [z, em] at h
      cases h
    rw [t.sb _ _ pq e] at h
    cases h
theorem Tk.at_ {q : Addr} {o : HO} (t : Tk K a p ds n H0 H1) (h : H0 q = none) (hp : p ≠ q) (ha : a ≠ q) : Tk K a p ds n H0 (upd H1 q o) := by
  obtain ⟨m, em⟩ := t.pl
  refine ⟨by rw [upd_ne ha]; exact t.hA, t.hd, t.ne, fun b u n1 n2 => ?_, m, by rw [upd_ne hp]; exact em⟩
  have bq : b ≠ q := fun z => by rw [z, h] at n2; cases n2
  rw [upd_ne bq]
  exact t.sb _ _ n1 n2
/-- an object other than the place lives on -/
theorem Tk.up (t : Tk K a p ds n H0 H1) {b : Addr} {o : HO} (e : H0 b = some o) (h : b ≠ p) : H1 b = some o := t.sb _ _ h e
end
theorem at_0 {α : Type} {x : α} {xs : List α} : atI (x :: xs) 0 = some x := show atI _ ((0 : Nat) : Int) = _ from atI_nat rfl
theorem at_1 {α : Type} {x y : α} {xs : List α} : atI (x :: y :: xs) 1 = some y := show atI _ ((1 : Nat) : Int) = _ from atI_nat rfl
theorem at_2 {α : Type} {x y z : α} {xs : List α} : atI (x :: y :: z :: xs) 2 = some z := show atI _ ((2 : Nat) : Int) = _ from atI_nat rfl
theorem at_3 {α : Type} {x y z u : α} {xs : List α} : atI (x :: y :: z :: u :: xs) 3 = some u := show atI _ ((3 : Nat) : Int) = _ from atI_nat rfl
theorem sum_one : ∀ l : List Nat, (l.map fun _ => 1).sum = l.length
  | [] => rfl
  | _ :: r => by
    rw [List.map_cons, List.sum_cons, sum_one r, List.length_cons]
    omega
theorem join_one : ∀ l : List Nat, TL.joinL [] (l.map fun c => [c]) = l
  | [] => rfl
  | [c] => rfl
  | c :: d :: r => by
    have ih := join_one (d :: r)
    show [c] ++ ([] ++ TL.joinL [] ((d :: r).map fun c => [c])) = _
    rw [ih]
    rfl
theorem ixv {b : Bool} {K : PySem.W.Frag} {H : Hp} {a : Addr} {xs : List V} {i : Int} {v : V} {Q : VK} (hS : SqK b K H a xs) (e : atI xs i = some v) (q : Q v H) : rIx K (.ref a) (.int i) H Q := by
  cases b
  · exact .inr (.inl ⟨a, _, _, _, rfl, rfl, hS, e, q⟩)
  · exact .inl ⟨a, _, _, _, rfl, rfl, hS, e, q⟩
theorem sgn_at (z : Str) (r : Int) (h : 0 < z.length) : ∃ c, atI z.cps.toList (r % (z.length : Int)) = some c := by
  have h1 := Int.emod_nonneg r (show (z.length : Int) ≠ 0 by omega)
  have h2 := Int.emod_lt_of_pos r (show 0 < (z.length : Int) by omega)
  obtain ⟨j, hj⟩ : ∃ j : Nat, r % (z.length : Int) = (j : Int) := ⟨(r % (z.length : Int)).toNat, by omega⟩
  rw [hj] at h2 ⊢
  have hl : j < z.cps.toList.length := by
    show j < z.cps.size
    have : z.length = z.cps.size := rfl
    omega
  exact ⟨z.cps.toList[j], atI_nat (List.getElem?_eq_getElem hl)⟩
theorem modN (r : Int) {n : Nat} (h : 0 < n) : ∃ c : Nat, r % (n : Int) = (c : Int) ∧ c < n := by
  have h1 := Int.emod_nonneg r (show (n : Int) ≠ 0 by omega)
  have h2 := Int.emod_lt_of_pos r (show 0 < (n : Int) by omega)
  exact ⟨(r % (n : Int)).toNat, by omega, by omega⟩
/-! ### what is new -/
/-- the objects that are new -/
def nw (H H' : Hp) : Hp := fun a => match H a with | none => H' a | some _ => none
/-- the new objects other than D -/
def nwD (H : Hp) (D : Addr) (H' : Hp) : Hp := fun a => if a = D then none else nw H H' a
def del (H : Hp) (D : Addr) : Hp := fun a => if a = D then none else H a
section
variable {H H1 H2 H3 : Hp} {D p : Addr}
theorem nw_some {a : Addr} {o : HO} (h : nw H H1 a = some o) : H a = none ∧ H1 a = some o := by
  unfold nw at h
  cases e : H a with
  | none =>
    rw [e] at h
    exact ⟨rfl, h⟩
  | some u =>
    rw [e] at h
    cases h
theorem nw_of {a : Addr} {o : HO} (h : H a = none) (h2 : H1 a = some o) : nw H H1 a = some o := by
  unfold nw
  rw [h]
  exact h2
theorem nwD_some {a : Addr} {o : HO} (h : nwD H D H1 a = some o) : a ≠ D ∧ H a = none ∧ H1 a = some o := by
  unfold nwD at h
  by_cases c : a = D
  · rw [if_pos c] at h
    cases h
  · rw [if_neg c] at h
    exact ⟨c, nw_some h⟩
theorem nwD_of {a : Addr} {o : HO} (n : a ≠ D) (h : H a = none) (h2 : H1 a = some o) : nwD H D H1 a = some o := by
  unfold nwD
  rw [if_neg n]
  exact nw_of h h2
theorem nw_same : Same (nw H H1) H1 := fun _ _ h => (nw_some h).2
theorem nwD_nw : Same (nwD H D H1) (nw H H1) := fun _ _ h => nw_of (nwD_some h).2.1 (nwD_some h).2.2
theorem nwD_same : Same (nwD H D H1) H1 := fun _ _ h => (nwD_some h).2.2
theorem del_same : Same (del H D) H := fun a o h => by
  unfold del at h
  by_cases c : a = D
  · rw [if_pos c] at h
    cases h
  · rw [if_neg c] at h
    exact h
theorem del_of {a : Addr} {o : HO} (n : a ≠ D) (h : H a = some o) : del H D a = some o := by
  unfold del
  rw [if_neg n]
  exact h
theorem del_mono (s : Same H H1) : Same (del H D) (del H1 D) := fun a o h => by
  unfold del at h
  by_cases c : a = D
  · rw [if_pos c] at h
    cases h
  · rw [if_neg c] at h
    exact del_of c (s _ _ h)
theorem del_sb (s : SB D H H1) : Same (del H D) (del H1 D) := fun a o h => by
  unfold del at h
  by_cases c : a = D
  · rw [if_pos c] at h
    cases h
  · rw [if_neg c] at h
    exact del_of c (s _ _ c h)
/-- objects of a heap where D is not yet -/
theorem del_new (s : Same H H1) (n : H D = none) : Same H (del H1 D) := fun a o h => del_of (fun e => by rw [e, n] at h; cases h) (s _ _ h)
/-- what is new from H1 to H2, told from H on -/
theorem nw_tail (nn : ∀ q, H1 q = none → H q = none) (hD : H1 D ≠ none) : Same (nw H1 H2) (nwD H D H2) := fun a o h => nwD_of (fun e => hD (e ▸ (nw_some h).1)) (nn _ (nw_some h).1) (nw_some h).2
theorem nwD_sb (s : SB p H1 H2) (hp : H p ≠ none) : Same (nwD H D H1) (nwD H D H2) := fun a o h => nwD_of (nwD_some h).1 (nwD_some h).2.1 (s _ _ (fun e => hp (e ▸ (nwD_some h).2.1)) (nwD_some h).2.2)
theorem nwD_upd {o : HO} : Same (nwD H D H1) (nwD H D (upd H1 D o)) := fun a u h => nwD_of (nwD_some h).1 (nwD_some h).2.1 (by rw [upd_ne (nwD_some h).1]; exact (nwD_some h).2.2)
theorem nw_trans (nn : ∀ q, H1 q = none → H q = none) : Same (nw H1 H2) (nw H H2) := fun a o h => nw_of (nn _ (nw_some h).1) (nw_some h).2
theorem nw_sb (s : SB p H1 H2) (hp : H p ≠ none) : Same (nw H H1) (nw H H2) := fun a o h => nw_of (nw_some h).1 (s _ _ (fun e => hp (e ▸ (nw_some h).1)) (nw_some h).2)
end
theorem Tk.hp {K : PySem.W.Frag} {a p : Addr} {ds : List Int} {n : Nat} {H0 H1 : Hp} (t : Tk K a p ds n H0 H1) : H1 p ≠ none := by
  obtain ⟨m, e⟩ := t.pl
  rw [e]
  exact fun z => by cases z
/-- [e for ..], the values drawn: each value is told by its new objects -/
theorem lc_nw {K : PySem.W.Frag} {a p : Addr} {ds : List Int} {m : Nat} {J : It} {D : Addr} {n : Nat} {H0 : Hp} {i : Nat} {te : TE} {vs : List Nat} {σ : L2.St} {Qd : Hp → Prop} (G : Nat → Hp → V → Prop) (mono : ∀ i X Y y, Same X Y → G i X y → G i Y y) (hT : Tk K a p ds m H0 H0) (nD : H0 D = none) (hn : n ≤ 1000000)
    (hgo : ∀ k J', k < n → J.go k J') (hst : ∀ J', J.stop n J') (hy : ∀ k J1 x J2, k < n → J.yld k J1 x J2 → J2 = J1)
    (hw : ∀ x : V, wipe ((wipe σ vs).set i (some x)) vs = wipe σ vs)
    (ht : ∀ (k : Nat) (x : V) J1 (Q : VK), k < n → J.yld k J1 x J1 → Tk K a p ds m H0 J1 → (∀ y J2, Tk K a p ds m J1 J2 → G k (nw J1 J2) y → Q y J2) → te ((wipe σ vs).set i (some x)) J1 Q)
    (hd : ∀ J1 ys, Tk K a p ds m H0 J1 → J1 D = some (.lst ys) → ys.length = n → (∀ k y, ys[k]? = some y → G k (nwD H0 D J1) y) → Qd J1) : lcW J (gName i) tYes te vs σ D Qd H0 := by
  have Dp : p ≠ D := fun e => hT.hp (e ▸ nD)
  have aD : a ≠ D := fun e => by have := hT.hA; rw [e, nD] at this; cases this
  refine lc_gen (n := n) (fun k J1 => Tk K a p ds m H0 J1 ∧ ∃ ys, J1 D = some (.lst ys) ∧ ys.length = k ∧ ∀ k y, ys[k]? = some y → G k (nwD H0 D J1) y) ⟨hT.more (same_new nD), [], upd_same, rfl, fun k y e => by cases e⟩ (fun k J1 hk _ => hgo k J1 hk) (fun J1 _ => hst J1) (fun k J1 x J2 hk ⟨hT1, ys, eD, ly, hG⟩ y => ?_) (fun J1 ⟨hT1, ys, eD, ly, hG⟩ => hd J1 ys hT1 eD ly hG)
  obtain rfl := hy k J1 x J2 hk y
  refine ⟨hw x, ?_⟩
  show te ((wipe σ vs).set i (some x)) J2 _
  refine ht k x J2 _ hk y hT1 fun v J3 hT3 hv => ?_
  have eD3 := hT3.up eD Dp.symm
  refine ⟨ys, eD3, Nat.lt_of_le_of_lt (show ys.length ≤ 1000000 by omega) (by decide), (hT1.tr hT3).at_ nD Dp aD, ys ++ [v], upd_same, by rw [List.length_append, ly]; rfl, fun k2 y2 e => ?_⟩
  refine mono _ _ _ _ nwD_upd ?_
  by_cases c : k2 < ys.length
  · rw [List.getElem?_append_left c] at e
    exact mono _ _ _ _ (nwD_sb hT3.sb hT.hp) (hG _ _ e)
  · rw [List.getElem?_append_right (by omega)] at e
    have k0 : k2 = k := by
      have := (List.getElem?_eq_some_iff.mp e).1
      simp only [List.length_cons, List.length_nil] at this
      omega
    subst k0
    rw [ly, Nat.sub_self] at e
    cases e
    exact mono _ _ _ _ (nw_tail (fun q h => hT1.nn h) (by rw [eD]; exact fun z => by cases z)) hv
/-- [e for x in xs], each value told by what stays if only lists change -/
theorem lc_rel {b : Bool} {K : PySem.W.Frag} {a D : Addr} {xs : List V} {H0 : Hp} {i : Nat} {te : TE} {vs : List Nat} {σ : L2.St} {Qd : Hp → Prop} (G : Nat → Hp → V → Prop) (mono : ∀ i X Y y, SmW X Y → G i X y → G i Y y) (hS : SqK b K H0 a xs) (hn : xs.length ≤ 1000000) (nD : H0 D = none)
    (hw : ∀ x : V, wipe ((wipe σ vs).set i (some x)) vs = wipe σ vs)
    (ht : ∀ (k : Nat) (x : V) J1 (Q : VK), xs[k]? = some x → Same H0 J1 → (∀ y J2, Same J1 J2 → G k J2 y → Q y J2) → te ((wipe σ vs).set i (some x)) J1 Q)
    (hd : ∀ J1 ys, Same H0 J1 → J1 D = some (.lst ys) → ys.length = xs.length → (∀ k y, ys[k]? = some y → G k J1 y) → Qd J1) : lcW (ItQ b K a) (gName i) tYes te vs σ D Qd H0 := by
  have gx : ∀ k, k < xs.length → xs[k]? = some (xs.getD k .non) := fun k hk => by
    rw [List.getD_eq_getElem?_getD, List.getElem?_eq_getElem hk]
    rfl
  refine lc_gen (n := xs.length) (fun k J1 => Same H0 J1 ∧ ∃ ys, J1 D = some (.lst ys) ∧ ys.length = k ∧ ∀ k y, ys[k]? = some y → G k J1 y) ⟨same_new nD, [], upd_same, rfl, fun k y e => by cases e⟩ (fun k J1 hk h => itq_go (Z.Same.sqK h.1 hS) (gx k hk)) (fun J1 h => itq_stop (Z.Same.sqK h.1 hS) (Nat.le_refl _)) (fun k J1 x J2 hk ⟨s1, ys, eD, ly, hG⟩ y => ?_) (fun J1 ⟨s1, ys, eD, ly, hG⟩ => hd J1 ys s1 eD ly hG)
  obtain ⟨rfl, ex⟩ := itq_yld (Z.Same.sqK s1 hS) y
  refine ⟨hw x, ?_⟩
  show te ((wipe σ vs).set i (some x)) J2 _
  refine ht k x J2 _ ex s1 fun v J3 s3 hv => ?_
  have eD3 := s3 _ _ eD
  have sw : SmW J3 (upd J3 D (.lst (ys ++ [v]))) := fun c o e _ nl => by
    by_cases cD : c = D
    · rw [cD, eD3] at e
      cases e
      exact absurd rfl (nl _)
    · rw [upd_ne cD]
      exact e
  refine ⟨ys, eD3, Nat.lt_of_le_of_lt (show ys.length ≤ 1000000 by omega) (by decide), Z.Same.mut (s1.trans s3) nD, ys ++ [v], upd_same, by rw [List.length_append, ly]; rfl, fun k2 y2 e => ?_⟩
  refine mono _ _ _ _ sw ?_
  by_cases c : k2 < ys.length
  · rw [List.getElem?_append_left c] at e
    exact mono _ _ _ _ (smW_of s3) (hG _ _ e)
  · rw [List.getElem?_append_right (by omega)] at e
    have k0 : k2 = k := by
      have := (List.getElem?_eq_some_iff.mp e).1
      simp only [List.length_cons, List.length_nil] at this
      omega
    subst k0
    rw [ly, Nat.sub_self] at e
    cases e
    exact hv
theorem lc_relL {K : PySem.W.Frag} {a D : Addr} {xs : List V} {H0 : Hp} {i : Nat} {te : TE} {vs : List Nat} {σ : L2.St} {Qd : Hp → Prop} (G : Nat → Hp → V → Prop) (mono : ∀ i X Y y, SmW X Y → G i X y → G i Y y) (hS : SqL K H0 a xs) (hn : xs.length ≤ 1000000) (nD : H0 D = none)
    (hw : ∀ x : V, wipe ((wipe σ vs).set i (some x)) vs = wipe σ vs)
    (ht : ∀ (k : Nat) (x : V) J1 (Q : VK), xs[k]? = some x → Same H0 J1 → (∀ y J2, Same J1 J2 → G k J2 y → Q y J2) → te ((wipe σ vs).set i (some x)) J1 Q)
    (hd : ∀ J1 ys, Same H0 J1 → J1 D = some (.lst ys) → ys.length = xs.length → (∀ k y, ys[k]? = some y → G k J1 y) → Qd J1) : lcW (Itl K a) (gName i) tYes te vs σ D Qd H0 := lc_rel (b := true) G mono hS hn nD hw ht hd
/-- values that are all references -/
theorem refs_of : ∀ (ys : List V), (∀ (k : Nat) y, ys[k]? = some y → ∃ x, y = V.ref x) → ∃ as : List Addr, ys = as.map V.ref
  | [], _ => ⟨[], rfl⟩
  | y :: ys, h => by
    obtain ⟨x, rfl⟩ := h 0 y rfl
    obtain ⟨as, rfl⟩ := refs_of ys fun k y e => h (k + 1) y e
    exact ⟨x :: as, rfl⟩
end Z
set_option pp.maxSteps 700
set_option Elab.async false
set_option linter.all false
set_option maxRecDepth 100000
set_option maxHeartbeats 4000000
open SX (S S_inj S_len S_cat)
namespace Z
open Pk NdefX
open PySem PySem.Spec PyProof.Rows L2
open C8 (pss_cut tCut)
local macro_rules | `(tactic| walk_at "num") => `(tactic| first | rfl | omega | decide | exact Nat.le_of_lt (small1000 (by simp)) | exact ⟨by omega, by omega⟩ | exact ⟨by omega, by omega, by omega⟩ | exact ⟨by decide, by decide, by decide⟩ | exact Or.inl ⟨by omega, by omega⟩ | exact Or.inr ⟨by omega, by omega⟩)
local macro_rules | `(tactic| walk_at "go") => `(tactic| repeat (first | refine ⟨_, rfl, ?_⟩ | refine ⟨_, _, rfl, rfl, ?_⟩ | refine ⟨_, _, rfl, ?_⟩ | (refine ⟨_, _, rfl, rfl, ?_, ?_⟩; focus walk_at "num") | refine Or.inl ⟨_, rfl, ?_⟩ | refine ⟨_, _, _, _, rfl, rfl, (by assumption), (by rfl), ?_⟩ | refine ⟨_, _, _, _, _, rfl, (by assumption), (by assumption), (by assumption), (by rfl), ?_⟩ | refine ⟨rfl, ?_⟩ | (refine And.intro ?_ ?_; focus walk_at "num")))
abbrev s_is_party : Stmt := topS 12
abbrev N_is_party : List Str := ["text"]
abbrev P_is_party : List Str := ["text"]
theorem sc_is_party : FnScope N_is_party P_is_party (defScope s_is_party) := ⟨rfl, rfl, rfl, by decide +kernel, rfl, by decide +kernel, by decide +kernel⟩
abbrev s_is_mark : Stmt := topS 13
abbrev N_is_mark : List Str := ["text"]
abbrev P_is_mark : List Str := ["text"]
theorem sc_is_mark : FnScope N_is_mark P_is_mark (defScope s_is_mark) := ⟨rfl, rfl, rfl, by decide +kernel, rfl, by decide +kernel, by decide +kernel⟩
abbrev s_check_party : Stmt := topS 14
abbrev N_check_party : List Str := ["party"]
abbrev P_check_party : List Str := ["party"]
theorem sc_check_party : FnScope N_check_party P_check_party (defScope s_check_party) := ⟨rfl, rfl, rfl, by decide +kernel, rfl, by decide +kernel, by decide +kernel⟩
abbrev s_check_mark : Stmt := topS 15
abbrev N_check_mark : List Str := ["mark"]
abbrev P_check_mark : List Str := ["mark"]
theorem sc_check_mark : FnScope N_check_mark P_check_mark (defScope s_check_mark) := ⟨rfl, rfl, rfl, by decide +kernel, rfl, by decide +kernel, by decide +kernel⟩
abbrev s_check_size : Stmt := topS 22
abbrev N_check_size : List Str := ["weight", "depth"]
abbrev P_check_size : List Str := ["weight", "depth"]
theorem sc_check_size : FnScope N_check_size P_check_size (defScope s_check_size) := ⟨rfl, rfl, rfl, by decide +kernel, rfl, by decide +kernel, by decide +kernel⟩
abbrev s_Part___init__ : Stmt := inClass (topS 23) 1
abbrev N_Part___init__ : List Str := ["self", "weight", "depth", "text"]
abbrev P_Part___init__ : List Str := ["self", "weight", "depth", "text"]
theorem sc_Part___init__ : FnScope N_Part___init__ P_Part___init__ (defScope s_Part___init__) := ⟨rfl, rfl, rfl, by decide +kernel, rfl, by decide +kernel, by decide +kernel⟩
theorem relv_str {x : Str} {t : Tok} : L2.RelV (.str x) (.str x t) := ⟨t, rfl⟩
theorem szl {n : Nat} (h : n ≤ 100000) : n ≤ sizeLine := Nat.le_trans h (by decide)
abbrev FnM (K : PySem.W.Frag) (x q : Str) (st : Stmt) (f : Addr) (fd : FuncData) : Prop := FunD K x q (defArgs st) (defBody st) (defScope st) [] [] f fd
theorem emS (a : List Nat) : Str.empty ++ S a = S a := S_cat [] a
theorem lg60 {m : Nat} (h : m ≤ 10 ^ 60) : ((m : Int)).natAbs.log2 < 1920 := by
  rw [Int.natAbs_natCast]
  by_cases c : m = 0
  · rw [c]
    decide
  · exact (Nat.log2_lt c).mpr (Nat.lt_of_le_of_lt h (by decide +kernel))
def isPy (t : List Nat) : Bool := decide (t.length = 1) && t.all fun c => decide (c ∈ PAR)
def isMk (t : List Nat) : Bool := decide (t.length = 1) && t.all fun c => decide (c ∈ MRK)
theorem par_eq : (Str.ofString "abcdef").cps.toList = PAR := by decide +kernel
theorem mrk_eq : (Str.ofString "ABCDEFGHIJKLMNOPQRSTUVWXYZ").cps.toList = MRK := by decide +kernel
theorem isPy_one {c : Nat} (h : c ∈ PAR) : isPy [c] = true := by
  unfold isPy
  rw [List.all_cons, decide_eq_true h]
  rfl
theorem isMk_one {c : Nat} (h : c ∈ MRK) : isMk [c] = true := by
  unfold isMk
  rw [List.all_cons, decide_eq_true h]
  rfl
section
variable {P : Program} {w : World} {K : PySem.W.Frag} {mg : Str → Option Value} {base : Heap} {f C CP CM : Addr} {fd : FuncData}
def spIsP : Sp := fun vs H Q _ => ∃ t : List Nat, vs = [.str (S t)] ∧ t.length ≤ 10000 ∧ ∀ b : Bool, b = isPy t → Q (.bl b) H
theorem ok_is_party (F : FnP K "is_party" s_is_party f fd) (m_len : mg "len" = none) (tok_PARTIES : Tok) (g_PARTIES : mg "PARTIES" = some (.str "abcdef" tok_PARTIES)) : FnOk P w K mg base CX0 1 f fd P_is_party spIsP := by
  refine F.ok sc_is_party (fun vs H Q E h => ?_) (fun cdv A outer s H vs Q E hr h => ?_)
  · obtain ⟨t, rfl, _⟩ := h
    rfl
  · obtain ⟨t, rfl, lt, q⟩ := h
    refine ⟨_, PSs.nox (pss_one (ps_ret (pe_and (pe_cmpR op_eq (pe_callB call_len_str (by rfl) m_len PySem.boot_len (pa_cons (pv 0) pa_nil)) pe_int (nomark _)) (pe_one (pe_cmpR op_in_sign (pv 0) (pe_glob (by rfl) g_PARTIES (relv_str (x := "abcdef"))) (by rfl)))))), ?_⟩
    walk_at "go"
    refine ⟨by rw [S_len]; exact szl (by omega), ?_⟩
    rw [S_len]
    refine ⟨rfl, _, rfl, ?_⟩
    by_cases c1 : t.length = 1
    · rw [decide_eq_true (show V.int (t.length : Int) = V.int 1 by rw [c1]; rfl)]
      match t, c1 with
      | [c], _ =>
        walk_at "go"
        refine q _ ?_
        rw [par_eq]
        unfold isPy
        rw [List.all_cons, List.all_nil, Bool.and_true]
        exact (Bool.true_and _).symm
    · rw [decide_eq_false (show ¬ V.int (t.length : Int) = V.int 1 from fun h => by injection h with h; omega)]
      walk_at "go"
      refine q _ ?_
      unfold isPy
      rw [decide_eq_false c1]
      rfl
def spIsM : Sp := fun vs H Q _ => ∃ t : List Nat, vs = [.str (S t)] ∧ t.length ≤ 10000 ∧ ∀ b : Bool, b = isMk t → Q (.bl b) H
theorem ok_is_mark (F : FnP K "is_mark" s_is_mark f fd) (m_len : mg "len" = none) (tok_MARKS : Tok) (g_MARKS : mg "MARKS" = some (.str "ABCDEFGHIJKLMNOPQRSTUVWXYZ" tok_MARKS)) : FnOk P w K mg base CX0 1 f fd P_is_mark spIsM := by
  refine F.ok sc_is_mark (fun vs H Q E h => ?_) (fun cdv A outer s H vs Q E hr h => ?_)
  · obtain ⟨t, rfl, _⟩ := h
    rfl
  · obtain ⟨t, rfl, lt, q⟩ := h
    refine ⟨_, PSs.nox (pss_one (ps_ret (pe_and (pe_cmpR op_eq (pe_callB call_len_str (by rfl) m_len PySem.boot_len (pa_cons (pv 0) pa_nil)) pe_int (nomark _)) (pe_one (pe_cmpR op_in_sign (pv 0) (pe_glob (by rfl) g_MARKS (relv_str (x := "ABCDEFGHIJKLMNOPQRSTUVWXYZ"))) (by rfl)))))), ?_⟩
    walk_at "go"
    refine ⟨by rw [S_len]; exact szl (by omega), ?_⟩
    rw [S_len]
    refine ⟨rfl, _, rfl, ?_⟩
    by_cases c1 : t.length = 1
    · rw [decide_eq_true (show V.int (t.length : Int) = V.int 1 by rw [c1]; rfl)]
      match t, c1 with
      | [c], _ =>
        walk_at "go"
        refine q _ ?_
        rw [mrk_eq]
        unfold isMk
        rw [List.all_cons, List.all_nil, Bool.and_true]
        exact (Bool.true_and _).symm
    · rw [decide_eq_false (show ¬ V.int (t.length : Int) = V.int 1 from fun h => by injection h with h; omega)]
      walk_at "go"
      refine q _ ?_
      unfold isMk
      rw [decide_eq_false c1]
      rfl
def spChP (CP : Addr) : Sp := fun vs H Q E => ∃ t : List Nat, vs = [.str (S t)] ∧ t.length ≤ 10000 ∧ (isPy t = true → Q .non H) ∧ (isPy t = false → ∀ d, H d = none → E (.ref CP) (some d) (upd H d (.xd [("party", .str (S t))])))
theorem ok_check_party (F : FnP K "check_party" s_check_party f fd) (c_is_party : Cal P w K mg base 1 "is_party" spIsP) (x_BadParty : Exn P w K mg base "BadParty" CP "party") : FnOk P w K mg base (L2N.CX P w) 3 f fd P_check_party (spChP CP) := by
  refine F.ok sc_check_party (fun vs H Q E h => ?_) (fun cdv A outer s H vs Q E hr h => ?_)
  · obtain ⟨t, rfl, _⟩ := h
    rfl
  · obtain ⟨t, rfl, lt, q1, q2⟩ := h
    have tk := takes_fn (P := P) (w := w) (K := K) (mg := mg) (base := base) (N := N_check_party) (qual := "check_party") (scope := defScope s_check_party) (f := f) (cd := cdv) (A := A) (outer := outer) (s := s) (H := H) (E := E)
    refine ⟨_, (pss_one (ps_if (pt_not (pt_val (pe_cl c_is_party hr (by decide) (by rfl) (pa_cons (pv 0) pa_nil)))) (pss_one (ps_exn rfl tk x_BadParty hr (by decide) (by rfl) (pa_cons (pv 0) pa_nil))) pss_nil)), ?_⟩
    walk_at "go"
    intro b hb
    subst hb
    cases c : isPy t with
    | true =>
      walk_at "go"
      exact q1 c
    | false =>
      walk_at "go"
      exact mkx_of fun d nd => (show E (.ref CP) (some d) (upd H d (.xd [("party", .str (S t))])) from q2 c d nd)
/-- (in right pacts the marks are right) -/
def spChM : Sp := fun vs H Q _ => ∃ t : List Nat, vs = [.str (S t)] ∧ t.length ≤ 10000 ∧ isMk t = true ∧ Q .non H
theorem ok_check_mark (F : FnP K "check_mark" s_check_mark f fd) (c_is_mark : Cal P w K mg base 1 "is_mark" spIsM) : FnOk P w K mg base (L2N.CX P w) 3 f fd P_check_mark spChM := by
  refine F.ok sc_check_mark (fun vs H Q E h => ?_) (fun cdv A outer s H vs Q E hr h => ?_)
  · obtain ⟨t, rfl, _⟩ := h
    rfl
  · obtain ⟨t, rfl, lt, c, q1⟩ := h
    refine ⟨_, (pss_one (ps_if (pt_not (pt_val (pe_cl c_is_mark hr (by decide) (by rfl) (pa_cons (pv 0) pa_nil)))) (pss_one ps_never) pss_nil)), ?_⟩
    walk_at "go"
    intro b hb
    subst hb
    rw [c]
    walk_at "go"
    exact q1
def spSize : Sp := fun vs H Q _ => ∃ w d : Nat, vs = [.int (w : Int), .int (d : Int)] ∧ w ≤ 400 ∧ d ≤ 30 ∧ Q .non H
theorem ok_check_size (F : FnP K "check_size" s_check_size f fd) (tok_MOST_WEIGHT : Tok) (g_MOST_WEIGHT : mg "MOST_WEIGHT" = some (.int 400 tok_MOST_WEIGHT)) (tok_MOST_DEPTH : Tok) (g_MOST_DEPTH : mg "MOST_DEPTH" = some (.int 30 tok_MOST_DEPTH)) : FnOk P w K mg base (L2N.CX P w) 3 f fd P_check_size spSize := by
  refine F.ok sc_check_size (fun vs H Q E h => ?_) (fun cdv A outer s H vs Q E hr h => ?_)
  · obtain ⟨w, d, rfl, _⟩ := h
    rfl
  · obtain ⟨w, d, rfl, h1, h2, q1⟩ := h
    refine ⟨_, (pss_one (ps_if (PW.pt (pw_or (pt_cmpR op_gt (pv 0) (pe_glob (v := .int 400) (by rfl) g_MOST_WEIGHT ⟨_, rfl⟩) (nomark _)) (pw_or1 (pt_cmpR op_gt (pv 1) (pe_glob (v := .int 30) (by rfl) g_MOST_DEPTH ⟨_, rfl⟩) (nomark _))))) (pss_one ps_never) pss_nil)), ?_⟩
    walk_at "go"
    rw [decide_eq_false (by omega : ¬ (400 : Int) < (w : Int))]
    walk_at "go"
    rw [decide_eq_false (by omega : ¬ (30 : Int) < (d : Int))]
    walk_at "go"
    exact q1
/-- the three fields that every part has -/
structure Fl3 (K : PySem.W.Frag) (C : Addr) : Prop where
  cls : Cls K C
  nw : NoAttr K C "weight"
  nd : NoAttr K C "depth"
  nt : NoAttr K C "text"
def put3 (w d : Nat) (t : Str) (fs : List (Str × V)) : List (Str × V) := putF "text" (.str t) (putF "depth" (.int (d : Int)) (putF "weight" (.int (w : Int)) fs))
def spPart (K : PySem.W.Frag) : Sp := fun vs H Q _ => ∃ (n C dx : Addr) (fs : List (Str × V)) (w d : Nat) (t : Str), vs = [.ref n, .int (w : Int), .int (d : Int), .str t] ∧ H n = some (.ins C dx fs) ∧ Fl3 K C ∧ fs.length ≤ 10 ∧ w ≤ 400 ∧ d ≤ 30 ∧ Q .non (upd H n (.ins C dx (put3 w d t fs)))
theorem put_len (x : Str) (v : V) : ∀ fs : List (Str × V), (putF x v fs).length ≤ fs.length + 1
  | [] => Nat.le_refl _
  | (g, y) :: fs => by
    unfold putF
    split
    · exact Nat.le_succ _
    · have := put_len x v fs
      rw [List.length_cons, List.length_cons]
      omega
theorem ok_part (F : FnM K "__init__" "Part.__init__" s_Part___init__ f fd) (c_check_size : CalX P w K mg base 3 "check_size" spSize) : FnOk P w K mg base (L2N.CX P w) 4 f fd P_Part___init__ (spPart K) := by
  refine F.ok sc_Part___init__ (fun vs H Q E h => ?_) (fun cdv A outer s H vs Q E hr h => ?_)
  · obtain ⟨n, C, dx, fs, w, d, t, rfl, _⟩ := h
    rfl
  · obtain ⟨n, C, dx, fs, w, d, t, rfl, hn, fl, lf, h1, h2, q⟩ := h
    refine ⟨_, (pss_cons (ps_expr (pe_clE c_check_size (fun _ => passS0) hr (by decide) (by rfl) (pa_cons (pv 1) (pa_cons (pv 2) pa_nil))))
      (pss_cons (ps_fld (pv 0) (pv 1) rfl)
      (pss_cons (ps_fld (pv 0) (pv 2) rfl)
      (pss_one (ps_fld (pv 0) (pv 3) rfl))))), ?_⟩
    have l1 := put_len "weight" (V.int (w : Int)) fs
    have l2 := put_len "depth" (V.int (d : Int)) (putF "weight" (V.int (w : Int)) fs)
    walk_at "go"
    refine ⟨n, C, dx, _, rfl, hn, fl.cls, fl.nw, by omega, ?_⟩
    walk_at "go"
    refine ⟨n, C, dx, _, rfl, upd_same, fl.cls, fl.nd, by omega, ?_⟩
    walk_at "go"
    refine ⟨n, C, dx, _, rfl, upd_same, fl.cls, fl.nt, by omega, ?_⟩
    rw [upd_upd, upd_upd]
    exact q
end
abbrev s_Transfer___init__ : Stmt := inClass (topS 24) 1
abbrev N_Transfer___init__ : List Str := ["self", "payer", "payee", "amount", "__class__"]
abbrev P_Transfer___init__ : List Str := ["self", "payer", "payee", "amount"]
theorem sc_Transfer___init__ : NdefX.NScope N_Transfer___init__ P_Transfer___init__ [("__class__" : Str)] (defScope s_Transfer___init__) := NdefX.nscope_by (by decide +kernel)
abbrev s_Event___init__ : Stmt := inClass (topS 25) 1
abbrev N_Event___init__ : List Str := ["self", "mark", "__class__"]
abbrev P_Event___init__ : List Str := ["self", "mark"]
theorem sc_Event___init__ : NdefX.NScope N_Event___init__ P_Event___init__ [("__class__" : Str)] (defScope s_Event___init__) := NdefX.nscope_by (by decide +kernel)
section
variable {P : Program} {w : World} {K : PySem.W.Frag} {mg : Str → Option Value} {base : Heap} {f c cc g CP CM : Addr} {k : Cs} {fd : FuncData}
abbrev FnB (P : Program) (w : World) (K : PySem.W.Frag) (mg : Str → Option Value) (base : Heap) (g : Addr) : Prop := FnR P w K mg base (L2N.CX P w) 4 g (spPart K)
/-- what the class of the part x says: its __init__ ends with super().__init__(..) -/
structure SupI (P : Program) (K : PySem.W.Frag) (C f g : Addr) (q : Str) (st : Stmt) (fd : FuncData) : Prop where
  ex : ∃ (c cc : Addr) (dV kV doc pm ct : Value) (an : Option Addr), fd = PySem.W.fnX "__init__" q (defArgs st) (defBody st) (defScope st) [(("__class__" : Str), cc)] dV kV doc pm an (.ref c) ct ∧ SupP P K C f c cc g fd ∧ PySem.W.codeIn K (.ref c) q = true
def tF (p q m : Nat) : List (Str × V) := ("payer", .str (S [p])) :: ("payee", .str (S [q])) :: ("amount", .int (m : Int)) :: tlP (.tr p q m)
def spTI (C : Addr) : Sp := fun vs H Q _ => ∃ (n dx : Addr) (p q m : Nat), vs = [.ref n, .str (S [p]), .str (S [q]), .int (m : Int)] ∧ H n = some (.ins C dx []) ∧ Ok (.tr p q m) ∧ Q .non (upd H n (.ins C dx (tF p q m)))
theorem ok_tinit {C : Addr} (SI : SupI P K C f g "Transfer.__init__" s_Transfer___init__ fd) (FB : FnB P w K mg base g) (m_super : mg "super" = none) (fl : Fl3 K C) (n1 : NoAttr K C "payer") (n2 : NoAttr K C "payee") (n3 : NoAttr K C "amount") (tok_MOST_AMOUNT : Tok) (g_MOST_AMOUNT : mg "MOST_AMOUNT" = some (.int (10 ^ 60) tok_MOST_AMOUNT)) (c_check_party : CalX P w K mg base 3 "check_party" (spChP CP)) : FnOk P w K mg base (L2N.CX P w) 5 f fd P_Transfer___init__ (spTI C) := by
  obtain ⟨c, cc, dV, kV, doc, pm, ct, an, hfd, SS, hcd⟩ := SI.ex
  refine sup_last (F := ⟨"__init__", "Transfer.__init__", defArgs s_Transfer___init__, defBody s_Transfer___init__, defScope s_Transfer___init__, [(("__class__" : Str), cc)], c⟩) (N := N_Transfer___init__) (pre := (defBody s_Transfer___init__).dropLast) (j := 4) (k := 4) hfd SS hcd sc_Transfer___init__ rfl rfl (show (defScope s_Transfer___init__).names.lookup ("super" : Str) = some .globalImplicit by decide +kernel) m_super rfl (show (defScope s_Transfer___init__).names.lookup ("self" : Str) = some .local by decide +kernel) rfl FB (Nat.le_refl _) (fun vs H Q E h => ?_) (fun _ _ _ _ _ => rfl) (fun _ _ _ _ _ => rfl) (fun _ _ _ _ _ => rfl) (fun _ _ _ _ _ => rfl) (fun _ _ _ _ _ => rfl) (fun A outer s H vs Q E hr h => ?_)
  · obtain ⟨n, dx, p, q, m, rfl, _⟩ := h
    rfl
  · obtain ⟨n, dx, p, q, m, rfl, hn, ok, qq⟩ := h
    rw [Ok] at ok
    obtain ⟨hp, hq, pq, hm⟩ := ok
    refine ⟨_, _, (pss_cons (ps_expr (pe_clE c_check_party (fun _ => passS0) hr (by decide) (by rfl) (pa_cons (pv 1) pa_nil)))
      (pss_cons (ps_expr (pe_clE c_check_party (fun _ => passS0) hr (by decide) (by rfl) (pa_cons (pv 2) pa_nil)))
      (pss_cons (ps_if (pt_cmpR op_eq (pv 2) (pv 1) (nomark _)) (pss_one ps_never) pss_nil)
      (pss_cons (ps_if (PW.pt (pw_or (pt_cmpR op_lt (pv 3) pe_int (nomark _)) (pw_or1 (pt_cmpR op_gt (pv 3) (pe_glob (v := .int 1000000000000000000000000000000000000000000000000000000000000) (by rfl) g_MOST_AMOUNT ⟨_, rfl⟩) (nomark _))))) (pss_one ps_never) pss_nil)
      (pss_cons (ps_fld (pv 0) (pv 1) rfl)
      (pss_cons (ps_fld (pv 0) (pv 2) rfl)
      (pss_one (ps_fld (pv 0) (pv 3) rfl)))))))), (pa_cons pe_int (pa_cons pe_int (pa_cons (pe_joined (.cons (pe_fmt (pv 1)) (.cons (pe_fmt (pv 2)) (.cons (pe_fmt (pv 3)) .nil)))) pa_nil))), ?_⟩
    walk_at "go"
    refine ⟨(show 1 ≤ 10000 by decide), fun _ => ?_, fun z => by rw [isPy_one hp] at z; cases z⟩
    walk_at "go"
    refine ⟨(show 1 ≤ 10000 by decide), fun _ => ?_, fun z => by rw [isPy_one hq] at z; cases z⟩
    walk_at "go"
    rw [decide_eq_false (show ¬ V.str (S [q]) = V.str (S [p]) from fun z => by
      injection z with z
      have := S_inj z
      injection this with this
      exact pq this.symm)]
    walk_at "go"
    refine ite2 (fun e => by have := of_decide_eq_true e; omega) (fun _ => ?_)
    walk_at "go"
    refine ⟨n, C, dx, _, rfl, hn, fl.cls, n1, (show 0 < 1000 by decide), ?_⟩
    walk_at "go"
    refine ⟨n, C, dx, _, rfl, upd_same, fl.cls, n2, (show 1 < 1000 by decide), ?_⟩
    walk_at "go"
    refine ⟨n, C, dx, _, rfl, upd_same, fl.cls, n3, (show 2 < 1000 by decide), ?_⟩
    refine ⟨n, dx, _, rfl, upd_same, ?_⟩
    walk_at "go"
    refine ⟨by rw [S_len]; exact szl (show 1 ≤ 100000 by decide), S [p], rfl, by rw [emS, S_len]; exact szl (show 1 ≤ 100000 by decide), ?_⟩
    rw [emS]
    walk_at "go"
    refine ⟨by rw [S_len]; exact szl (show 1 ≤ 100000 by decide), S [q], rfl, by rw [S_cat, S_len]; exact szl (show 2 ≤ 100000 by decide), ?_⟩
    rw [S_cat]
    have ld := dig_len hm
    refine ⟨_, rfl, .inr ⟨(m : Int), rfl, lg60 hm, ?_⟩⟩
    rw [str_dig]
    refine ⟨S (dig m), rfl, by rw [S_cat, S_len]; exact szl (by rw [List.length_append]; show 2 + (dig m).length ≤ 100000; omega), ?_⟩
    rw [S_cat]
    refine ⟨n, C, dx, _, 1, 1, S (tx (.tr p q m)), by rw [tx]; rfl, upd_same, fl, (show 3 ≤ 10 by decide), by decide, by decide, ?_⟩
    rw [upd_upd, upd_upd, upd_upd]
    have e : tF p q m = put3 1 1 (S (tx (.tr p q m))) (putF "amount" (V.int (m : Int)) (putF "payee" (V.str (S [q])) (putF "payer" (V.str (S [p])) []))) := by
      unfold tF tlP
      rw [wt, dp]
      rfl
    rw [← e]
    exact qq
end
end Z
set_option pp.maxSteps 700
set_option Elab.async false
set_option linter.all false
set_option maxRecDepth 100000
set_option maxHeartbeats 4000000
open SX (S S_inj S_len S_cat)
namespace Z
open Pk NdefX
open PySem PySem.Spec PyProof.Rows L2
open C8 (pss_cut tCut)
local macro_rules | `(tactic| walk_at "num") => `(tactic| first | rfl | omega | decide | exact Nat.le_of_lt (small1000 (by simp)) | exact ⟨by omega, by omega⟩ | exact ⟨by omega, by omega, by omega⟩ | exact ⟨by decide, by decide, by decide⟩ | exact Or.inl ⟨by omega, by omega⟩ | exact Or.inr ⟨by omega, by omega⟩)
local macro_rules | `(tactic| walk_at "go") => `(tactic| repeat (first | refine ⟨_, rfl, ?_⟩ | refine ⟨_, _, rfl, rfl, ?_⟩ | refine ⟨_, _, rfl, ?_⟩ | (refine ⟨_, _, rfl, rfl, ?_, ?_⟩; focus walk_at "num") | refine Or.inl ⟨_, rfl, ?_⟩ | refine ⟨_, _, _, _, rfl, rfl, (by assumption), (by rfl), ?_⟩ | refine ⟨_, _, _, _, _, rfl, (by assumption), (by assumption), (by assumption), (by rfl), ?_⟩ | refine ⟨rfl, ?_⟩ | (refine And.intro ?_ ?_; focus walk_at "num")))
abbrev s_as_pact : Stmt := topS 31
abbrev N_as_pact : List Str := ["value"]
abbrev P_as_pact : List Str := ["value"]
theorem sc_as_pact : FnScope N_as_pact P_as_pact (defScope s_as_pact) := ⟨rfl, rfl, rfl, by decide +kernel, rfl, by decide +kernel, by decide +kernel⟩
abbrev s_Rounds___init__ : Stmt := inClass (topS 27) 1
abbrev N_Rounds___init__ : List Str := ["self", "owner", "body", "__class__"]
abbrev P_Rounds___init__ : List Str := ["self", "owner", "body"]
theorem sc_Rounds___init__ : NdefX.NScope N_Rounds___init__ P_Rounds___init__ [("__class__" : Str)] (defScope s_Rounds___init__) := NdefX.nscope_by (by decide +kernel)
abbrev s_Endless___init__ : Stmt := inClass (topS 28) 1
abbrev N_Endless___init__ : List Str := ["self", "body", "__class__"]
abbrev P_Endless___init__ : List Str := ["self", "body"]
theorem sc_Endless___init__ : NdefX.NScope N_Endless___init__ P_Endless___init__ [("__class__" : Str)] (defScope s_Endless___init__) := NdefX.nscope_by (by decide +kernel)
abbrev s_Times___init__ : Stmt := inClass (topS 29) 1
abbrev N_Times___init__ : List Str := ["self", "count", "body", "__class__"]
abbrev P_Times___init__ : List Str := ["self", "count", "body"]
theorem sc_Times___init__ : NdefX.NScope N_Times___init__ P_Times___init__ [("__class__" : Str)] (defScope s_Times___init__) := NdefX.nscope_by (by decide +kernel)
section
variable {P : Program} {w : World} {K : PySem.W.Frag} {mg : Str → Option Value} {base : Heap} {f C g CP : Addr} {k : Cs} {fd : FuncData}
def eF (c : Nat) : List (Str × V) := ("mark", .str (S [c])) :: tlP (.ev c)
def spEI (C : Addr) : Sp := fun vs H Q _ => ∃ (n dx : Addr) (c : Nat), vs = [.ref n, .str (S [c])] ∧ H n = some (.ins C dx []) ∧ Ok (.ev c) ∧ Q .non (upd H n (.ins C dx (eF c)))
theorem ok_einit (SI : SupI P K C f g "Event.__init__" s_Event___init__ fd) (FB : FnB P w K mg base g) (m_super : mg "super" = none) (fl : Fl3 K C) (n1 : NoAttr K C "mark") (c_check_mark : CalX P w K mg base 3 "check_mark" spChM) : FnOk P w K mg base (L2N.CX P w) 5 f fd P_Event___init__ (spEI C) := by
  obtain ⟨c, cc, dV, kV, doc, pm, ct, an, hfd, SS, hcd⟩ := SI.ex
  refine sup_last (F := ⟨"__init__", "Event.__init__", defArgs s_Event___init__, defBody s_Event___init__, defScope s_Event___init__, [(("__class__" : Str), cc)], c⟩) (N := N_Event___init__) (pre := (defBody s_Event___init__).dropLast) (j := 4) (k := 4) hfd SS hcd sc_Event___init__ rfl rfl (show (defScope s_Event___init__).names.lookup ("super" : Str) = some .globalImplicit by decide +kernel) m_super rfl (show (defScope s_Event___init__).names.lookup ("self" : Str) = some .local by decide +kernel) rfl FB (Nat.le_refl _) (fun vs H Q E h => ?_) (fun _ _ _ _ _ => rfl) (fun _ _ _ _ _ => rfl) (fun _ _ _ _ _ => rfl) (fun _ _ _ _ _ => rfl) (fun _ _ _ _ _ => rfl) (fun A outer s H vs Q E hr h => ?_)
  · obtain ⟨n, dx, c, rfl, _⟩ := h
    rfl
  · obtain ⟨n, dx, c, rfl, hn, ok, qq⟩ := h
    rw [Ok] at ok
    refine ⟨_, _, (pss_cons (ps_expr (pe_clE c_check_mark (fun _ => passS0) hr (by decide) (by rfl) (pa_cons (pv 1) pa_nil)))
      (pss_one (ps_fld (pv 0) (pv 1) rfl))), (pa_cons pe_int (pa_cons pe_int (pa_cons (pv 1) pa_nil))), ?_⟩
    walk_at "go"
    refine ⟨(show 1 ≤ 10000 by decide), isMk_one ok, ?_⟩
    walk_at "go"
    refine ⟨n, C, dx, _, rfl, hn, fl.cls, n1, (show 0 < 1000 by decide), ?_⟩
    refine ⟨n, dx, _, rfl, upd_same, ?_⟩
    walk_at "go"
    refine ⟨n, C, dx, _, 1, 1, S (tx (.ev c)), by rw [tx]; rfl, upd_same, fl, (show 1 ≤ 10 by decide), by decide, by decide, ?_⟩
    rw [upd_upd]
    have e : eF c = put3 1 1 (S (tx (.ev c))) (putF "mark" (V.str (S [c])) []) := by
      unfold eF tlP
      rw [wt, dp]
      rfl
    rw [← e]
    exact qq
/-- the facts of the class Pact -/
structure PaK (K : PySem.W.Frag) (C : Addr) : Prop where
  is : C8.InsC K C
  fl : Fl3 K C
  np : NoAttr K C "parts"
def spAsP (k : Cs) (K : PySem.W.Frag) : Sp := fun vs H Q _ => ∃ (x : Addr) (b : List Pt), vs = [.ref x] ∧ PaAt k K H b x ∧ Q (.ref x) H
theorem ok_as_pact (F : FnP K "as_pact" s_as_pact f fd) (m_isinstance : mg "isinstance" = none) (pk : PaK K k.P) (g_Pact : mg "Pact" = some (.ref k.P)) : FnOk P w K mg base (L2N.CX P w) 1 f fd P_as_pact (spAsP k K) := by
  refine F.ok sc_as_pact (fun vs H Q E h => ?_) (fun cdv A outer s H vs Q E hr h => ?_)
  · obtain ⟨x, b, rfl, _⟩ := h
    rfl
  · obtain ⟨x, b, rfl, ⟨dy, t, as, hx, _⟩, q⟩ := h
    have isP := pk.is
    refine ⟨_, (pss_cons (ps_if (pt_not (pt_val (pe_callB (C8.call_isC isP) (by rfl) m_isinstance (by decide +kernel) (pa_cons (pv 0) (pa_cons (pe_glob (by rfl) g_Pact relv_ref) pa_nil))))) (pss_one ps_never) pss_nil)
      (pss_one (ps_ret (pv 0)))), ?_⟩
    walk_at "go"
    refine ⟨x, dy, _, rfl, hx, ?_⟩
    walk_at "go"
    exact q
theorem put_at {fs : List (Str × V)} {C dx : Addr} {n : Addr} {H : Hp} (e : H n = some (.ins C dx fs)) : (upd H n (.ins C dx fs)) n = some (.ins C dx fs) := upd_same
def rF (o : Nat) (b : List Pt) (x : Addr) : List (Str × V) := ("owner", .str (S [o])) :: ("body", .ref x) :: tlP (.rd o b)
def spRI (C : Addr) (k : Cs) (K : PySem.W.Frag) : Sp := fun vs H Q _ => ∃ (n dx x : Addr) (o : Nat) (b : List Pt), vs = [.ref n, .str (S [o]), .ref x] ∧ H n = some (.ins C dx []) ∧ Ok (.rd o b) ∧ PaAt k K H b x ∧ wt (.rd o b) ≤ 400 ∧ dp (.rd o b) ≤ 30 ∧ Q .non (upd H n (.ins C dx (rF o b x)))
theorem ok_rinit (SI : SupI P K C f g "Rounds.__init__" s_Rounds___init__ fd) (FB : FnB P w K mg base g) (m_super : mg "super" = none) (fl : Fl3 K C) (n1 : NoAttr K C "owner") (n2 : NoAttr K C "body") (pk : PaK K k.P) (c_check_party : CalX P w K mg base 3 "check_party" (spChP CP)) (c_as_pact : CalX P w K mg base 1 "as_pact" (spAsP k K)) : FnOk P w K mg base (L2N.CX P w) 5 f fd P_Rounds___init__ (spRI C k K) := by
  obtain ⟨c, cc, dV, kV, doc, pm, ct, an, hfd, SS, hcd⟩ := SI.ex
  refine sup_last (F := ⟨"__init__", "Rounds.__init__", defArgs s_Rounds___init__, defBody s_Rounds___init__, defScope s_Rounds___init__, [(("__class__" : Str), cc)], c⟩) (N := N_Rounds___init__) (pre := (defBody s_Rounds___init__).dropLast) (j := 4) (k := 4) hfd SS hcd sc_Rounds___init__ rfl rfl (show (defScope s_Rounds___init__).names.lookup ("super" : Str) = some .globalImplicit by decide +kernel) m_super rfl (show (defScope s_Rounds___init__).names.lookup ("self" : Str) = some .local by decide +kernel) rfl FB (Nat.le_refl _) (fun vs H Q E h => ?_) (fun _ _ _ _ _ => rfl) (fun _ _ _ _ _ => rfl) (fun _ _ _ _ _ => rfl) (fun _ _ _ _ _ => rfl) (fun _ _ _ _ _ => rfl) (fun A outer s H vs Q E hr h => ?_)
  · obtain ⟨n, dx, x, o, b, rfl, _⟩ := h
    rfl
  · obtain ⟨n, dx, x, o, b, rfl, hn, ok, hb, hw, hd, qq⟩ := h
    rw [Ok] at ok
    obtain ⟨ho, okb⟩ := ok
    have lb := txB_len b okb
    have lS : (S (txB b)).length = (txB b).length := S_len _
    obtain ⟨dy, t, as, hx, ht, hps⟩ := id hb
    have xn : x ≠ n := fun e => by rw [e, hn] at hx; cases hx
    rw [wt] at hw
    rw [dp] at hd
    refine ⟨_, _, (pss_cons (ps_expr (pe_clE c_check_party (fun _ => passS0) hr (by decide) (by rfl) (pa_cons (pv 1) pa_nil)))
      (pss_cons (ps_fld (pv 0) (pv 1) rfl)
      (pss_one (ps_fld (pv 0) (pe_clE c_as_pact (fun _ => passS0) hr (by decide) (by rfl) (pa_cons (pv 2) pa_nil)) rfl)))), (pa_cons (pe_op op_add (pe_fld (pv 2) rfl) pe_int) (pa_cons (pe_op op_add (pe_fld (pv 2) rfl) pe_int) (pa_cons (pe_joined (.cons (pe_fmt (pv 1)) (.cons pe_str (.cons (pe_fmt (pe_fld (pv 2) rfl)) (.cons pe_str .nil))))) pa_nil))), ?_⟩
    walk_at "go"
    refine ⟨(show 1 ≤ 10000 by decide), fun _ => ?_, fun z => by rw [isPy_one ho] at z; cases z⟩
    walk_at "go"
    refine ⟨n, C, dx, _, rfl, hn, fl.cls, n1, (show 0 < 1000 by decide), ?_⟩
    walk_at "go"
    have sb : SB n H (upd H n (.ins C dx (putF "owner" (V.str (S [o])) []))) := SB.upd (Z.Same.sb (Same.refl _))
    refine ⟨x, b, rfl, hb.sbN sb hn, ?_⟩
    walk_at "go"
    refine ⟨n, C, dx, _, rfl, upd_same, fl.cls, n2, (show 1 < 1000 by decide), ?_⟩
    rw [upd_upd]
    have hx2 : (upd H n (.ins C dx (putF "body" (V.ref x) (putF "owner" (V.str (S [o])) [])))) x = some (.ins k.P dy (pfl t b)) := by rw [upd_ne xn]; exact hx
    refine ⟨n, dx, _, rfl, upd_same, ?_⟩
    walk_at "go"
    refine ⟨x, k.P, dy, _, _, rfl, hx2, pk.fl.cls, pk.fl.nw, rfl, ?_⟩
    walk_at "go"
    refine ⟨x, k.P, dy, _, _, rfl, hx2, pk.fl.cls, pk.fl.nd, rfl, ?_⟩
    walk_at "go"
    refine ⟨by rw [S_len]; exact szl (show 1 ≤ 100000 by decide), S [o], rfl, by rw [emS, S_len]; exact szl (show 1 ≤ 100000 by decide), ?_⟩
    rw [emS]
    refine ⟨S [91], rfl, by rw [S_cat, S_len]; exact szl (by simp only [List.length_append, List.length_cons, List.length_nil]; omega), ?_⟩
    rw [S_cat]
    refine ⟨_, rfl, ?_⟩
    refine ⟨x, k.P, dy, _, _, rfl, hx2, pk.fl.cls, pk.fl.nt, rfl, ?_⟩
    refine .inl ⟨S (txB b), rfl, by rw [S_len]; exact szl (by omega), S (txB b), rfl, by rw [S_cat, S_len]; exact szl (by simp only [List.length_append, List.length_cons, List.length_nil]; omega), ?_⟩
    rw [S_cat]
    refine ⟨S [93], rfl, by rw [S_cat, S_len]; exact szl (by simp only [List.length_append, List.length_cons, List.length_nil]; omega), ?_⟩
    rw [S_cat]
    refine ⟨n, C, dx, _, wtL b + 1, dpL b + 1, S (tx (.rd o b)), by rw [tx]; rfl, upd_same, fl, (show 2 ≤ 10 by decide), hw, hd, ?_⟩
    rw [upd_upd]
    have e : rF o b x = put3 (wtL b + 1) (dpL b + 1) (S (tx (.rd o b))) (putF "body" (V.ref x) (putF "owner" (V.str (S [o])) [])) := by
      unfold rF tlP
      rw [wt, dp]
      rfl
    rw [← e]
    exact qq
def nF (b : List Pt) (x : Addr) : List (Str × V) := ("body", .ref x) :: tlP (.en b)
def spNI (C : Addr) (k : Cs) (K : PySem.W.Frag) : Sp := fun vs H Q _ => ∃ (n dx x : Addr) (b : List Pt), vs = [.ref n, .ref x] ∧ H n = some (.ins C dx []) ∧ Ok (.en b) ∧ PaAt k K H b x ∧ wt (.en b) ≤ 400 ∧ dp (.en b) ≤ 30 ∧ Q .non (upd H n (.ins C dx (nF b x)))
theorem ok_ninit (SI : SupI P K C f g "Endless.__init__" s_Endless___init__ fd) (FB : FnB P w K mg base g) (m_super : mg "super" = none) (fl : Fl3 K C) (n2 : NoAttr K C "body") (pk : PaK K k.P) (c_as_pact : CalX P w K mg base 1 "as_pact" (spAsP k K)) : FnOk P w K mg base (L2N.CX P w) 5 f fd P_Endless___init__ (spNI C k K) := by
  obtain ⟨c, cc, dV, kV, doc, pm, ct, an, hfd, SS, hcd⟩ := SI.ex
  refine sup_last (F := ⟨"__init__", "Endless.__init__", defArgs s_Endless___init__, defBody s_Endless___init__, defScope s_Endless___init__, [(("__class__" : Str), cc)], c⟩) (N := N_Endless___init__) (pre := (defBody s_Endless___init__).dropLast) (j := 4) (k := 4) hfd SS hcd sc_Endless___init__ rfl rfl (show (defScope s_Endless___init__).names.lookup ("super" : Str) = some .globalImplicit by decide +kernel) m_super rfl (show (defScope s_Endless___init__).names.lookup ("self" : Str) = some .local by decide +kernel) rfl FB (Nat.le_refl _) (fun vs H Q E h => ?_) (fun _ _ _ _ _ => rfl) (fun _ _ _ _ _ => rfl) (fun _ _ _ _ _ => rfl) (fun _ _ _ _ _ => rfl) (fun _ _ _ _ _ => rfl) (fun A outer s H vs Q E hr h => ?_)
  · obtain ⟨n, dx, x, b, rfl, _⟩ := h
    rfl
  · obtain ⟨n, dx, x, b, rfl, hn, ok, hb, hw, hd, qq⟩ := h
    rw [Ok] at ok
    have lb := txB_len b ok
    have lS : (S (txB b)).length = (txB b).length := S_len _
    obtain ⟨dy, t, as, hx, ht, hps⟩ := id hb
    have xn : x ≠ n := fun e => by rw [e, hn] at hx; cases hx
    rw [wt] at hw
    rw [dp] at hd
    refine ⟨_, _, (pss_one (ps_fld (pv 0) (pe_clE c_as_pact (fun _ => passS0) hr (by decide) (by rfl) (pa_cons (pv 1) pa_nil)) rfl)), (pa_cons (pe_op op_add (pe_fld (pv 1) rfl) pe_int) (pa_cons (pe_op op_add (pe_fld (pv 1) rfl) pe_int) (pa_cons (pe_joined (.cons pe_str (.cons (pe_fmt (pe_fld (pv 1) rfl)) (.cons pe_str .nil)))) pa_nil))), ?_⟩
    walk_at "go"
    refine ⟨x, b, rfl, hb, ?_⟩
    walk_at "go"
    refine ⟨n, C, dx, _, rfl, hn, fl.cls, n2, (show 0 < 1000 by decide), ?_⟩
    have hx2 : (upd H n (.ins C dx (putF "body" (V.ref x) []))) x = some (.ins k.P dy (pfl t b)) := by rw [upd_ne xn]; exact hx
    refine ⟨n, dx, _, rfl, upd_same, ?_⟩
    walk_at "go"
    refine ⟨x, k.P, dy, _, _, rfl, hx2, pk.fl.cls, pk.fl.nw, rfl, ?_⟩
    walk_at "go"
    refine ⟨x, k.P, dy, _, _, rfl, hx2, pk.fl.cls, pk.fl.nd, rfl, ?_⟩
    walk_at "go"
    rw [show Str.empty ++ Str.ofString "[" = S [91] by decide +kernel]
    refine ⟨x, k.P, dy, _, _, rfl, hx2, pk.fl.cls, pk.fl.nt, rfl, ?_⟩
    refine .inl ⟨S (txB b), rfl, by rw [S_len]; exact szl (by omega), S (txB b), rfl, by rw [S_cat, S_len]; exact szl (by simp only [List.length_append, List.length_cons, List.length_nil]; omega), ?_⟩
    rw [S_cat]
    refine ⟨S [93], rfl, by rw [S_cat, S_len]; exact szl (by simp only [List.length_append, List.length_cons, List.length_nil]; omega), ?_⟩
    rw [S_cat]
    refine ⟨n, C, dx, _, wtL b + 1, dpL b + 1, S (tx (.en b)), by rw [tx]; rfl, upd_same, fl, (show 1 ≤ 10 by decide), hw, hd, ?_⟩
    rw [upd_upd]
    have e : nF b x = put3 (wtL b + 1) (dpL b + 1) (S (tx (.en b))) (putF "body" (V.ref x) []) := by
      unfold nF tlP
      rw [wt, dp]
      rfl
    rw [← e]
    exact qq
def mF (c : Nat) (b : List Pt) (x : Addr) : List (Str × V) := ("count", .int (c : Int)) :: ("body", .ref x) :: tlP (.ti c b)
def spMI (C : Addr) (k : Cs) (K : PySem.W.Frag) : Sp := fun vs H Q _ => ∃ (n dx x : Addr) (c : Nat) (b : List Pt), vs = [.ref n, .int (c : Int), .ref x] ∧ H n = some (.ins C dx []) ∧ Ok (.ti c b) ∧ PaAt k K H b x ∧ wt (.ti c b) ≤ 400 ∧ dp (.ti c b) ≤ 30 ∧ Q .non (upd H n (.ins C dx (mF c b x)))
theorem ok_timesinit (SI : SupI P K C f g "Times.__init__" s_Times___init__ fd) (FB : FnB P w K mg base g) (m_super : mg "super" = none) (m_max : mg "max" = none) (tok_MOST_COUNT : Tok) (g_MOST_COUNT : mg "MOST_COUNT" = some (.int 100 tok_MOST_COUNT)) (fl : Fl3 K C) (n1 : NoAttr K C "count") (n2 : NoAttr K C "body") (pk : PaK K k.P) (c_as_pact : CalX P w K mg base 1 "as_pact" (spAsP k K)) : FnOk P w K mg base (L2N.CX P w) 5 f fd P_Times___init__ (spMI C k K) := by
  obtain ⟨c, cc, dV, kV, doc, pm, ct, an, hfd, SS, hcd⟩ := SI.ex
  refine sup_last (F := ⟨"__init__", "Times.__init__", defArgs s_Times___init__, defBody s_Times___init__, defScope s_Times___init__, [(("__class__" : Str), cc)], c⟩) (N := N_Times___init__) (pre := (defBody s_Times___init__).dropLast) (j := 4) (k := 4) hfd SS hcd sc_Times___init__ rfl rfl (show (defScope s_Times___init__).names.lookup ("super" : Str) = some .globalImplicit by decide +kernel) m_super rfl (show (defScope s_Times___init__).names.lookup ("self" : Str) = some .local by decide +kernel) rfl FB (Nat.le_refl _) (fun vs H Q E h => ?_) (fun _ _ _ _ _ => rfl) (fun _ _ _ _ _ => rfl) (fun _ _ _ _ _ => rfl) (fun _ _ _ _ _ => rfl) (fun _ _ _ _ _ => rfl) (fun A outer s H vs Q E hr h => ?_)
  · obtain ⟨n, dx, x, o, b, rfl, _⟩ := h
    rfl
  · obtain ⟨n, dx, x, o, b, rfl, hn, ok, hb, hw, hd, qq⟩ := h
    rw [Ok] at ok
    obtain ⟨ho, okb⟩ := ok
    have lb := txB_len b okb
    have lS : (S (txB b)).length = (txB b).length := S_len _
    have ld := dig_len3 ho
    obtain ⟨dy, t, as, hx, ht, hps⟩ := id hb
    have xn : x ≠ n := fun e => by rw [e, hn] at hx; cases hx
    rw [wt] at hw
    rw [dp] at hd
    have lg : ((o : Int)).natAbs.log2 < 1920 := lg60 (Nat.le_trans ho (by decide +kernel))
    refine ⟨_, _, (pss_cons (ps_if (pt_not (pt_chain op_le op_le pe_int (pv 1) (pe_glob (v := .int 100) (by rfl) g_MOST_COUNT ⟨_, rfl⟩))) (pss_one ps_never) pss_nil)
      (pss_cons (ps_fld (pv 0) (pv 1) rfl)
      (pss_one (ps_fld (pv 0) (pe_clE c_as_pact (fun _ => passS0) hr (by decide) (by rfl) (pa_cons (pv 2) pa_nil)) rfl)))), (pa_cons (pe_op op_add (pe_op op_mul (pe_fld (pv 2) rfl) (pe_callB (call_max2 rfl) (by rfl) m_max (by decide +kernel) (pa_cons pe_int (pa_cons (pv 1) pa_nil)))) pe_int) (pa_cons (pe_op op_add (pe_fld (pv 2) rfl) pe_int) (pa_cons (pe_joined (.cons (pe_fmt (pv 1)) (.cons pe_str (.cons (pe_fmt (pe_fld (pv 2) rfl)) (.cons pe_str .nil))))) pa_nil))), ?_⟩
    walk_at "go"
    rw [decide_eq_true (show (o : Int) ≤ 100 by omega)]
    walk_at "go"
    refine ⟨n, C, dx, _, rfl, hn, fl.cls, n1, (show 0 < 1000 by decide), ?_⟩
    walk_at "go"
    have sb : SB n H (upd H n (.ins C dx (putF "count" (V.int (o : Int)) []))) := SB.upd (Z.Same.sb (Same.refl _))
    refine ⟨x, b, rfl, hb.sbN sb hn, ?_⟩
    walk_at "go"
    refine ⟨n, C, dx, _, rfl, upd_same, fl.cls, n2, (show 1 < 1000 by decide), ?_⟩
    rw [upd_upd]
    have hx2 : (upd H n (.ins C dx (putF "body" (V.ref x) (putF "count" (V.int (o : Int)) [])))) x = some (.ins k.P dy (pfl t b)) := by rw [upd_ne xn]; exact hx
    refine ⟨n, dx, _, rfl, upd_same, ?_⟩
    walk_at "go"
    refine ⟨x, k.P, dy, _, _, rfl, hx2, pk.fl.cls, pk.fl.nw, rfl, ?_⟩
    obtain ⟨z, hz⟩ : ∃ z : Nat, z = if o < 1 then 1 else o := ⟨_, rfl⟩
    have hz2 : (if (o : Int) > 1 then (o : Int) else 1) = (z : Int) := by
      rw [hz]
      by_cases c : o < 1
      · rw [if_pos c, if_neg (by omega)]
        rfl
      · rw [if_neg c]
        by_cases c2 : (o : Int) > 1
        · rw [if_pos c2]
        · rw [if_neg c2]
          omega
    have z1 : 1 ≤ z := by rw [hz]; split <;> omega
    have wb : wtL b ≤ wtL b * z := Nat.le_mul_of_pos_right _ z1
    rw [← hz] at hw
    walk_at "go"
    rw [hz2]
    refine ⟨x, k.P, dy, _, _, rfl, hx2, pk.fl.cls, pk.fl.nd, rfl, ?_⟩
    walk_at "go"
    refine .inr ⟨_, rfl, lg, ?_⟩
    rw [str_dig, ]
    refine ⟨_, rfl, by rw [emS, S_len]; exact szl (by omega), ?_⟩
    rw [emS]
    refine ⟨S [40], rfl, by rw [S_cat, S_len]; exact szl (by simp only [List.length_append, List.length_cons, List.length_nil]; omega), ?_⟩
    rw [S_cat]
    refine ⟨_, rfl, ?_⟩
    refine ⟨x, k.P, dy, _, _, rfl, hx2, pk.fl.cls, pk.fl.nt, rfl, ?_⟩
    refine .inl ⟨S (txB b), rfl, by rw [S_len]; exact szl (by omega), S (txB b), rfl, by rw [S_cat, S_len]; exact szl (by simp only [List.length_append, List.length_cons, List.length_nil]; omega), ?_⟩
    rw [S_cat]
    refine ⟨S [41], rfl, by rw [S_cat, S_len]; exact szl (by simp only [List.length_append, List.length_cons, List.length_nil]; omega), ?_⟩
    rw [S_cat]
    refine ⟨n, C, dx, _, wtL b * z + 1, dpL b + 1, S (tx (.ti o b)), by rw [tx]; rfl, upd_same, fl, (show 2 ≤ 10 by decide), hw, hd, ?_⟩
    rw [upd_upd]
    have e : mF o b x = put3 (wtL b * z + 1) (dpL b + 1) (S (tx (.ti o b))) (putF "body" (V.ref x) (putF "count" (V.int (o : Int)) [])) := by
      unfold mF tlP
      rw [wt, dp, ← hz]
      rfl
    rw [← e]
    exact qq
end
end Z
set_option pp.maxSteps 700
set_option Elab.async false
set_option linter.all false
set_option maxRecDepth 100000
set_option maxHeartbeats 4000000
open SX (S S_inj S_len S_cat)
namespace Z
open Pk NdefX
open PySem PySem.Spec PyProof.Rows L2
open C8 (pss_cut tCut)
local macro_rules | `(tactic| walk_at "num") => `(tactic| first | rfl | omega | decide | exact Nat.le_of_lt (small1000 (by simp)) | exact ⟨by omega, by omega⟩ | exact ⟨by omega, by omega, by omega⟩ | exact ⟨by decide, by decide, by decide⟩ | exact Or.inl ⟨by omega, by omega⟩ | exact Or.inr ⟨by omega, by omega⟩)
local macro_rules | `(tactic| walk_at "go") => `(tactic| repeat (first | refine ⟨_, rfl, ?_⟩ | refine ⟨_, _, rfl, rfl, ?_⟩ | refine ⟨_, _, rfl, ?_⟩ | (refine ⟨_, _, rfl, rfl, ?_, ?_⟩; focus walk_at "num") | refine Or.inl ⟨_, rfl, ?_⟩ | refine ⟨_, _, _, _, rfl, rfl, (by assumption), (by rfl), ?_⟩ | refine ⟨_, _, _, _, _, rfl, (by assumption), (by assumption), (by assumption), (by rfl), ?_⟩ | refine ⟨rfl, ?_⟩ | (refine And.intro ?_ ?_; focus walk_at "num")))
abbrev s_Choice___init__ : Stmt := inClass (topS 26) 1
abbrev N_Choice___init__ : List Str := ["self", "owner", "options", "__class__", "option", "weight", "depth", "inner"]
abbrev P_Choice___init__ : List Str := ["self", "owner", "options"]
theorem sc_Choice___init__ : NdefX.NScope N_Choice___init__ P_Choice___init__ [("__class__" : Str)] (defScope s_Choice___init__) := NdefX.nscope_by (by decide +kernel)
section
variable {P : Program} {w : World} {K : PySem.W.Frag} {mg : Str → Option Value} {base : Heap} {f C g CP : Addr} {k : Cs} {fd : FuncData}
theorem jn_eq (s : List Nat) : ∀ ts : List (List Nat), TL.joinL s ts = jn s ts
  | [] => rfl
  | [a] => rfl
  | a :: b :: r => by
    have := jn_eq s (b :: r)
    show a ++ (s ++ TL.joinL s (b :: r)) = a ++ s ++ jn s (b :: r)
    rw [this, List.append_assoc]
theorem len3 (ts : List (List Nat)) : ((ts.map S).map fun x => x.length).sum + (ts.map S).length * 3 = (ts.map fun t => t.length + 3).sum := by
  induction ts with
  | nil => rfl
  | cons t ts ih =>
    rw [List.map_cons, List.map_cons, List.map_cons, List.sum_cons, List.sum_cons, List.length_cons, S_len, ← ih]
    omega
theorem max_is {ns : List Int} {m : Int} (h1 : m ∈ ns) (h2 : ∀ x ∈ ns, x ≤ m) : ∀ m2, m2 ∈ ns → (∀ x ∈ ns, x ≤ m2) → m2 = m := fun m2 g1 g2 => by
  have := h2 m2 g1
  have := g2 m h1
  omega
theorem dpLL_max : ∀ {os : List (List Pt)} {m : Int}, m ∈ os.map (fun b => (dpL b : Int)) → (∀ x ∈ os.map (fun b => (dpL b : Int)), x ≤ m) → m = (dpLL os : Int)
  | [], m, h, _ => by cases h
  | b :: os, m, h, h2 => by
    rw [dpLL]
    have hb : (dpL b : Int) ≤ m := h2 (dpL b : Int) (List.mem_map.mpr ⟨b, List.mem_cons_self, rfl⟩)
    by_cases c : os = []
    · subst c
      rw [dpLL]
      have : m = (dpL b : Int) := List.mem_singleton.mp h
      omega
    · obtain ⟨m2, hm2, hx2⟩ : ∃ m2 : Int, m2 ∈ os.map (fun b => (dpL b : Int)) ∧ ∀ x ∈ os.map (fun b => (dpL b : Int)), x ≤ m2 := by
        refine ⟨(dpLL os : Int), ?_, fun x hx => ?_⟩
        · clear h h2 hb
          induction os with
          | nil => exact absurd rfl c
          | cons d os ih =>
            rw [dpLL]
            by_cases e : os = []
            · subst e
              rw [dpLL, Nat.max_eq_left (Nat.zero_le _)]
              exact List.mem_map.mpr ⟨d, List.mem_cons_self, rfl⟩
            · by_cases l : dpLL os ≤ dpL d
              · rw [Nat.max_eq_left l]
                exact List.mem_map.mpr ⟨d, List.mem_cons_self, rfl⟩
              · rw [Nat.max_eq_right (by omega)]
                have := ih e
                rw [List.map_cons]
                exact List.mem_cons_of_mem _ this
        · obtain ⟨d, hd, rfl⟩ := List.mem_map.mp hx
          have := dpLL_mem hd
          show (dpL d : Int) ≤ _
          omega
      have e2 := dpLL_max hm2 hx2
      rw [List.map_cons] at h
      rcases List.mem_cons.mp h with h | h
      · have h : m = (dpL b : Int) := h
        have : m2 ≤ m := h2 m2 (by rw [List.map_cons]; exact List.mem_cons_of_mem _ hm2)
        omega
      · have g1 := hx2 m h
        have g2 : m2 ≤ m := h2 m2 (by rw [List.map_cons]; exact List.mem_cons_of_mem _ hm2)
        omega
theorem isum (g : α → Nat) : ∀ l : List α, (l.map fun x => (g x : Int)).sum = ((l.map g).sum : Nat)
  | [] => rfl
  | x :: l => by
    rw [List.map_cons, List.map_cons, List.sum_cons, List.sum_cons, isum g l]
    omega
def cF (o : Nat) (os : List (List Pt)) (t : Addr) : List (Str × V) := ("owner", .str (S [o])) :: ("options", .ref t) :: tlP (.ch o os)
def spCI (C : Addr) (k : Cs) (K : PySem.W.Frag) : Sp := fun vs H Q _ => ∃ (q : Bool) (n dx a : Addr) (o : Nat) (os : List (List Pt)) (as : List Addr), vs = [.ref n, .str (S [o]), .ref a] ∧ H n = some (.ins C dx []) ∧ Ok (.ch o os) ∧ SqK q K H a (as.map V.ref) ∧ PasAt k K H os as ∧ wt (.ch o os) ≤ 400 ∧ dp (.ch o os) ≤ 30 ∧ ∀ (t : Addr) H', SB n H H' → SqT K H' t (as.map V.ref) → H' n = some (.ins C dx (cF o os t)) → Q .non H'
theorem ok_cinit (SI : SupI P K C f g "Choice.__init__" s_Choice___init__ fd) (FB : FnB P w K mg base g) (m_super : mg "super" = none) (m_len : mg "len" = none) (m_tuple : mg "tuple" = none) (m_sum : mg "sum" = none) (m_max : mg "max" = none) (tok_MOST_OPTIONS : Tok) (g_MOST_OPTIONS : mg "MOST_OPTIONS" = some (.int 6 tok_MOST_OPTIONS)) (fl : Fl3 K C) (n1 : NoAttr K C "owner") (n2 : NoAttr K C "options") (pk : PaK K k.P) (c_check_party : CalX P w K mg base 3 "check_party" (spChP CP)) (c_as_pact : CalX P w K mg base 1 "as_pact" (spAsP k K)) : FnOk P w K mg base (L2N.CX P w) 5 f fd P_Choice___init__ (spCI C k K) := by
  obtain ⟨c, cc, dV, kV, doc, pm, ct, an, hfd, SS, hcd⟩ := SI.ex
  refine sup_last (F := ⟨"__init__", "Choice.__init__", defArgs s_Choice___init__, defBody s_Choice___init__, defScope s_Choice___init__, [(("__class__" : Str), cc)], c⟩) (N := N_Choice___init__) (pre := (defBody s_Choice___init__).dropLast) (j := 4) (k := 4) hfd SS hcd sc_Choice___init__ rfl rfl (show (defScope s_Choice___init__).names.lookup ("super" : Str) = some .globalImplicit by decide +kernel) m_super rfl (show (defScope s_Choice___init__).names.lookup ("self" : Str) = some .local by decide +kernel) rfl FB (Nat.le_refl _) (fun vs H Q E h => ?_) (fun _ _ _ _ _ => rfl) (fun _ _ _ _ _ => rfl) (fun _ _ _ _ _ => rfl) (fun _ _ _ _ _ => rfl) (fun _ _ _ _ _ => rfl) (fun A outer s H vs Q E hr h => ?_)
  · obtain ⟨q, n, dx, a, o, os, as, rfl, _⟩ := h
    rfl
  · obtain ⟨q, n, dx, a, o, os, as, rfl, hn, ok, hS, hP, hw, hd, qq⟩ := h
    rw [Ok] at ok
    obtain ⟨ho, l2, l6, okb⟩ := ok
    have la := PasAt.len _ _ hP
    rw [wt] at hw
    rw [dp] at hd
    refine ⟨_, _, (pss_cons (ps_expr (pe_clE c_check_party (fun _ => passS0) hr (by decide) (by rfl) (pa_cons (pv 1) pa_nil)))
      (pss_cons (ps_if (pt_not (pt_chain op_le op_le pe_int (pe_callB call_len_seq (by rfl) m_len PySem.boot_len (pa_cons (pv 2) pa_nil)) (pe_glob (v := .int 6) (by rfl) g_MOST_OPTIONS ⟨_, rfl⟩))) (pss_one ps_never) pss_nil)
      (pss_cons (ps_for (passes_of rfl) rfl (pi_sq (pv 2)) (pg_name (i := 4) sc_Choice___init__.nd rfl (by first | exact .inl rfl | exact .inr rfl))
        (pss_one (ps_expr (pe_clE c_as_pact (fun _ => passS0) hr (by decide) (by rfl) (pa_cons (pv 4) pa_nil)))))
      (pss_cons (ps_fld (pv 0) (pv 1) rfl)
      (pss_cons (ps_fld (pv 0) (pe_callTy call_tupleSq (by rfl) m_tuple (by decide +kernel) (pa_cons (pv 2) pa_nil)) rfl)
      (pss_cons (ps_set (i := 5) sc_Choice___init__.nd rfl (by first | exact .inl rfl | exact .inr rfl) (pe_op op_add pe_int (pe_callB (cr_sum rfl) (by rfl) m_sum (by decide +kernel) (pa_cons (pe_lc (own := [("option", 4)]) (g := (gName 4)) (tt := tYes) (by rfl) sc_Choice___init__.nd (pi_sq (pv 2)) (blkOk_by (own := [("option", 4)]) (N := N_Choice___init__) (sc := defScope s_Choice___init__) (by decide +kernel)) (fun _ _ _ _ _ => (pg_name (i := 4) sc_Choice___init__.nd rfl (by first | exact .inl rfl | exact .inr rfl))) (fun _ _ _ _ _ => pts_nil) (fun _ _ _ _ _ => (pe_fld_K (K := K) rfl (pv 4) rfl))) pa_nil))))
      (pss_cons (ps_set (i := 6) sc_Choice___init__.nd rfl (by first | exact .inl rfl | exact .inr rfl) (pe_op op_add pe_int (pe_callB (cr_max rfl) (by rfl) m_max (by decide +kernel) (pa_cons (pe_lc (own := [("option", 4)]) (g := (gName 4)) (tt := tYes) (by rfl) sc_Choice___init__.nd (pi_sq (pv 2)) (blkOk_by (own := [("option", 4)]) (N := N_Choice___init__) (sc := defScope s_Choice___init__) (by decide +kernel)) (fun _ _ _ _ _ => (pg_name (i := 4) sc_Choice___init__.nd rfl (by first | exact .inl rfl | exact .inr rfl))) (fun _ _ _ _ _ => pts_nil) (fun _ _ _ _ _ => (pe_fld_K (K := K) rfl (pv 4) rfl))) pa_nil))))
      (pss_one (ps_set (i := 7) sc_Choice___init__.nd rfl (by first | exact .inl rfl | exact .inr rfl) (pe_join pe_str (pe_lc (own := [("option", 4)]) (g := (gName 4)) (tt := tYes) (by rfl) sc_Choice___init__.nd (pi_sq (pv 2)) (blkOk_by (own := [("option", 4)]) (N := N_Choice___init__) (sc := defScope s_Choice___init__) (by decide +kernel)) (fun _ _ _ _ _ => (pg_name (i := 4) sc_Choice___init__.nd rfl (by first | exact .inl rfl | exact .inr rfl))) (fun _ _ _ _ _ => pts_nil) (fun _ _ _ _ _ => (pe_fld_K (K := K) rfl (pv 4) rfl))))))))))))), (pa_cons (pv 5) (pa_cons (pv 6) (pa_cons (pe_joined (.cons (pe_fmt (pv 1)) (.cons pe_str (.cons (pe_fmt (pv 7)) (.cons pe_str .nil))))) pa_nil))), ?_⟩
    walk_at "go"
    refine ⟨(show 1 ≤ 10000 by decide), fun _ => ?_, fun z => by rw [isPy_one ho] at z; cases z⟩
    walk_at "go"
    refine ⟨a, _, rfl, sqk_or hS, ?_⟩
    rw [List.length_map]
    walk_at "go"
    rw [decide_eq_true (show (2 : Int) ≤ (as.length : Int) by omega)]
    walk_at "go"
    rw [decide_eq_true (show (as.length : Int) ≤ 6 by omega)]
    walk_at "go"
    have gx : ∀ (i : Nat) (x : V), (as.map V.ref)[i]? = some x → ∃ (y : Addr) (b : List Pt), x = .ref y ∧ os[i]? = some b ∧ PaAt k K H b y := fun i x e => by
      rw [List.getElem?_map] at e
      cases e1 : as[i]? with
      | none => rw [e1] at e; cases e
      | some y =>
        rw [e1] at e
        cases e
        have li := (List.getElem?_eq_some_iff.mp e1).1
        obtain ⟨y2, e2, hp⟩ := PasAt.get _ _ hP i (os[i]'(by omega)) (List.getElem?_eq_getElem (by omega))
        rw [e1] at e2
        cases e2
        exact ⟨y, _, rfl, List.getElem?_eq_getElem (by omega), hp⟩
    refine rd_sq (b := q) rfl hS ?_
    refine for_sq hS (fun i σ J => J = H ∧ ∃ v4 : Option V, σ = [some (.ref n), some (.str (S [o])), some (.ref a), some (.ref C), v4, none, none, none]) ⟨rfl, none, rfl⟩ (fun i σ J h => by rw [h.1]; exact Same.refl _) (fun i x σ J ex h => ?_) (fun σ J h => ?_)
    · obtain ⟨rfl, v4, rfl⟩ := h
      obtain ⟨y, b, rfl, _, hp⟩ := gx i x ex
      walk_at "go"
      refine ⟨y, b, rfl, hp, ?_⟩
      exact ⟨rfl, _, rfl⟩
    obtain ⟨rfl, v4, rfl⟩ := h
    walk_at "go"
    refine ⟨n, C, dx, _, rfl, hn, fl.cls, n1, (show 0 < 1000 by decide), ?_⟩
    have sb1 : SB n J (upd J n (.ins C dx (putF "owner" (V.str (S [o])) []))) := SB.upd (Z.Same.sb (Same.refl _))
    have sm1 := smN_sb sb1 hn
    have hn1 : (upd J n (.ins C dx (putF "owner" (V.str (S [o])) []))) n = some (.ins C dx (putF "owner" (V.str (S [o])) [])) := upd_same
    generalize upd J n (.ins C dx (putF "owner" (V.str (S [o])) [])) = J1 at sb1 sm1 hn1
    have hS1 := sm1.sqK hS
    walk_at "go"
    refine ⟨q, a, _, rfl, hS1, fun t J2 s2 hT => ?_⟩
    have hn2 := s2 _ _ hn1
    walk_at "go"
    refine ⟨n, C, dx, _, rfl, hn2, fl.cls, n2, (show 1 < 1000 by decide), ?_⟩
    have sb3 : SB n J2 (upd J2 n (.ins C dx (putF "options" (V.ref t) (putF "owner" (V.str (S [o])) [])))) := SB.upd (Z.Same.sb (Same.refl _))
    have hn3 : (upd J2 n (.ins C dx (putF "options" (V.ref t) (putF "owner" (V.str (S [o])) [])))) n = some (.ins C dx (putF "options" (V.ref t) (putF "owner" (V.str (S [o])) []))) := upd_same
    have hT3 : SqT K (upd J2 n (.ins C dx (putF "options" (V.ref t) (putF "owner" (V.str (S [o])) [])))) t (as.map V.ref) := by
      rcases hT with (h | ⟨ob, h⟩) | h
      · exact .inl (.inl (sb3 _ _ (fun e => by rw [e, hn2] at h; cases h) h))
      · exact .inl (.inr ⟨ob, sb3 _ _ (fun e => by rw [e, hn2] at h; cases h) h⟩)
      · exact .inr h
    generalize upd J2 n (.ins C dx (putF "options" (V.ref t) (putF "owner" (V.str (S [o])) []))) = J3 at sb3 hn3 hT3
    have sb03 : SB n J J3 := (sb1.trans (Z.Same.sb s2)).trans sb3
    have sm3 := smN_sb sb03 hn
    have hS3 := sm3.sqK hS
    have gx3 : ∀ (i : Nat) (x : V), (as.map V.ref)[i]? = some x → ∃ (y dy tt : Addr) (b : List Pt), x = .ref y ∧ os[i]? = some b ∧ J3 y = some (.ins k.P dy (pfl tt b)) := fun i x e => by
      obtain ⟨y, b, rfl, eb, hp⟩ := gx i x e
      obtain ⟨dy, tt, bs, h1, _⟩ := hp.monoN sm3
      exact ⟨y, dy, tt, b, rfl, eb, h1⟩
    clear s2 sb1 sm1 hn1 hS1 hn2 hT hn gx
    walk_at "go"
    refine rd_sq (b := q) rfl hS3 ?_
    walk_at "go"
    intro D nD
    refine lc_vs hS3 (os.map fun b => .int (wtL b : Int)) (by rw [List.length_map, List.length_map, la]) (by rw [List.length_map]; omega) nD (fun x => rfl) (fun i x y J4 Q4 ex ey s4 q4 => ?_) (fun J4 s4 eD => ?_)
    · obtain ⟨y2, dy, tt, b, rfl, eb, hy⟩ := gx3 i x ex
      rw [List.getElem?_map, eb] at ey
      cases ey
      walk_at "go"
      refine ⟨y2, k.P, dy, _, _, rfl, s4 _ _ hy, pk.fl.cls, pk.fl.nw, rfl, ?_⟩
      exact q4 _ (Same.refl _)
    walk_at "go"
    refine ⟨D, os.map fun b => (wtL b : Int), rfl, SqL.of (by rw [List.map_map]; exact eD), ?_⟩
    rw [isum, ← wtLL_sum]
    have gx4 : ∀ (i : Nat) (x : V), (as.map V.ref)[i]? = some x → ∃ (y dy tt : Addr) (b : List Pt), x = .ref y ∧ os[i]? = some b ∧ J4 y = some (.ins k.P dy (pfl tt b)) := fun i x e => by
      obtain ⟨y, dy, tt, b, h1, h2, h3⟩ := gx3 i x e
      exact ⟨y, dy, tt, b, h1, h2, s4 _ _ h3⟩
    have hS4 := Z.Same.sqK s4 hS3
    have sb04 := sb03.trans (Z.Same.sb s4)
    have hn4 := s4 _ _ hn3
    have hT4 : SqT K J4 t (as.map V.ref) := Z.Same.sqK (b := false) s4 hT3
    clear eD nD s4 gx3 sb03 sm3 hn3 hT3 sb3 hS3
    walk_at "go"
    refine rd_sq (b := q) rfl hS4 ?_
    walk_at "go"
    intro D nD
    refine lc_vs hS4 (os.map fun b => .int (dpL b : Int)) (by rw [List.length_map, List.length_map, la]) (by rw [List.length_map]; omega) nD (fun x => rfl) (fun i x y J5 Q4 ex ey s4 q4 => ?_) (fun J5 s4 eD => ?_)
    · obtain ⟨y2, dy, tt, b, rfl, eb, hy⟩ := gx4 i x ex
      rw [List.getElem?_map, eb] at ey
      cases ey
      walk_at "go"
      refine ⟨y2, k.P, dy, _, _, rfl, s4 _ _ hy, pk.fl.cls, pk.fl.nd, rfl, ?_⟩
      exact q4 _ (Same.refl _)
    walk_at "go"
    refine ⟨D, os.map fun b => (dpL b : Int), rfl, SqL.of (by rw [List.map_map]; exact eD), (by rw [List.length_map]; omega), fun m hm hx => ?_⟩
    rw [dpLL_max hm hx]
    have gx5 : ∀ (i : Nat) (x : V), (as.map V.ref)[i]? = some x → ∃ (y dy tt : Addr) (b : List Pt), x = .ref y ∧ os[i]? = some b ∧ J5 y = some (.ins k.P dy (pfl tt b)) := fun i x e => by
      obtain ⟨y, dy, tt, b, h1, h2, h3⟩ := gx4 i x e
      exact ⟨y, dy, tt, b, h1, h2, s4 _ _ h3⟩
    have hS5 := Z.Same.sqK s4 hS4
    have sb05 := sb04.trans (Z.Same.sb s4)
    have hn5 := s4 _ _ hn4
    have hT5 : SqT K J5 t (as.map V.ref) := Z.Same.sqK (b := false) s4 hT4
    clear eD nD s4 gx4 sb04 hn4 hT4 hS4
    walk_at "go"
    refine ⟨⟨_, rfl⟩, ?_⟩
    walk_at "go"
    refine rd_sq (b := q) rfl hS5 ?_
    walk_at "go"
    intro D nD
    refine lc_vs hS5 (os.map fun b => .str (S (txB b))) (by rw [List.length_map, List.length_map, la]) (by rw [List.length_map]; omega) nD (fun x => rfl) (fun i x y J6 Q4 ex ey s4 q4 => ?_) (fun J6 s4 eD => ?_)
    · obtain ⟨y2, dy, tt, b, rfl, eb, hy⟩ := gx5 i x ex
      rw [List.getElem?_map, eb] at ey
      cases ey
      walk_at "go"
      refine ⟨y2, k.P, dy, _, _, rfl, s4 _ _ hy, pk.fl.cls, pk.fl.nt, rfl, ?_⟩
      exact q4 _ (Same.refl _)
    have hT6 : SqT K J6 t (as.map V.ref) := Z.Same.sqK (b := false) s4 hT5
    have sb06 := sb05.trans (Z.Same.sb s4)
    have hn6 := s4 _ _ hn5
    have ljn := txLL_len os okb
    have ljn2 := jn_len [32, 124, 32] (txLL os)
    walk_at "go"
    refine ⟨S [32, 124, 32], D, (txLL os).map S, rfl, rfl, .inl (SqL.of (by rw [txLL_map, List.map_map, List.map_map]; exact eD)), ?_, ?_⟩
    · rw [show (S [32, 124, 32]).length = 3 from S_len _, len3]
      omega
    rw [SX.join_S, jn_eq]
    have ljn3 : (jn [32, 124, 32] (txLL os)).length ≤ ((txLL os).map fun t => t.length + 3).sum := ljn2
    generalize hjn : jn [32, 124, 32] (txLL os) = inner at ljn3
    have lS : (S inner).length = inner.length := S_len _
    refine ⟨n, dx, _, rfl, hn6, ?_⟩
    walk_at "go"
    refine ⟨by rw [S_len]; exact szl (show 1 ≤ 100000 by decide), S [o], rfl, by rw [emS, S_len]; exact szl (show 1 ≤ 100000 by decide), ?_⟩
    rw [emS]
    refine ⟨S [40], rfl, by rw [S_cat, S_len]; exact szl (by simp only [List.length_append, List.length_cons, List.length_nil]; omega), ?_⟩
    rw [S_cat]
    refine ⟨_, rfl, .inl ⟨S inner, rfl, by rw [S_len]; exact szl (by omega), S inner, rfl, by rw [S_cat, S_len]; exact szl (by simp only [List.length_append, List.length_cons, List.length_nil]; omega), ?_⟩⟩
    rw [S_cat]
    refine ⟨S [41], rfl, by rw [S_cat, S_len]; exact szl (by simp only [List.length_append, List.length_cons, List.length_nil]; omega), ?_⟩
    rw [S_cat]
    have etx : tx (.ch o os) = [o] ++ [40] ++ inner ++ [41] := by rw [tx, hjn]
    refine ⟨n, C, dx, _, 1 + wtLL os, 1 + dpLL os, S (tx (.ch o os)), by rw [etx]; rfl, hn6, fl, (show 2 ≤ 10 by decide), hw, hd, ?_⟩
    have e : cF o os t = put3 (1 + wtLL os) (1 + dpLL os) (S (tx (.ch o os))) (putF "options" (V.ref t) (putF "owner" (V.str (S [o])) [])) := by
      unfold cF tlP
      rw [wt, dp]
      rfl
    rw [← e]
    refine qq t _ (sb06.trans (SB.upd (Z.Same.sb (Same.refl _)))) ?_ upd_same
    rcases hT6 with (h | ⟨ob, h⟩) | h
    · exact .inl (.inl (by rw [upd_ne (fun e => by rw [e, hn6] at h; cases h)]; exact h))
    · exact .inl (.inr ⟨ob, by rw [upd_ne (fun e => by rw [e, hn6] at h; cases h)]; exact h⟩)
    · exact .inr h
/-- what every part class says: its instances are parts, with the three fields -/
structure PtK (K : PySem.W.Frag) (cP C : Addr) : Prop where
  fl : Fl3 K C
  is : PySem.W.kitOne K (.ref C) (.ref cP) = some true
  ic : C8.InsC K C
/-- the facts of all part classes (cP: the class Part) -/
structure PtsK (K : PySem.W.Frag) (cP : Addr) (k : Cs) : Prop where
  t : PtK K cP k.T
  e : PtK K cP k.E
  c : PtK K cP k.C
  r : PtK K cP k.R
  n : PtK K cP k.N
  m : PtK K cP k.M
/-- a part is an instance of some part class with its three fields -/
theorem PtAt.ins {cP : Addr} (pk : PtsK K cP k) {H : Hp} : ∀ {p : Pt} {a : Addr}, PtAt k K H p a → ∃ (C dx : Addr) (fs : List (Str × V)), PtK K cP C ∧ H a = some (.ins C dx fs) ∧ fs.lookup ("weight" : Str) = some (.int (wt p : Int)) ∧ fs.lookup ("depth" : Str) = some (.int (dp p : Int)) ∧ fs.lookup ("text" : Str) = some (.str (S (tx p)))
  | .tr p q m, a, h => by
    rw [PtAt] at h
    obtain ⟨dx, h⟩ := h
    exact ⟨_, dx, _, pk.t, h, rfl, rfl, rfl⟩
  | .ev c, a, h => by
    rw [PtAt] at h
    obtain ⟨dx, h⟩ := h
    exact ⟨_, dx, _, pk.e, h, rfl, rfl, rfl⟩
  | .ch o os, a, h => by
    rw [PtAt] at h
    obtain ⟨dx, t, as, h, _⟩ := h
    exact ⟨_, dx, _, pk.c, h, rfl, rfl, rfl⟩
  | .rd o b, a, h => by
    rw [PtAt] at h
    obtain ⟨dx, x, dy, t, as, h, _⟩ := h
    exact ⟨_, dx, _, pk.r, h, rfl, rfl, rfl⟩
  | .en b, a, h => by
    rw [PtAt] at h
    obtain ⟨dx, x, dy, t, as, h, _⟩ := h
    exact ⟨_, dx, _, pk.n, h, rfl, rfl, rfl⟩
  | .ti c b, a, h => by
    rw [PtAt] at h
    obtain ⟨dx, x, dy, t, as, h, _⟩ := h
    exact ⟨_, dx, _, pk.m, h, rfl, rfl, rfl⟩
end
end Z
set_option pp.maxSteps 700
set_option Elab.async false
set_option linter.all false
set_option maxRecDepth 100000
set_option maxHeartbeats 4000000
open SX (S S_inj S_len S_cat)
namespace Z
open Pk NdefX
open PySem PySem.Spec PyProof.Rows L2
open C8 (pss_cut tCut)
local macro_rules | `(tactic| walk_at "num") => `(tactic| first | rfl | omega | decide | exact Nat.le_of_lt (small1000 (by simp)) | exact ⟨by omega, by omega⟩ | exact ⟨by omega, by omega, by omega⟩ | exact ⟨by decide, by decide, by decide⟩ | exact Or.inl ⟨by omega, by omega⟩ | exact Or.inr ⟨by omega, by omega⟩)
local macro_rules | `(tactic| walk_at "go") => `(tactic| repeat (first | refine ⟨_, rfl, ?_⟩ | refine ⟨_, _, rfl, rfl, ?_⟩ | refine ⟨_, _, rfl, ?_⟩ | (refine ⟨_, _, rfl, rfl, ?_, ?_⟩; focus walk_at "num") | refine Or.inl ⟨_, rfl, ?_⟩ | refine ⟨_, _, _, _, rfl, rfl, (by assumption), (by rfl), ?_⟩ | refine ⟨_, _, _, _, _, rfl, (by assumption), (by assumption), (by assumption), (by rfl), ?_⟩ | refine ⟨rfl, ?_⟩ | (refine And.intro ?_ ?_; focus walk_at "num")))
abbrev s_Pact___init__ : Stmt := inClass (topS 30) 0
abbrev N_Pact___init__ : List Str := ["self", "parts", "part"]
abbrev P_Pact___init__ : List Str := ["self", "parts"]
theorem sc_Pact___init__ : FnScope N_Pact___init__ P_Pact___init__ (defScope s_Pact___init__) := ⟨rfl, rfl, rfl, by decide +kernel, rfl, by decide +kernel, by decide +kernel⟩
section
variable {P : Program} {w : World} {K : PySem.W.Frag} {mg : Str → Option Value} {base : Heap} {f C g CP cP : Addr} {k : Cs} {fd : FuncData}
theorem mxf : ∀ (r : List Pt) (d : Nat), (r.map fun p => (dp p : Int)).foldl max (d : Int) = ((max d (dpL r) : Nat) : Int)
  | [], d => by
    rw [dpL]
    show (d : Int) = _
    omega
  | p :: r, d => by
    rw [dpL, List.map_cons, List.foldl_cons, show max (d : Int) (dp p : Int) = ((max d (dp p) : Nat) : Int) by omega, mxf r]
    omega
theorem mxD_dp : ∀ l : List Pt, mxD 0 (l.map fun p => (dp p : Int)) = (dpL l : Int)
  | [] => by rw [dpL]; rfl
  | p :: r => by
    rw [dpL]
    exact mxf r (dp p)
theorem len2 (ts : List (List Nat)) : ((ts.map S).map fun x => x.length).sum + (ts.map S).length * 2 = (ts.map fun t => t.length + 2).sum := by
  induction ts with
  | nil => rfl
  | cons t ts ih =>
    rw [List.map_cons, List.map_cons, List.map_cons, List.sum_cons, List.sum_cons, List.length_cons, S_len, ← ih]
    omega
theorem len_wt : ∀ l : List Pt, l.length ≤ wtL l
  | [] => Nat.zero_le _
  | p :: l => by
    have := wt_pos p
    have := len_wt l
    rw [wtL, List.length_cons]
    omega
/-- what the walk needs of the part at i -/
def PtX (cP : Addr) (k : Cs) (K : PySem.W.Frag) (J : Hp) (l : List Pt) (i : Nat) (x : V) : Prop := ∃ (y C dy : Addr) (fs : List (Str × V)) (p : Pt), x = .ref y ∧ l[i]? = some p ∧ PtK K cP C ∧ J y = some (.ins C dy fs) ∧ fs.lookup ("weight" : Str) = some (.int (wt p : Int)) ∧ fs.lookup ("depth" : Str) = some (.int (dp p : Int)) ∧ fs.lookup ("text" : Str) = some (.str (S (tx p)))
theorem ptx_of (pk : PtsK K cP k) {H : Hp} {l : List Pt} {as : List Addr} (hP : PtsAt k K H l as) : ∀ (i : Nat) (x : V), (as.map V.ref)[i]? = some x → PtX cP k K H l i x := fun i x e => by
  have la := PtsAt.len _ _ hP
  rw [List.getElem?_map] at e
  cases e1 : as[i]? with
  | none => rw [e1] at e; cases e
  | some y =>
    rw [e1] at e
    cases e
    have li := (List.getElem?_eq_some_iff.mp e1).1
    obtain ⟨y2, e2, hp⟩ := PtsAt.get _ _ hP i (l[i]'(by omega)) (List.getElem?_eq_getElem (by omega))
    rw [e1] at e2
    cases e2
    obtain ⟨C, e, fs, pt, hy, h1, h2, h3⟩ := hp.ins pk
    exact ⟨y, C, e, fs, _, rfl, List.getElem?_eq_getElem (by omega), pt, hy, h1, h2, h3⟩
theorem sb_tup {J J2 : Hp} {n t : Addr} {x : List V} {C dx : Addr} {fs : List (Str × V)} (s : SB n J J2) (hn : J n = some (.ins C dx fs)) (hT : SqT K J t x) : SqT K J2 t x := by
  rcases hT with (h | ⟨ob, h⟩) | h
  · exact .inl (.inl (s _ _ (fun e => by rw [e, hn] at h; cases h) h))
  · exact .inl (.inr ⟨ob, s _ _ (fun e => by rw [e, hn] at h; cases h) h⟩)
  · exact .inr h
def spPI (k : Cs) (K : PySem.W.Frag) : Sp := fun vs H Q _ => ∃ (q : Bool) (n dx a : Addr) (l : List Pt) (as : List Addr), vs = [.ref n, .ref a] ∧ H n = some (.ins k.P dx []) ∧ OkL l ∧ SqK q K H a (as.map V.ref) ∧ PtsAt k K H l as ∧ wtL l ≤ 400 ∧ dpL l ≤ 30 ∧ ∀ (t : Addr) H', SB n H H' → SqT K H' t (as.map V.ref) → H' n = some (.ins k.P dx (pfl t l)) → Q .non H'
theorem ok_pinit {cP : Addr} (F : FnM K "__init__" "Pact.__init__" s_Pact___init__ f fd) (m_len : mg "len" = none) (m_tuple : mg "tuple" = none) (m_sum : mg "sum" = none) (m_max : mg "max" = none) (m_isinstance : mg "isinstance" = none) (g_Part : mg "Part" = some (.ref cP)) (pa : PaK K k.P) (pk : PtsK K cP k) (c_check_size : CalX P w K mg base 3 "check_size" spSize) : FnOk P w K mg base (L2N.CX P w) 4 f fd P_Pact___init__ (spPI k K) := by
  refine F.ok sc_Pact___init__ (fun vs H Q E h => ?_) (fun cdv A outer s H vs Q E hr h => ?_)
  · obtain ⟨q, n, dx, a, l, as, rfl, _⟩ := h
    rfl
  · obtain ⟨q, n, dx, a, l, as, rfl, hn, ok, hS, hP, hw, hd, qq⟩ := h
    have la := PtsAt.len _ _ hP
    have lw := len_wt l
    refine ⟨_, (pss_cons (ps_for (passes_of rfl) rfl (pi_sq (pv 1)) (pg_name (i := 2) sc_Pact___init__.nd rfl (by first | exact .inl rfl | exact .inr rfl))
        (pss_one (ps_if (pt_not (pt_val (pe_callB call_isi (by rfl) m_isinstance (by decide +kernel) (pa_cons (pv 2) (pa_cons (pe_glob (by rfl) g_Part relv_ref) pa_nil))))) (pss_one ps_never) pss_nil)))
      (pss_cons (ps_fld (pv 0) (pe_callTy call_tupleSq (by rfl) m_tuple (by decide +kernel) (pa_cons (pv 1) pa_nil)) rfl)
      (pss_cons (ps_fld (pv 0) (pe_callB (cr_sum rfl) (by rfl) m_sum (by decide +kernel) (pa_cons (pe_lc (own := [("part", 2)]) (g := (gName 2)) (tt := tYes) (by rfl) sc_Pact___init__.nd (pi_sq (pv 1)) (blkOk_by (own := [("part", 2)]) (N := N_Pact___init__) (sc := defScope s_Pact___init__) (by decide +kernel)) (fun _ _ _ _ _ => (pg_name (i := 2) sc_Pact___init__.nd rfl (by first | exact .inl rfl | exact .inr rfl))) (fun _ _ _ _ _ => pts_nil) (fun _ _ _ _ _ => (pe_fld_K (K := K) rfl (pv 2) rfl))) pa_nil)) rfl)
      (pss_cons (ps_fld (pv 0) (pe_callBK (cr_maxD rfl hr.units) (by rfl) m_max (by decide +kernel) (pa_cons (pe_lc (own := [("part", 2)]) (g := (gName 2)) (tt := tYes) (by rfl) sc_Pact___init__.nd (pi_sq (pv 1)) (blkOk_by (own := [("part", 2)]) (N := N_Pact___init__) (sc := defScope s_Pact___init__) (by decide +kernel)) (fun _ _ _ _ _ => (pg_name (i := 2) sc_Pact___init__.nd rfl (by first | exact .inl rfl | exact .inr rfl))) (fun _ _ _ _ _ => pts_nil) (fun _ _ _ _ _ => (pe_fld_K (K := K) rfl (pv 2) rfl))) pa_nil) (pk_cons pe_int pk_nil)) rfl)
      (pss_cons (ps_expr (pe_clE c_check_size (fun _ => passS0) hr (by decide) (by rfl) (pa_cons (pe_fld (pv 0) rfl) (pa_cons (pe_fld (pv 0) rfl) pa_nil))))
      (pss_one (ps_fld (pv 0) (pe_ifExp (pt_cmpR op_gt (pe_callB call_len_seq (by rfl) m_len PySem.boot_len (pa_cons (pv 1) pa_nil)) pe_int (nomark _)) (pe_join pe_str (pe_lc (own := [("part", 2)]) (g := (gName 2)) (tt := tYes) (by rfl) sc_Pact___init__.nd (pi_sq (pv 1)) (blkOk_by (own := [("part", 2)]) (N := N_Pact___init__) (sc := defScope s_Pact___init__) (by decide +kernel)) (fun _ _ _ _ _ => (pg_name (i := 2) sc_Pact___init__.nd rfl (by first | exact .inl rfl | exact .inr rfl))) (fun _ _ _ _ _ => pts_nil) (fun _ _ _ _ _ => (pe_fld_K (K := K) rfl (pv 2) rfl)))) pe_str) rfl))))))), ?_⟩
    walk_at "go"
    refine rd_sq (b := q) rfl hS ?_
    refine for_sq hS (fun i σ J => J = H ∧ ∃ v2 : Option V, σ = [some (.ref n), some (.ref a), v2]) ⟨rfl, none, rfl⟩ (fun i σ J h => by rw [h.1]; exact Same.refl _) (fun i x σ J ex h => ?_) (fun σ J h => ?_)
    · obtain ⟨rfl, v2, rfl⟩ := h
      obtain ⟨y, C, e, fs, p, rfl, _, pt, hy, _⟩ := ptx_of pk hP i x ex
      walk_at "go"
      refine ⟨.ref y, .ref cP, .ref C, .ref cP, true, rfl, .own cP, .base (.ins hy pt.ic.cl pt.ic.ha pt.ic.hn pt.ic.htk pt.ic.hm), pt.is, ?_⟩
      walk_at "go"
      first
        | exact ⟨rfl, _, rfl⟩
        | exact ⟨_, rfl⟩
        | skip
    obtain ⟨rfl, v2, rfl⟩ := h
    walk_at "go"
    refine ⟨q, a, _, rfl, hS, fun t J2 s2 hT => ?_⟩
    have hn2 := s2 _ _ hn
    walk_at "go"
    refine ⟨n, k.P, dx, _, rfl, hn2, pa.fl.cls, pa.np, (show 0 < 1000 by decide), ?_⟩
    have sb3 : SB n J2 (upd J2 n (.ins k.P dx (putF "parts" (V.ref t) []))) := SB.upd (Z.Same.sb (Same.refl _))
    have hn3 : (upd J2 n (.ins k.P dx (putF "parts" (V.ref t) []))) n = some (.ins k.P dx (putF "parts" (V.ref t) [])) := upd_same
    have hT3 := sb_tup sb3 hn2 hT
    generalize upd J2 n (.ins k.P dx (putF "parts" (V.ref t) [])) = J3 at sb3 hn3 hT3
    have sb03 : SB n J J3 := (Z.Same.sb s2).trans sb3
    have sm3 := smN_sb sb03 hn
    have hS3 := sm3.sqK hS
    have gx3 := ptx_of pk (PtsAt.monoN sm3 _ _ hP)
    clear s2 hn2 hT
    walk_at "go"
    refine rd_sq (b := q) rfl hS3 ?_
    walk_at "go"
    intro D nD
    refine lc_vs hS3 (l.map fun b => .int (wt b : Int)) (by rw [List.length_map, List.length_map, la]) (by rw [List.length_map]; omega) nD (fun x => rfl) (fun i x y J4 Q4 ex ey s4 q4 => ?_) (fun J4 s4 eD => ?_)
    · obtain ⟨y2, C, dy, fs, p, rfl, eb, pt, hy, h1, h2, h3⟩ := gx3 i x ex
      rw [List.getElem?_map, eb] at ey
      cases ey
      walk_at "go"
      refine ⟨y2, C, dy, _, _, rfl, s4 _ _ hy, pt.fl.cls, pt.fl.nw, h1, ?_⟩
      exact q4 _ (Same.refl _)
    walk_at "go"
    refine ⟨D, l.map fun b => (wt b : Int), rfl, SqL.of (by rw [List.map_map]; exact eD), ?_⟩
    rw [isum, ← wtL_sum]
    have hn4 := s4 _ _ hn3
    walk_at "go"
    refine ⟨n, k.P, dx, _, rfl, hn4, pa.fl.cls, pa.fl.nw, (show 1 < 1000 by decide), ?_⟩
    have sb5 : SB n J4 (upd J4 n (.ins k.P dx (putF "weight" (V.int (wtL l : Int)) (putF "parts" (V.ref t) [])))) := SB.upd (Z.Same.sb (Same.refl _))
    have hn5 : (upd J4 n (.ins k.P dx (putF "weight" (V.int (wtL l : Int)) (putF "parts" (V.ref t) [])))) n = some (.ins k.P dx (putF "weight" (V.int (wtL l : Int)) (putF "parts" (V.ref t) []))) := upd_same
    have hT5 := sb_tup sb5 hn4 (Z.Same.sqK (b := false) s4 hT3)
    generalize upd J4 n (.ins k.P dx (putF "weight" (V.int (wtL l : Int)) (putF "parts" (V.ref t) []))) = J5 at sb5 hn5 hT5
    have sb05 : SB n J J5 := (sb03.trans (Z.Same.sb s4)).trans sb5
    have sm5 := smN_sb sb05 hn
    have hS5 := sm5.sqK hS
    have gx5 := ptx_of pk (PtsAt.monoN sm5 _ _ hP)
    clear s4 hn3 hn4 hT3 hS3 eD nD
    walk_at "go"
    refine rd_sq (b := q) rfl hS5 ?_
    walk_at "go"
    intro D nD
    refine lc_vs hS5 (l.map fun b => .int (dp b : Int)) (by rw [List.length_map, List.length_map, la]) (by rw [List.length_map]; omega) nD (fun x => rfl) (fun i x y J6 Q4 ex ey s4 q4 => ?_) (fun J6 s4 eD => ?_)
    · obtain ⟨y2, C, dy, fs, p, rfl, eb, pt, hy, h1, h2, h3⟩ := gx5 i x ex
      rw [List.getElem?_map, eb] at ey
      cases ey
      walk_at "go"
      refine ⟨y2, C, dy, _, _, rfl, s4 _ _ hy, pt.fl.cls, pt.fl.nd, h2, ?_⟩
      exact q4 _ (Same.refl _)
    walk_at "go"
    refine ⟨D, l.map fun b => (dp b : Int), 0, rfl, rfl, SqL.of (by rw [List.map_map]; exact eD), ?_⟩
    rw [mxD_dp]
    have hn6 := s4 _ _ hn5
    walk_at "go"
    refine ⟨n, k.P, dx, _, rfl, hn6, pa.fl.cls, pa.fl.nd, (show 2 < 1000 by decide), ?_⟩
    have sb7 : SB n J6 (upd J6 n (.ins k.P dx (putF "depth" (V.int (dpL l : Int)) (putF "weight" (V.int (wtL l : Int)) (putF "parts" (V.ref t) []))))) := SB.upd (Z.Same.sb (Same.refl _))
    have hn7 : (upd J6 n (.ins k.P dx (putF "depth" (V.int (dpL l : Int)) (putF "weight" (V.int (wtL l : Int)) (putF "parts" (V.ref t) []))))) n = some (.ins k.P dx (putF "depth" (V.int (dpL l : Int)) (putF "weight" (V.int (wtL l : Int)) (putF "parts" (V.ref t) [])))) := upd_same
    have hT7 := sb_tup sb7 hn6 (Z.Same.sqK (b := false) s4 hT5)
    generalize upd J6 n (.ins k.P dx (putF "depth" (V.int (dpL l : Int)) (putF "weight" (V.int (wtL l : Int)) (putF "parts" (V.ref t) [])))) = J7 at sb7 hn7 hT7
    have sb07 : SB n J J7 := (sb05.trans (Z.Same.sb s4)).trans sb7
    have sm7 := smN_sb sb07 hn
    have hS7 := sm7.sqK hS
    have gx7 := ptx_of pk (PtsAt.monoN sm7 _ _ hP)
    clear s4 hn5 hn6 hT5 hS5 eD nD
    walk_at "go"
    refine ⟨n, k.P, dx, _, _, rfl, hn7, pa.fl.cls, pa.fl.nw, rfl, ?_⟩
    walk_at "go"
    refine ⟨n, k.P, dx, _, _, rfl, hn7, pa.fl.cls, pa.fl.nd, rfl, ?_⟩
    walk_at "go"
    refine ⟨a, _, rfl, sqk_or hS7, ?_⟩
    rw [List.length_map, la]
    walk_at "go"
    have fin : ∀ J9, Same J7 J9 → Q .non (upd J9 n (.ins k.P dx (putF "text" (V.str (S (txB l))) (putF "depth" (V.int (dpL l : Int)) (putF "weight" (V.int (wtL l : Int)) (putF "parts" (V.ref t) [])))))) := fun J9 s9 => by
      have hn9 := s9 _ _ hn7
      have sb9 : SB n J9 (upd J9 n (.ins k.P dx (putF "text" (V.str (S (txB l))) (putF "depth" (V.int (dpL l : Int)) (putF "weight" (V.int (wtL l : Int)) (putF "parts" (V.ref t) [])))))) := SB.upd (Z.Same.sb (Same.refl _))
      refine qq t _ ((sb07.trans (Z.Same.sb s9)).trans sb9) (sb_tup sb9 hn9 (Z.Same.sqK (b := false) s9 hT7)) ?_
      rw [upd_same]
      rfl
    match l, fin, la, gx7, lw with
    | [], fin, la, _, _ =>
      rw [decide_eq_false (show ¬ (0 : Int) < (([] : List Pt).length : Int) by decide)]
      walk_at "go"
      refine ⟨n, k.P, dx, _, rfl, hn7, pa.fl.cls, pa.fl.nt, (show 3 < 1000 by decide), ?_⟩
      refine (show _ → _ from fun h => h) (fin J7 (Same.refl _))
    | p0 :: l0, fin, la, gx7, lw =>
      rw [decide_eq_true (show (0 : Int) < ((p0 :: l0).length : Int) by rw [List.length_cons]; omega)]
      walk_at "go"
      refine ⟨⟨_, rfl⟩, ?_⟩
      walk_at "go"
      refine rd_sq (b := q) rfl hS7 ?_
      walk_at "go"
      intro D nD
      refine lc_vs hS7 ((p0 :: l0).map fun b => .str (S (tx b))) (by rw [List.length_map, List.length_map, la]) (by rw [List.length_map]; omega) nD (fun x => rfl) (fun i x y J8 Q4 ex ey s4 q4 => ?_) (fun J8 s4 eD => ?_)
      · obtain ⟨y2, C, dy, fs, p, rfl, eb, pt, hy, h1, h2, h3⟩ := gx7 i x ex
        rw [List.getElem?_map, eb] at ey
        cases ey
        walk_at "go"
        refine ⟨y2, C, dy, _, _, rfl, s4 _ _ hy, pt.fl.cls, pt.fl.nt, h3, ?_⟩
        exact q4 _ (Same.refl _)
      have lt := txs_len (p0 :: l0) ok
      walk_at "go"
      refine ⟨S [44, 32], D, (txs (p0 :: l0)).map S, rfl, rfl, .inl (SqL.of (by rw [txs_map, List.map_map, List.map_map]; exact eD)), ?_, ?_⟩
      · rw [show (S [44, 32]).length = 2 from S_len _, len2]
        omega
      rw [SX.join_S, jn_eq, ← txB_cons]
      have hn8 := s4 _ _ hn7
      walk_at "go"
      refine ⟨n, k.P, dx, _, rfl, hn8, pa.fl.cls, pa.fl.nt, (show 3 < 1000 by decide), ?_⟩
      exact fin J8 s4
end
end Z
set_option pp.maxSteps 700
set_option Elab.async false
set_option linter.all false
set_option maxRecDepth 100000
set_option maxHeartbeats 4000000
open SX (S S_inj S_len S_cat)
namespace Z
open Pk NdefX
open PySem PySem.Spec PyProof.Rows L2
open C8 (pss_cut tCut)
local macro_rules | `(tactic| walk_at "num") => `(tactic| first | rfl | omega | decide | exact Nat.le_of_lt (small1000 (by simp)) | exact ⟨by omega, by omega⟩ | exact ⟨by omega, by omega, by omega⟩ | exact ⟨by decide, by decide, by decide⟩ | exact Or.inl ⟨by omega, by omega⟩ | exact Or.inr ⟨by omega, by omega⟩)
local macro_rules | `(tactic| walk_at "go") => `(tactic| repeat (first | refine ⟨_, rfl, ?_⟩ | refine ⟨_, _, rfl, rfl, ?_⟩ | refine ⟨_, _, rfl, ?_⟩ | (refine ⟨_, _, rfl, rfl, ?_, ?_⟩; focus walk_at "num") | refine Or.inl ⟨_, rfl, ?_⟩ | refine ⟨_, _, _, _, rfl, rfl, (by assumption), (by rfl), ?_⟩ | refine ⟨_, _, _, _, _, rfl, (by assumption), (by assumption), (by assumption), (by rfl), ?_⟩ | refine ⟨rfl, ?_⟩ | (refine And.intro ?_ ?_; focus walk_at "num")))
/-! ### the classes' promises -/
section
variable {H H' : Hp} {n dx C : Addr}
theorem made_new {o : HO} (hn : H n = none) (hd : H dx = none) (h : SB n (upd (upd H dx (.own n)) n (.ins C dx [])) H') : Same H H' := fun a u e => h a u (fun z => by rw [z, hn] at e; cases e) (by rw [upd_ne (fun z => by rw [z, hn] at e; cases e), upd_ne (fun z => by rw [z, hd] at e; cases e)]; exact e)
theorem made_same (hn : H n = none) (hd : H dx = none) : Same H (upd (upd H dx (.own n)) n (.ins C dx [])) := made_new (o := .own n) hn hd (Z.Same.sb (Same.refl _))
theorem made_upd {o : HO} (hn : H n = none) (hd : H dx = none) : Same H (upd (upd (upd H dx (.own n)) n (.ins C dx [])) n o) := made_new (o := o) hn hd (SB.upd (Z.Same.sb (Same.refl _)))
end
section
variable {P : Program} {w : World} {K : PySem.W.Frag} {mg : Str → Option Value} {base : Heap} {k : Cs}
def spT (k : Cs) (K : PySem.W.Frag) : Sp := fun vs H Q _ => ∃ p q m : Nat, vs = [.str (S [p]), .str (S [q]), .int (m : Int)] ∧ Ok (.tr p q m) ∧ ∀ x H', Same H H' → H x = none → PtAt k K H' (.tr p q m) x → Q (.ref x) H'
theorem mk_T (h : MakX P w K mg base 5 "Transfer" k.T (spTI k.T)) : MakY P w K mg base 5 "Transfer" (spT k K) := ⟨k.T, _, h, fun vs H Q E hq n dx hn hd ne => by
  obtain ⟨p, q, m, rfl, ok, cc⟩ := hq
  refine ⟨n, dx, p, q, m, rfl, upd_same, ok, rfl, cc n _ (made_upd hn hd) hn ?_⟩
  rw [PtAt]
  exact ⟨dx, upd_same⟩⟩
def spE (k : Cs) (K : PySem.W.Frag) : Sp := fun vs H Q _ => ∃ c : Nat, vs = [.str (S [c])] ∧ Ok (.ev c) ∧ ∀ x H', Same H H' → H x = none → PtAt k K H' (.ev c) x → Q (.ref x) H'
theorem mk_E (h : MakX P w K mg base 5 "Event" k.E (spEI k.E)) : MakY P w K mg base 5 "Event" (spE k K) := ⟨k.E, _, h, fun vs H Q E hq n dx hn hd ne => by
  obtain ⟨c, rfl, ok, cc⟩ := hq
  refine ⟨n, dx, c, rfl, upd_same, ok, rfl, cc n _ (made_upd hn hd) hn ?_⟩
  rw [PtAt]
  exact ⟨dx, upd_same⟩⟩
def spC (k : Cs) (K : PySem.W.Frag) : Sp := fun vs H Q _ => ∃ (q : Bool) (a : Addr) (o : Nat) (os : List (List Pt)) (as : List Addr), vs = [.str (S [o]), .ref a] ∧ Ok (.ch o os) ∧ SqK q K H a (as.map V.ref) ∧ PasAt k K H os as ∧ wt (.ch o os) ≤ 400 ∧ dp (.ch o os) ≤ 30 ∧ ∀ x H', Same H H' → H x = none → PtAt k K H' (.ch o os) x → Q (.ref x) H'
theorem mk_C (h : MakX P w K mg base 5 "Choice" k.C (spCI k.C k K)) : MakY P w K mg base 5 "Choice" (spC k K) := ⟨k.C, _, h, fun vs H Q E hq n dx hn hd ne => by
  obtain ⟨q, a, o, os, as, rfl, ok, hS, hP, hw, hdp, cc⟩ := hq
  have s1 : Same H (upd (upd H dx (.own n)) n (.ins k.C dx [])) := made_same hn hd
  refine ⟨q, n, dx, a, o, os, as, rfl, upd_same, ok, Z.Same.sqK s1 hS, PasAt.mono s1 _ _ hP, hw, hdp, fun t H' sb hT hN => ⟨rfl, cc n H' (made_new (o := .own n) hn hd sb) hn ?_⟩⟩
  rw [PtAt]
  exact ⟨dx, t, as, hN, hT, PasAt.monoN (smN_sb sb upd_same) _ _ (PasAt.mono s1 _ _ hP)⟩⟩
def spR (k : Cs) (K : PySem.W.Frag) : Sp := fun vs H Q _ => ∃ (y : Addr) (o : Nat) (b : List Pt), vs = [.str (S [o]), .ref y] ∧ Ok (.rd o b) ∧ PaAt k K H b y ∧ wt (.rd o b) ≤ 400 ∧ dp (.rd o b) ≤ 30 ∧ ∀ x H', Same H H' → H x = none → PtAt k K H' (.rd o b) x → Q (.ref x) H'
theorem sb_self {H H1 : Hp} {n C dx : Addr} {o : HO} (s : SB n H (upd H1 n o)) (e : H n = some (.ins C dx [])) : SmN H (upd H1 n o) := smN_sb s e
theorem mk_R (h : MakX P w K mg base 5 "Rounds" k.R (spRI k.R k K)) : MakY P w K mg base 5 "Rounds" (spR k K) := ⟨k.R, _, h, fun vs H Q E hq n dx hn hd ne => by
  obtain ⟨y, o, b, rfl, ok, hP, hw, hdp, cc⟩ := hq
  have s1 : Same H (upd (upd H dx (.own n)) n (.ins k.R dx [])) := made_same hn hd
  refine ⟨n, dx, y, o, b, rfl, upd_same, ok, hP.mono s1, hw, hdp, rfl, cc n _ (made_upd hn hd) hn ?_⟩
  obtain ⟨dy, t, as, h1, h2, h3⟩ := (hP.mono s1).monoN (sb_self (SB.upd (o := .ins k.R dx (rF o b y)) (Z.Same.sb (Same.refl _))) upd_same)
  rw [PtAt]
  exact ⟨dx, y, dy, t, as, upd_same, h1, h2, h3⟩⟩
def spN (k : Cs) (K : PySem.W.Frag) : Sp := fun vs H Q _ => ∃ (y : Addr) (b : List Pt), vs = [.ref y] ∧ Ok (.en b) ∧ PaAt k K H b y ∧ wt (.en b) ≤ 400 ∧ dp (.en b) ≤ 30 ∧ ∀ x H', Same H H' → H x = none → PtAt k K H' (.en b) x → Q (.ref x) H'
theorem mk_N (h : MakX P w K mg base 5 "Endless" k.N (spNI k.N k K)) : MakY P w K mg base 5 "Endless" (spN k K) := ⟨k.N, _, h, fun vs H Q E hq n dx hn hd ne => by
  obtain ⟨y, b, rfl, ok, hP, hw, hdp, cc⟩ := hq
  have s1 : Same H (upd (upd H dx (.own n)) n (.ins k.N dx [])) := made_same hn hd
  refine ⟨n, dx, y, b, rfl, upd_same, ok, hP.mono s1, hw, hdp, rfl, cc n _ (made_upd hn hd) hn ?_⟩
  obtain ⟨dy, t, as, h1, h2, h3⟩ := (hP.mono s1).monoN (sb_self (SB.upd (o := .ins k.N dx (nF b y)) (Z.Same.sb (Same.refl _))) upd_same)
  rw [PtAt]
  exact ⟨dx, y, dy, t, as, upd_same, h1, h2, h3⟩⟩
def spM (k : Cs) (K : PySem.W.Frag) : Sp := fun vs H Q _ => ∃ (y : Addr) (c : Nat) (b : List Pt), vs = [.int (c : Int), .ref y] ∧ Ok (.ti c b) ∧ PaAt k K H b y ∧ wt (.ti c b) ≤ 400 ∧ dp (.ti c b) ≤ 30 ∧ ∀ x H', Same H H' → H x = none → PtAt k K H' (.ti c b) x → Q (.ref x) H'
theorem mk_M (h : MakX P w K mg base 5 "Times" k.M (spMI k.M k K)) : MakY P w K mg base 5 "Times" (spM k K) := ⟨k.M, _, h, fun vs H Q E hq n dx hn hd ne => by
  obtain ⟨y, c, b, rfl, ok, hP, hw, hdp, cc⟩ := hq
  have s1 : Same H (upd (upd H dx (.own n)) n (.ins k.M dx [])) := made_same hn hd
  refine ⟨n, dx, y, c, b, rfl, upd_same, ok, hP.mono s1, hw, hdp, rfl, cc n _ (made_upd hn hd) hn ?_⟩
  obtain ⟨dy, t, as, h1, h2, h3⟩ := (hP.mono s1).monoN (sb_self (SB.upd (o := .ins k.M dx (mF c b y)) (Z.Same.sb (Same.refl _))) upd_same)
  rw [PtAt]
  exact ⟨dx, y, dy, t, as, upd_same, h1, h2, h3⟩⟩
def spP (k : Cs) (K : PySem.W.Frag) : Sp := fun vs H Q _ => ∃ (q : Bool) (a : Addr) (l : List Pt) (as : List Addr), vs = [.ref a] ∧ OkL l ∧ SqK q K H a (as.map V.ref) ∧ PtsAt k K H l as ∧ wtL l ≤ 400 ∧ dpL l ≤ 30 ∧ ∀ x H', Same H H' → H x = none → PaAt k K H' l x → Q (.ref x) H'
theorem mk_P (h : MakX P w K mg base 4 "Pact" k.P (spPI k K)) : MakY P w K mg base 4 "Pact" (spP k K) := ⟨k.P, _, h, fun vs H Q E hq n dx hn hd ne => by
  obtain ⟨q, a, l, as, rfl, ok, hS, hP, hw, hdp, cc⟩ := hq
  have s1 : Same H (upd (upd H dx (.own n)) n (.ins k.P dx [])) := made_same hn hd
  refine ⟨q, n, dx, a, l, as, rfl, upd_same, ok, Z.Same.sqK s1 hS, PtsAt.mono s1 _ _ hP, hw, hdp, fun t H' sb hT hN => ⟨rfl, cc n H' (made_new (o := .own n) hn hd sb) hn ?_⟩⟩
  exact ⟨dx, t, as, hN, hT, PtsAt.monoN (smN_sb sb upd_same) _ _ (PtsAt.mono s1 _ _ hP)⟩⟩
end
end Z
set_option pp.maxSteps 700
set_option Elab.async false
set_option linter.all false
set_option maxRecDepth 100000
set_option maxHeartbeats 4000000
open SX (S S_inj S_len S_cat)
namespace Z
open Pk NdefX
open PySem PySem.Spec PyProof.Rows L2
open C8 (pss_cut tCut)
local macro_rules | `(tactic| walk_at "num") => `(tactic| first | rfl | omega | decide | exact Nat.le_of_lt (small1000 (by simp)) | exact ⟨by omega, by omega⟩ | exact ⟨by omega, by omega, by omega⟩ | exact ⟨by decide, by decide, by decide⟩ | exact Or.inl ⟨by omega, by omega⟩ | exact Or.inr ⟨by omega, by omega⟩)
local macro_rules | `(tactic| walk_at "go") => `(tactic| repeat (first | refine ⟨_, rfl, ?_⟩ | refine ⟨_, _, rfl, rfl, ?_⟩ | refine ⟨_, _, rfl, ?_⟩ | (refine ⟨_, _, rfl, rfl, ?_, ?_⟩; focus walk_at "num") | refine Or.inl ⟨_, rfl, ?_⟩ | refine ⟨_, _, _, _, rfl, rfl, (by assumption), (by rfl), ?_⟩ | refine ⟨_, _, _, _, _, rfl, (by assumption), (by assumption), (by assumption), (by rfl), ?_⟩ | refine ⟨rfl, ?_⟩ | (refine And.intro ?_ ?_; focus walk_at "num")))
abbrev s_build : Stmt := topS 60
abbrev N_build : List Str := ["_law_pact_here", "_law_part_here"]
abbrev P_build : List Str := ["_law_pact_here"]
theorem sc_build : FnScope N_build P_build (defScope s_build) := ⟨rfl, rfl, rfl, by decide +kernel, rfl, by decide +kernel, by decide +kernel⟩
abbrev s_build_part : Stmt := topS 61
abbrev N_build_part : List Str := ["_law_part_here", "_law_option"]
abbrev P_build_part : List Str := ["_law_part_here"]
theorem sc_build_part : FnScope N_build_part P_build_part (defScope s_build_part) := ⟨rfl, rfl, rfl, by decide +kernel, rfl, by decide +kernel, by decide +kernel⟩
section
variable {P : Program} {w : World} {K : PySem.W.Frag} {mg : Str → Option Value} {base : Heap} {f : Addr} {k : Cs} {fd : FuncData}
theorem Same.back {H H' : Hp} {x : Addr} (s : Same H H') (h : H' x = none) : H x = none := by
  cases e : H x with
  | none => rfl
  | some o => rw [s _ _ e] at h; cases h
theorem no_fn {CX : CXT} {m : Nat} {ps : List Str} {sp : Sp} (h : ∀ vs H Q E, ¬ sp vs H Q E) : FnOk P w K mg base CX m f fd ps sp := ⟨fun _ _ _ _ z => (h _ _ _ _ z).elim, fun _ _ _ _ _ _ _ _ _ _ _ _ _ z => (h _ _ _ _ z).elim⟩
def spBl (k : Cs) (K : PySem.W.Frag) (d : Nat) : Sp := fun vs H Q _ => ∃ (L : Addr) (l : List Pt), vs = [.ref L] ∧ DaAt H l L ∧ OkL l ∧ wtL l ≤ 400 ∧ dpL l ≤ 30 ∧ dpL l + 1 ≤ d ∧ ∀ x H', Same H H' → H x = none → PaAt k K H' l x → Q (.ref x) H'
def spBp (k : Cs) (K : PySem.W.Frag) (d : Nat) : Sp := fun vs H Q _ => ∃ (a : Addr) (p : Pt), vs = [.ref a] ∧ DtAt H p a ∧ Ok p ∧ wt p ≤ 400 ∧ dp p ≤ 30 ∧ dp p ≤ d ∧ ∀ x H', Same H H' → H x = none → PtAt k K H' p x → Q (.ref x) H'
theorem ok_build {d : Nat} (F : FnP K "_law_build" s_build f fd) (y_Pact : MakY P w K mg base 4 "Pact" (spP k K)) (c_build_part : Cal P w K mg base (2 * d + 7) "_law_build_part" (spBp k K d)) : FnOk P w K mg base CX0 (2 * d + 8) f fd P_build (spBl k K (d + 1)) := by
  refine F.ok sc_build (fun vs H Q E h => ?_) (fun cdv A outer s H vs Q E hr h => ?_)
  · obtain ⟨L, l, rfl, _⟩ := h
    rfl
  · obtain ⟨L, l, rfl, ⟨bs, hL, hD⟩, ok, hw, hd, hd2, qq⟩ := h
    refine ⟨_, PSs.nox (pss_one (ps_ret (pe_mkY y_Pact (fun _ => passS0) hr (by omega) (by rfl) (pa_cons (pe_lc (own := [("_law_part_here", 1)]) (g := (gName 1)) (tt := tYes) (by rfl) sc_build.nd (pi_list (pv 0)) (blkOk_by (own := [("_law_part_here", 1)]) (N := N_build) (sc := defScope s_build) (by decide +kernel)) (fun _ _ _ _ _ => (pg_name (i := 1) sc_build.nd rfl (by first | exact .inl rfl | exact .inr rfl))) (fun _ _ _ _ _ => pts_nil) (fun _ _ _ _ _ => (pe_cl c_build_part hr (by omega) (by rfl) (pa_cons (pv 1) pa_nil)))) pa_nil)))), ?_⟩
    have lw := len_wt l
    have lb := DtsAt.len _ _ hD
    walk_at "go"
    refine ⟨⟨_, SqL.of hL⟩, ?_⟩
    intro D nD
    refine lc_relL (fun i J y => ∃ x p, y = .ref x ∧ l[i]? = some p ∧ PtAt k K J p x) (fun i X Y y s h => ?_) (SqL.of hL) (by rw [List.length_map]; omega) nD (fun x => rfl) (fun i x J Q4 ex s4 q4 => ?_) (fun J ys s4 eD ly hG => ?_)
    · obtain ⟨x, p, h1, h2, h3⟩ := h
      exact ⟨x, p, h1, h2, PtAt.monoW s _ _ h3⟩
    · obtain ⟨y, p, rfl, ep, hp⟩ := DtsAt.gets _ _ hD i x ex
      have pm := List.mem_of_getElem? ep
      have := wtL_mem pm
      have := dpL_mem pm
      walk_at "go"
      refine ⟨y, p, rfl, hp.mono s4, okL_iff.mp ok p pm, by omega, by omega, by omega, fun z J2 s2 _ hz => q4 _ _ s2 ⟨z, p, rfl, ep, hz⟩⟩
    obtain ⟨as, rfl⟩ := refs_of ys fun i y e => by
      obtain ⟨x, p, h1, _⟩ := hG i y e
      exact ⟨x, h1⟩
    rw [List.length_map, List.length_map, lb] at ly
    walk_at "go"
    refine ⟨true, D, l, as, rfl, ok, SqL.of eD, ptsAt_of l as ly fun i p a ep ea => ?_, hw, hd, fun x H' s5 hx hP => qq x H' (s4.trans s5) (Same.back s4 hx) hP⟩
    obtain ⟨x, p2, h1, h2, h3⟩ := hG i (.ref a) (by rw [List.getElem?_map, ea]; rfl)
    cases h1
    rw [ep] at h2
    cases h2
    exact h3
theorem ok_build_part {d : Nat} (F : FnP K "_law_build_part" s_build_part f fd) (y_Transfer : MakY P w K mg base 5 "Transfer" (spT k K)) (y_Event : MakY P w K mg base 5 "Event" (spE k K)) (y_Choice : MakY P w K mg base 5 "Choice" (spC k K)) (y_Rounds : MakY P w K mg base 5 "Rounds" (spR k K)) (y_Endless : MakY P w K mg base 5 "Endless" (spN k K)) (y_Times : MakY P w K mg base 5 "Times" (spM k K)) (c_build : Cal P w K mg base (2 * d + 6) "_law_build" (spBl k K d)) : FnOk P w K mg base CX0 (2 * d + 7) f fd P_build_part (spBp k K d) := by
  refine F.ok sc_build_part (fun vs H Q E h => ?_) (fun cdv A outer s H vs Q E hr h => ?_)
  · obtain ⟨a, p, rfl, _⟩ := h
    rfl
  · obtain ⟨a, p, rfl, hD, ok, hw, hd, hd2, qq⟩ := h
    refine ⟨_, PSs.nox (pss_cons (ps_if (pt_cmpR op_eq (pe_ix ix_tup (pv 0) pe_int (fun _ _ => rfl)) pe_str (nomark _)) (pss_one (ps_ret (pe_mkY y_Transfer (fun _ => passS0) hr (by omega) (by rfl) (pa_cons (pe_ix ix_tup (pv 0) pe_int (fun _ _ => rfl)) (pa_cons (pe_ix ix_tup (pv 0) pe_int (fun _ _ => rfl)) (pa_cons (pe_ix ix_tup (pv 0) pe_int (fun _ _ => rfl)) pa_nil)))))) pss_nil)
      (pss_cons (ps_if (pt_cmpR op_eq (pe_ix ix_tup (pv 0) pe_int (fun _ _ => rfl)) pe_str (nomark _)) (pss_one (ps_ret (pe_mkY y_Event (fun _ => passS0) hr (by omega) (by rfl) (pa_cons (pe_ix ix_tup (pv 0) pe_int (fun _ _ => rfl)) pa_nil)))) pss_nil)
      (pss_cons (ps_if (pt_cmpR op_eq (pe_ix ix_tup (pv 0) pe_int (fun _ _ => rfl)) pe_str (nomark _)) (pss_one (ps_ret (pe_mkY y_Choice (fun _ => passS0) hr (by omega) (by rfl) (pa_cons (pe_ix ix_tup (pv 0) pe_int (fun _ _ => rfl)) (pa_cons (pe_lc (own := [("_law_option", 1)]) (g := (gName 1)) (tt := tYes) (by rfl) sc_build_part.nd (pi_list (pe_ix ix_tup (pv 0) pe_int (fun _ _ => rfl))) (blkOk_by (own := [("_law_option", 1)]) (N := N_build_part) (sc := defScope s_build_part) (by decide +kernel)) (fun _ _ _ _ _ => (pg_name (i := 1) sc_build_part.nd rfl (by first | exact .inl rfl | exact .inr rfl))) (fun _ _ _ _ _ => pts_nil) (fun _ _ _ _ _ => (pe_cl c_build hr (by omega) (by rfl) (pa_cons (pv 1) pa_nil)))) pa_nil))))) pss_nil)
      (pss_cons (ps_if (pt_cmpR op_eq (pe_ix ix_tup (pv 0) pe_int (fun _ _ => rfl)) pe_str (nomark _)) (pss_one (ps_ret (pe_mkY y_Rounds (fun _ => passS0) hr (by omega) (by rfl) (pa_cons (pe_ix ix_tup (pv 0) pe_int (fun _ _ => rfl)) (pa_cons (pe_cl c_build hr (by omega) (by rfl) (pa_cons (pe_ix ix_tup (pv 0) pe_int (fun _ _ => rfl)) pa_nil)) pa_nil))))) pss_nil)
      (pss_cons (ps_if (pt_cmpR op_eq (pe_ix ix_tup (pv 0) pe_int (fun _ _ => rfl)) pe_str (nomark _)) (pss_one (ps_ret (pe_mkY y_Endless (fun _ => passS0) hr (by omega) (by rfl) (pa_cons (pe_cl c_build hr (by omega) (by rfl) (pa_cons (pe_ix ix_tup (pv 0) pe_int (fun _ _ => rfl)) pa_nil)) pa_nil)))) pss_nil)
      (pss_one (ps_ret (pe_mkY y_Times (fun _ => passS0) hr (by omega) (by rfl) (pa_cons (pe_ix ix_tup (pv 0) pe_int (fun _ _ => rfl)) (pa_cons (pe_cl c_build hr (by omega) (by rfl) (pa_cons (pe_ix ix_tup (pv 0) pe_int (fun _ _ => rfl)) pa_nil)) pa_nil)))))))))), ?_⟩
    have hD0 := hD
    match p, hD, ok, hw, hd, hd2, qq with
    | .tr p q m, hD, ok, hw, hd, hd2, qq =>
      rw [DtAt] at hD
      have hT : SqT K H a _ := SqT.of hD
      walk_at "go"
      exact ⟨p, q, m, rfl, ok, qq⟩
    | .ev c, hD, ok, hw, hd, hd2, qq =>
      rw [DtAt] at hD
      have hT : SqT K H a _ := SqT.of hD
      walk_at "go"
      exact qq
    | .ch o os, hD, ok, hw, hd, hd2, qq =>
      rw [DtAt] at hD
      obtain ⟨L, as, hD, hL, hA⟩ := hD
      have hT : SqT K H a _ := SqT.of hD
      walk_at "go"
      refine ⟨⟨_, SqL.of hL⟩, ?_⟩
      intro D nD
      have la := DasAt.len _ _ hA
      have okk := ok
      rw [Ok] at okk
      have hw2 := hw
      rw [wt] at hw2
      have hd3 := hd
      have hd4 := hd2
      rw [dp] at hd3 hd4
      refine lc_relL (fun i J y => ∃ x b, y = .ref x ∧ os[i]? = some b ∧ PaAt k K J b x) (fun i X Y y s h => ?_) (SqL.of hL) (by rw [List.length_map]; omega) nD (fun x => rfl) (fun i x J Q4 ex s4 q4 => ?_) (fun J ys s4 eD ly hG => ?_)
      · obtain ⟨x, p, h1, h2, h3⟩ := h
        exact ⟨x, p, h1, h2, PaAt.monoW s h3⟩
      · obtain ⟨y, b, rfl, ep, hp⟩ := DasAt.gets _ _ hA i x ex
        have pm := List.mem_of_getElem? ep
        have := wtLL_mem pm
        have := dpLL_mem pm
        walk_at "go"
        refine ⟨y, b, rfl, hp.mono s4, okLL_iff.mp okk.2.2.2 b pm, by omega, by omega, by omega, fun z J2 s2 _ hz => q4 _ _ s2 ⟨z, b, rfl, ep, hz⟩⟩
      obtain ⟨bs, rfl⟩ := refs_of ys fun i y e => by
        obtain ⟨x, p, h1, _⟩ := hG i y e
        exact ⟨x, h1⟩
      rw [List.length_map, List.length_map, la] at ly
      walk_at "go"
      refine ⟨true, D, o, os, bs, rfl, ok, SqL.of eD, pasAt_of os bs ly fun i p a ep ea => ?_, hw, hd, fun x H' s5 hx hP => qq x H' (s4.trans s5) (Same.back s4 hx) hP⟩
      obtain ⟨x, p2, h1, h2, h3⟩ := hG i (.ref a) (by rw [List.getElem?_map, ea]; rfl)
      cases h1
      rw [ep] at h2
      cases h2
      exact h3
    | .rd o b, hD, ok, hw, hd, hd2, qq =>
      rw [DtAt] at hD
      obtain ⟨L, as, hD, hL, hA⟩ := hD
      have hT : SqT K H a _ := SqT.of hD
      walk_at "go"
      rw [Ok] at ok
      rw [wt] at hw
      rw [dp] at hd hd2
      refine ⟨L, b, rfl, ⟨as, hL, hA⟩, ok.2, by omega, by omega, by omega, fun y H1 s1 ny hy => ?_⟩
      refine ⟨y, o, b, rfl, by rw [Ok]; exact ok, hy, by rw [wt]; exact hw, by rw [dp]; exact hd, fun x H2 s2 nx hx => qq x H2 (s1.trans s2) (Same.back s1 nx) hx⟩
    | .en b, hD, ok, hw, hd, hd2, qq =>
      rw [DtAt] at hD
      obtain ⟨L, as, hD, hL, hA⟩ := hD
      have hT : SqT K H a _ := SqT.of hD
      walk_at "go"
      rw [Ok] at ok
      rw [wt] at hw
      rw [dp] at hd hd2
      refine ⟨L, b, rfl, ⟨as, hL, hA⟩, ok, by omega, by omega, by omega, fun y H1 s1 ny hy => ?_⟩
      refine ⟨y, b, rfl, by rw [Ok]; exact ok, hy, by rw [wt]; exact hw, by rw [dp]; exact hd, fun x H2 s2 nx hx => qq x H2 (s1.trans s2) (Same.back s1 nx) hx⟩
    | .ti c b, hD, ok, hw, hd, hd2, qq =>
      rw [DtAt] at hD
      obtain ⟨L, as, hD, hL, hA⟩ := hD
      have hT : SqT K H a _ := SqT.of hD
      walk_at "go"
      rw [Ok] at ok
      rw [wt] at hw
      rw [dp] at hd hd2
      have h4 : wtL b ≤ wtL b * (if c < 1 then 1 else c) := Nat.le_mul_of_pos_right _ (by split <;> omega)
      refine ⟨L, b, rfl, ⟨as, hL, hA⟩, ok.2, by omega, by omega, by omega, fun y H1 s1 ny hy => ?_⟩
      refine ⟨y, c, b, rfl, by rw [Ok]; exact ok, hy, by rw [wt]; exact hw, by rw [dp]; exact hd, fun x H2 s2 nx hx => qq x H2 (s1.trans s2) (Same.back s1 nx) hx⟩
end
end Z
set_option Elab.async false
set_option linter.all false
set_option maxRecDepth 100000
set_option maxHeartbeats 4000000
namespace Z
open PySem PySem.Spec PyProof.Rows L2
/-! ### match of a tuple: case [a, b, ..] if test: -/
/-- names that are bound one after another, at the slots -/
def bindNs : List Nat → List V → L2.St → L2.St
  | i :: is, v :: vs, σ => bindNs is vs (σ.set i (some v))
  | _, _, σ => σ
abbrev TMC := Addr → List V → TS
def tMNil : TMC := fun _ _ D σ H => D.nx σ H
def tMCons (K : PySem.W.Frag) (is : List Nat) (tt : TT) (body : TS) (rest : TMC) : TMC := fun a xs D σ H =>
  if xs.length = is.length then tt (bindNs is xs σ) H (fun b H1 => if b = true then body D (bindNs is xs σ) H1 else SqT K H1 a xs ∧ rest a xs D (bindNs is xs σ) H1) else rest a xs D σ H
def tMatch (K : PySem.W.Frag) (te : TE) (tc : TMC) : TS := fun D σ H => te σ H fun v H1 => ∃ a xs, v = .ref a ∧ SqT K H1 a xs ∧ tc a xs D σ H1
theorem mc_hit {K : PySem.W.Frag} {is : List Nat} {tt : TT} {body : TS} {rest : TMC} {a : Addr} {xs : List V} {D : Ends} {σ : L2.St} {H : Hp} (h : xs.length = is.length) (q : tt (bindNs is xs σ) H (fun b H1 => if b = true then body D (bindNs is xs σ) H1 else SqT K H1 a xs ∧ rest a xs D (bindNs is xs σ) H1)) : tMCons K is tt body rest a xs D σ H := by
  unfold tMCons
  rw [if_pos h]
  exact q
theorem mc_miss {K : PySem.W.Frag} {is : List Nat} {tt : TT} {body : TS} {rest : TMC} {a : Addr} {xs : List V} {D : Ends} {σ : L2.St} {H : Hp} (h : xs.length ≠ is.length) (q : rest a xs D σ H) : tMCons K is tt body rest a xs D σ H := by
  unfold tMCons
  rw [if_neg h]
  exact q
structure MC (X : Cx) (cases : List MatchCase) (t : TMC) : Prop where
  run : ∀ (first : Bool) (pins : List (Addr × Obj)) (s : Shared) (σ : L2.St) (H : Hp) (a : Addr) (xs : List V) (D : Ends), Inv X pins σ H s → SqT X.K H a xs → t a xs D σ H → wpAny (model X.prog X.w) X.A (matchCases cases X.env (.ref a) first) (SP X pins D) X.xe s
section
variable {X : Cx}
theorem mc_nil : MC X [] tMNil := ⟨fun _ _ _ σ H _ _ _ I _ h => wpAny_matchCases_nil ⟨σ, H, I, h⟩⟩
/-- the names and their slots -/
def NmsOk (X : Cx) : List Str → List Nat → Prop
  | [], [] => True
  | x :: xs, i :: is => X.N[i]? = some x ∧ Loc X.env.scope x ∧ (X.fn x = true ∨ X.env.scope.names.lookup x = some .local) ∧ NmsOk X xs is
  | _, _ => False
theorem NmsOk.len : ∀ {xs : List Str} {is : List Nat}, NmsOk X xs is → xs.length = is.length
  | [], [], _ => rfl
  | x :: xs, i :: is, h => by
    rw [List.length_cons, List.length_cons, NmsOk.len h.2.2.2]
  | [], _ :: _, h => h.elim
  | _ :: _, [], h => h.elim
def capP (x : Str × Pos) : Pattern := .MatchAs none (some x.1) x.2
theorem each_cap {M : Model} {A : Around} {E : Value → Shared → Prop} {env : Env} {Q : Option (List (Str × Value)) → Shared → Prop} : ∀ (ns : List (Str × Pos)) (us : List Value) (s : Shared), ns.length = us.length → Q (some ((ns.map (·.1)).zip us)) s → wpAny M A (matchEach (ns.map capP) env us) Q E s
  | [], [], s, _, h => wpAny_matchEach_nil h
  | n :: ns, u :: us, s, e, h => by
    rw [List.map_cons]
    refine wpAny_matchEach_cons (p := capP n) (wpAny_matchPattern_Capture ?_) rfl
    refine each_cap ns us s (by simpa using e) ?_
    exact h
  | [], _ :: _, s, e, h => by cases e
  | _ :: _, [], s, e, h => by cases e
theorem bind_ok {pins : List (Addr × Obj)} {Q : Unit → Shared → Prop} (hN : X.N.Nodup) : ∀ (ns : List Str) (is : List Nat) (vs : List V) (us : List Value) (σ : L2.St) (H : Hp) (s : Shared), NmsOk X ns is → Inv X pins σ H s → Vals vs us → vs.length = is.length →
    (∀ s', Inv X pins (bindNs is vs σ) H s' → Q () s') → wpAny (model X.prog X.w) X.A (assignInOrder (((ns.zip us).map fun (n, _) => bindName X.env n)) ((ns.zip us).map (·.2))) Q X.xe s
  | [], [], vs, us, σ, H, s, _, I, r, e, q => by
    cases vs with
    | nil => exact assignInOrder_nil (q s I)
    | cons v vs => cases e
  | n :: ns, i :: is, [], us, σ, H, s, _, I, r, e, q => by cases e
  | n :: ns, i :: is, v :: vs, us, σ, H, s, ok, I, r, e, q => by
    cases r with
    | cons r rr =>
      obtain ⟨h1, h2, h3, h4⟩ := ok
      rw [List.zip_cons_cons, List.map_cons, List.map_cons]
      refine assignInOrder_cons (wpAny_bindName (store_ok I hN h1 h2 r (fun s' I' => ?_) h3))
      exact bind_ok hN ns is vs _ _ H s' h4 I' rr (by simpa using e) q
  | [], _ :: _, _, _, _, _, _, h, _, _, _, _ => h.elim
  | _ :: _, [], _, _, _, _, _, h, _, _, _, _ => h.elim
theorem mc_cons0 {ns : List (Str × Pos)} {is : List Nat} {g : Expr} {body : List Stmt} {rest : List MatchCase} {pos : Pos} {tt : TT} {tb : TS} {tr : TMC} (hc : X.calm = true) (hN : X.N.Nodup) (hn : NmsOk X (ns.map (·.1)) is) (hne : is ≠ []) (hg : PT X g tt) (hb : PSs X body tb) (hr : MC X rest tr) :
    MC X (⟨.MatchSequence (ns.map capP) pos, some g, body⟩ :: rest) (tMCons X.K is tt tb tr) := by
  refine ⟨fun first pins s σ H a xs D I hx h => ?_⟩
  have hlen := hn.len
  rw [List.length_map] at hlen
  obtain ⟨its, rv, ht, hz⟩ := I.tuple hx
  have hfit : ((its.toArray.size : Nat) : Int) < 2 ^ 63 := by
    have e := rv.length
    rw [sizeLine_eq] at hz
    simp only [List.size_toArray]
    omega
  have hst : (ns.map capP).findIdx? (·.isStar) = none := by
    rw [List.findIdx?_eq_none_iff]
    intro p hp
    obtain ⟨q, _, rfl⟩ := List.mem_map.mp hp
    rfl
  have hwl : ((ns.map capP).all fun p => p.isWildcard || (p.isStar && p.names.isEmpty)) = false := by
    cases ns with
    | nil =>
      cases is with
      | nil => exact absurd rfl hne
      | cons i is => cases hlen
    | cons n ns => rfl
  refine wpAny_matchCases_cons ?_
  by_cases hl : xs.length = is.length
  · unfold tMCons at h
    rw [if_pos hl] at h
    have esz : its.toArray.size = (ns.map capP).length := by
      rw [List.size_toArray, List.length_map, ← rv.length, hl, hlen]
    refine matchSeq_tuple_hit ht hfit esz ?_ hst hwl
    rw [← esz]
    refine unpackItems_tuple (I.ok.hd hc) ht fun h' hx' => ?_
    have I1 : Inv X pins σ H { s with heap := h', toks := s.toks + 1 + 1 } := I.kept (t' := s.toks + 1 + 1) fun b o e => hx' b o (Nat.ne_of_lt (Heap.lt_size e)) e
    refine each_cap ns its _ (by rw [← rv.length, hl, hlen]) ?_
    refine bind_ok hN (ns.map (·.1)) is xs its σ H _ hn I1 rv hl fun s' I2 => ?_
    refine thn (hg.run pins s' _ H _ I2 h) fun b s3 ⟨H1, I3, q⟩ => ?_
    cases b with
    | true => exact hb.run pins s3 _ H1 D I3 q
    | false => exact hr.run false pins s3 _ H1 a xs D I3 q.1 q.2
  · unfold tMCons at h
    rw [if_neg hl] at h
    have esz : its.toArray.size ≠ (ns.map capP).length := by
      rw [List.size_toArray, List.length_map, ← rv.length, hlen]
      exact hl
    refine matchSeq_tuple_miss ht hfit esz ?_ hst hwl
    exact hr.run false pins _ σ H a xs D (I.kept (t' := s.toks + 1 + 1) fun b o e => e) hx h
def nsOf : List Pattern → List (Str × Pos)
  | [] => []
  | .MatchAs none (some x) p :: r => (x, p) :: nsOf r
  | _ :: r => nsOf r
theorem mc_cons {ps : List Pattern} {is : List Nat} {g : Expr} {body : List Stmt} {rest : List MatchCase} {pos : Pos} {tt : TT} {tb : TS} {tr : TMC} (hc : X.calm = true) (hN : X.N.Nodup) (hn : NmsOk X ((nsOf ps).map (·.1)) is) (hne : is ≠ []) (hg : PT X g tt) (hb : PSs X body tb) (hr : MC X rest tr) (hps : ps = (nsOf ps).map capP := by rfl) :
    MC X (⟨.MatchSequence ps pos, some g, body⟩ :: rest) (tMCons X.K is tt tb tr) := by
  rw [hps]
  exact mc_cons0 hc hN hn hne hg hb hr
theorem ps_match {e : Expr} {cs : List MatchCase} {pos : Pos} {te : TE} {tc : TMC} (he : PE X e te) (hc : MC X cs tc) : PS X (.Match e cs pos) (tMatch X.K te tc) := by
  refine ⟨fun pins s σ H D I h => wpAny_Match (thn (he.run pins s σ H _ I h) fun u s1 ⟨v, H1, I1, r, a, xs, ev, hx, q⟩ => ?_)⟩
  subst ev
  obtain rfl : u = Value.ref a := r
  exact hc.run true pins s1 σ H1 a xs D I1 hx q
end
end Z
set_option linter.all false
set_option maxRecDepth 100000
namespace Pk
/-! ### the words of a written pact, and how they are spelt -/
inductive Wk where
  | sg (c : Nat)
  | ow (c : Nat)
  | mk (c : Nat)
  | tr (p q m : Nat)
  | ct (c : Nat)
def SGN : List Nat := [40, 41, 91, 93, 124, 44, 46]
def wT : Wk → List Nat
  | .sg c => [c]
  | .ow c => [c]
  | .mk c => [c]
  | .tr p q m => [p] ++ [q] ++ dig m
  | .ct c => dig c
def WOk : Wk → Prop
  | .sg c => c ∈ SGN
  | .ow c => c ∈ PAR
  | .mk c => c ∈ MRK
  | .tr p q m => p ∈ PAR ∧ q ∈ PAR ∧ p ≠ q ∧ m ≤ 10 ^ 60
  | .ct c => c ≤ 100
def isS : Wk → Bool
  | .sg _ => true
  | _ => false
/-- no two words of letters side by side -/
def nxS : List Wk → Prop
  | [] => True
  | w :: _ => isS w = true
def Gw : List Wk → Prop
  | [] => True
  | w :: ws => WOk w ∧ (isS w = true ∨ nxS ws) ∧ Gw ws
mutual
def wds : Pt → List Wk
  | .tr p q m => [.tr p q m]
  | .ev k => [.mk k]
  | .ch o os => .ow o :: .sg 40 :: (wO os ++ [.sg 41])
  | .rd o b => .ow o :: .sg 91 :: (wB b ++ [.sg 93])
  | .en b => .sg 91 :: (wB b ++ [.sg 93])
  | .ti c b => .ct c :: .sg 40 :: (wB b ++ [.sg 41])
def wB : List Pt → List Wk
  | [] => [.sg 46]
  | p :: l => wds p ++ wC l
/-- the further parts -/
def wC : List Pt → List Wk
  | [] => []
  | p :: l => .sg 44 :: (wds p ++ wC l)
/-- options -/
def wO : List (List Pt) → List Wk
  | [] => []
  | b :: l => wB b ++ wP l
def wP : List (List Pt) → List Wk
  | [] => []
  | b :: l => .sg 124 :: (wB b ++ wP l)
end
/-- spelt with any spaces -/
def Spl : List Wk → List Nat → Prop
  | [], T => ∀ c ∈ T, c = 32
  | w :: ws, T => ∃ (k : Nat) (T' : List Nat), T = List.replicate k 32 ++ wT w ++ T' ∧ Spl ws T'
theorem all32 : ∀ {T : List Nat}, (∀ c ∈ T, c = 32) → ∃ k, T = List.replicate k 32
  | [], _ => ⟨0, rfl⟩
  | c :: T, h => by
    obtain ⟨k, e⟩ := all32 (T := T) fun c hc => h c (List.mem_cons_of_mem _ hc)
    exact ⟨k + 1, by rw [h c List.mem_cons_self, List.replicate_succ, ← e]⟩
theorem spl_pre {ws : List Wk} {T : List Nat} (k : Nat) (h : Spl ws T) : Spl ws (List.replicate k 32 ++ T) := by
  cases ws with
  | nil =>
    intro c hc
    rcases List.mem_append.mp hc with hc | hc
    · exact List.eq_of_mem_replicate hc
    · exact h c hc
  | cons w ws =>
    obtain ⟨j, T', e, h2⟩ := h
    exact ⟨k + j, T', by rw [e, ← List.replicate_append_replicate]; simp only [List.append_assoc], h2⟩
theorem spl_app : ∀ {ws vs : List Wk} {T T2 : List Nat}, Spl ws T → Spl vs T2 → Spl (ws ++ vs) (T ++ T2)
  | [], vs, T, T2, h, h2 => by
    obtain ⟨k, rfl⟩ := all32 h
    exact spl_pre k h2
  | w :: ws, vs, T, T2, h, h2 => by
    obtain ⟨k, T', e, h3⟩ := h
    exact ⟨k, T' ++ T2, by rw [e, List.append_assoc _ _ T2], spl_app h3 h2⟩
theorem spl_one (w : Wk) : Spl [w] (wT w) := ⟨0, [], by simp, fun c hc => absurd hc List.not_mem_nil⟩
theorem spl_sp (w : Wk) : Spl [w] (wT w ++ [32]) := ⟨0, [32], by simp, fun c hc => by simpa using hc⟩
mutual
theorem spl_wds : ∀ p : Pt, Spl (wds p) (tx p)
  | .tr p q m => by
    rw [wds, tx]
    exact spl_one (.tr p q m)
  | .ev k => by
    rw [wds, tx]
    exact spl_one (.mk k)
  | .ch o os => by
    rw [wds, tx]
    have h := spl_app (spl_one (.ow o)) (spl_app (spl_one (.sg 40)) (spl_app (spl_wO os) (spl_one (.sg 41))))
    simpa [wT, List.append_assoc] using h
  | .rd o b => by
    rw [wds, tx]
    have h := spl_app (spl_one (.ow o)) (spl_app (spl_one (.sg 91)) (spl_app (spl_wB b) (spl_one (.sg 93))))
    simpa [wT, List.append_assoc] using h
  | .en b => by
    rw [wds, tx]
    have h := spl_app (spl_one (.sg 91)) (spl_app (spl_wB b) (spl_one (.sg 93)))
    simpa [wT, List.append_assoc] using h
  | .ti c b => by
    rw [wds, tx]
    have h := spl_app (spl_one (.ct c)) (spl_app (spl_one (.sg 40)) (spl_app (spl_wB b) (spl_one (.sg 41))))
    simpa [wT, List.append_assoc] using h
theorem spl_wB : ∀ l : List Pt, Spl (wB l) (txB l)
  | [] => by
    rw [wB, txB]
    exact spl_one (.sg 46)
  | p :: l => by
    rw [wB, txB]
    exact spl_jn l p (spl_wds p)
theorem spl_jn : ∀ (l : List Pt) (p : Pt), Spl (wds p) (tx p) → Spl (wds p ++ wC l) (jn [44, 32] (tx p :: txs l))
  | [], p, hp => by
    rw [wC, txs, List.append_nil]
    exact hp
  | q :: l, p, hp => by
    rw [wC, txs]
    show Spl _ (tx p ++ [44, 32] ++ jn [44, 32] (tx q :: txs l))
    have h := spl_app hp (spl_app (spl_sp (.sg 44)) (spl_jn l q (spl_wds q)))
    simpa [wT, List.append_assoc] using h
theorem spl_wO : ∀ os : List (List Pt), Spl (wO os) (jn [32, 124, 32] (txLL os))
  | [] => by
    rw [wO, txLL]
    exact fun c hc => absurd hc List.not_mem_nil
  | b :: l => by
    rw [wO, txLL]
    exact spl_jnO l b (spl_wB b)
theorem spl_jnO : ∀ (l : List (List Pt)) (b : List Pt), Spl (wB b) (txB b) → Spl (wB b ++ wP l) (jn [32, 124, 32] (txB b :: txLL l))
  | [], b, hb => by
    rw [wP, txLL, List.append_nil]
    exact hb
  | c :: l, b, hb => by
    rw [wP, txLL]
    show Spl _ (txB b ++ [32, 124, 32] ++ jn [32, 124, 32] (txB c :: txLL l))
    have h := spl_app hb (spl_pre 1 (spl_app (spl_sp (.sg 124)) (spl_jnO l c (spl_wB c))))
    simpa [wT, List.append_assoc] using h
end
/-! ### the words are right -/
mutual
theorem gw_wds : ∀ (p : Pt) (r : List Wk), Ok p → Gw r → nxS r → Gw (wds p ++ r)
  | .tr p q m, r, h, g, n => by
    rw [Ok] at h
    rw [wds]
    exact ⟨h, .inr n, g⟩
  | .ev k, r, h, g, n => by
    rw [Ok] at h
    rw [wds]
    exact ⟨h, .inr n, g⟩
  | .ch o os, r, h, g, n => by
    rw [Ok] at h
    rw [wds, List.cons_append, List.cons_append, List.append_assoc]
    exact ⟨h.1, .inr rfl, (by decide : 40 ∈ SGN), .inl rfl, gw_wO os _ h.2.2.2 ⟨(by decide : 41 ∈ SGN), .inl rfl, g⟩ rfl⟩
  | .rd o b, r, h, g, n => by
    rw [Ok] at h
    rw [wds, List.cons_append, List.cons_append, List.append_assoc]
    exact ⟨h.1, .inr rfl, (by decide : 91 ∈ SGN), .inl rfl, gw_wB b _ h.2 ⟨(by decide : 93 ∈ SGN), .inl rfl, g⟩ rfl⟩
  | .en b, r, h, g, n => by
    rw [Ok] at h
    rw [wds, List.cons_append, List.append_assoc]
    exact ⟨(by decide : 91 ∈ SGN), .inl rfl, gw_wB b _ h ⟨(by decide : 93 ∈ SGN), .inl rfl, g⟩ rfl⟩
  | .ti c b, r, h, g, n => by
    rw [Ok] at h
    rw [wds, List.cons_append, List.cons_append, List.append_assoc]
    exact ⟨h.1, .inr rfl, (by decide : 40 ∈ SGN), .inl rfl, gw_wB b _ h.2 ⟨(by decide : 41 ∈ SGN), .inl rfl, g⟩ rfl⟩
theorem gw_wB : ∀ (l : List Pt) (r : List Wk), OkL l → Gw r → nxS r → Gw (wB l ++ r)
  | [], r, h, g, n => by
    rw [wB]
    exact ⟨(by decide : 46 ∈ SGN), .inl rfl, g⟩
  | p :: l, r, h, g, n => by
    rw [OkL] at h
    rw [wB, List.append_assoc]
    obtain ⟨g2, n2⟩ := gw_wC l r h.2 g n
    exact gw_wds p _ h.1 g2 n2
theorem gw_wC : ∀ (l : List Pt) (r : List Wk), OkL l → Gw r → nxS r → Gw (wC l ++ r) ∧ nxS (wC l ++ r)
  | [], r, h, g, n => by
    rw [wC]
    exact ⟨g, n⟩
  | p :: l, r, h, g, n => by
    rw [OkL] at h
    rw [wC, List.cons_append, List.append_assoc]
    obtain ⟨g2, n2⟩ := gw_wC l r h.2 g n
    exact ⟨⟨(by decide : 44 ∈ SGN), .inl rfl, gw_wds p _ h.1 g2 n2⟩, rfl⟩
theorem gw_wO : ∀ (l : List (List Pt)) (r : List Wk), OkLL l → Gw r → nxS r → Gw (wO l ++ r)
  | [], r, h, g, n => by
    rw [wO]
    exact g
  | b :: l, r, h, g, n => by
    rw [OkLL] at h
    rw [wO, List.append_assoc]
    obtain ⟨g2, n2⟩ := gw_wP l r h.2 g n
    exact gw_wB b _ h.1 g2 n2
theorem gw_wP : ∀ (l : List (List Pt)) (r : List Wk), OkLL l → Gw r → nxS r → Gw (wP l ++ r) ∧ nxS (wP l ++ r)
  | [], r, h, g, n => by
    rw [wP]
    exact ⟨g, n⟩
  | b :: l, r, h, g, n => by
    rw [OkLL] at h
    rw [wP, List.cons_append, List.append_assoc]
    obtain ⟨g2, n2⟩ := gw_wP l r h.2 g n
    exact ⟨⟨(by decide : 124 ∈ SGN), .inl rfl, gw_wB b _ h.1 g2 n2⟩, rfl⟩
end
/-! ### decimal figures -/
def DGT : List Nat := [48, 49, 50, 51, 52, 53, 54, 55, 56, 57]
/-- letters and figures -/
def ALN : List Nat := (List.range 26).map (· + 97) ++ (List.range 26).map (· + 65) ++ DGT
theorem dig_mem {m c : Nat} (h : c ∈ dig m) : c ∈ DGT := by
  unfold dig at h
  obtain ⟨d, hd, rfl⟩ := List.mem_map.mp h
  have z := Nat.isDigit_of_mem_toDigits (b := 10) (by decide) (by decide) hd
  unfold Char.isDigit at z
  simp only [Bool.and_eq_true, decide_eq_true_eq, UInt32.le_iff_toNat_le] at z
  have z1 : 48 ≤ d.toNat := z.1
  have z2 : d.toNat ≤ 57 := z.2
  unfold DGT
  simp only [List.mem_cons, List.not_mem_nil, or_false]
  omega
theorem dig_ne (m : Nat) : dig m ≠ [] := by
  unfold dig
  intro h
  have := List.map_eq_nil_iff.mp h
  exact Nat.toDigits_ne_nil this
theorem wT_aln {w : Wk} (h : WOk w) (n : isS w = false) : wT w ≠ [] ∧ ∀ c ∈ wT w, c ∈ ALN := by
  have pa : ∀ c ∈ PAR, c ∈ ALN := by decide
  have ma : ∀ c ∈ MRK, c ∈ ALN := by decide
  have da : ∀ c ∈ DGT, c ∈ ALN := by decide
  cases w with
  | sg c => cases n
  | ow c => exact ⟨by simp [wT], fun d hd => by rw [List.mem_singleton.mp hd]; exact pa _ h⟩
  | mk c => exact ⟨by simp [wT], fun d hd => by rw [List.mem_singleton.mp hd]; exact ma _ h⟩
  | tr p q m =>
    refine ⟨by simp [wT], fun d hd => ?_⟩
    rcases List.mem_append.mp hd with hd | hd
    · rcases List.mem_append.mp hd with hd | hd
      · rw [List.mem_singleton.mp hd]; exact pa _ h.1
      · rw [List.mem_singleton.mp hd]; exact pa _ h.2.1
    · exact da _ (dig_mem hd)
  | ct c => exact ⟨dig_ne c, fun d hd => da _ (dig_mem hd)⟩
theorem sgn_not {c : Nat} (h : c ∈ SGN) : c ∉ ALN ∧ c ≠ 32 := by
  have : ∀ c ∈ SGN, c ∉ ALN ∧ c ≠ 32 := by decide
  exact this c h
theorem aln_not {c : Nat} (h : c ∈ ALN) : c ∉ SGN ∧ c ≠ 32 := by
  have : ∀ c ∈ ALN, c ∉ SGN ∧ c ≠ 32 := by decide
  exact this c h
/-- no leading nought -/
theorem dig_zero {m : Nat} (h : (dig m)[0]? = some 48) : (dig m).length ≤ 1 := by
  by_cases c : m < 10
  · unfold dig
    rw [List.length_map, Nat.toDigits_of_lt_base c]
    exact Nat.le_refl _
  · exfalso
    revert h
    have : ∀ (k m : Nat), m ≤ k → 1 ≤ m → (dig m)[0]? ≠ some 48 := by
      intro k
      induction k with
      | zero => intro m h1 h2; omega
      | succ k ih =>
        intro m h1 h2
        by_cases c : m < 10
        · unfold dig
          rw [Nat.toDigits_of_lt_base c]
          have : ∀ m : Nat, m < 10 → 1 ≤ m → (List.map Char.toNat [m.digitChar])[0]? ≠ some 48 := by decide
          exact this m c h2
        · have z := ih (m / 10) (by omega) (by omega)
          unfold dig at z ⊢
          rw [Nat.toDigits_of_base_le (by decide) (by omega), List.map_append, List.getElem?_append_left]
          · exact z
          · rw [List.length_map]
            exact List.length_pos_iff.mpr Nat.toDigits_ne_nil
    exact this m m (Nat.le_refl _) (by omega)
/-! ### how many words -/
mutual
theorem wds_len : ∀ p : Pt, Ok p → (wds p).length + 1 ≤ 20 * wt p
  | .tr p q m, h => by rw [wds, wt]; show 1 + 1 ≤ 20 * 1; decide
  | .ev k, h => by rw [wds, wt]; show 1 + 1 ≤ 20 * 1; decide
  | .ch o os, h => by
    rw [Ok] at h
    have := wO_len os h.2.2.2
    rw [wds, wt]
    simp only [List.length_cons, List.length_append, List.length_nil]
    omega
  | .rd o b, h => by
    rw [Ok] at h
    have := wB_len b h.2
    rw [wds, wt]
    simp only [List.length_cons, List.length_append, List.length_nil]
    omega
  | .en b, h => by
    rw [Ok] at h
    have := wB_len b h
    rw [wds, wt]
    simp only [List.length_cons, List.length_append, List.length_nil]
    omega
  | .ti c b, h => by
    rw [Ok] at h
    have := wB_len b h.2
    have h4 : wtL b ≤ wtL b * (if c < 1 then 1 else c) := Nat.le_mul_of_pos_right _ (by split <;> omega)
    rw [wds, wt]
    simp only [List.length_cons, List.length_append, List.length_nil]
    omega
theorem wB_len : ∀ l : List Pt, OkL l → (wB l).length ≤ 20 * wtL l + 1
  | [], h => by rw [wB, wtL]; decide
  | p :: l, h => by
    rw [OkL] at h
    have h1 := wds_len p h.1
    have h2 := wC_len l h.2
    rw [wB, wtL, List.length_append]
    omega
theorem wC_len : ∀ l : List Pt, OkL l → (wC l).length ≤ 20 * wtL l
  | [], h => by rw [wC, wtL]; decide
  | p :: l, h => by
    rw [OkL] at h
    have h1 := wds_len p h.1
    have h2 := wC_len l h.2
    rw [wC, wtL, List.length_cons, List.length_append]
    omega
theorem wO_len : ∀ l : List (List Pt), OkLL l → (wO l).length ≤ 20 * wtLL l + 2 * l.length
  | [], h => by rw [wO, wtLL]; decide
  | b :: l, h => by
    rw [OkLL] at h
    have h1 := wB_len b h.1
    have h2 := wP_len l h.2
    rw [wO, wtLL, List.length_append, List.length_cons]
    omega
theorem wP_len : ∀ l : List (List Pt), OkLL l → (wP l).length ≤ 20 * wtLL l + 2 * l.length
  | [], h => by rw [wP, wtLL]; decide
  | b :: l, h => by
    rw [OkLL] at h
    have h1 := wB_len b h.1
    have h2 := wP_len l h.2
    rw [wP, wtLL, List.length_cons, List.length_append, List.length_cons]
    omega
end
theorem wT_len {w : Wk} (h : WOk w) : (wT w).length ≤ 63 := by
  cases w with
  | sg c => show 1 ≤ 63; decide
  | ow c => show 1 ≤ 63; decide
  | mk c => show 1 ≤ 63; decide
  | tr p q m =>
    have := dig_len h.2.2.2
    show ([p] ++ [q] ++ dig m).length ≤ 63
    rw [List.length_append]
    show 2 + _ ≤ 63
    omega
  | ct c =>
    have := dig_len3 h
    show (dig c).length ≤ 63
    omega
theorem Gw.ok : ∀ {ws : List Wk}, Gw ws → ∀ w ∈ ws, WOk w
  | [], _, w, hw => absurd hw List.not_mem_nil
  | x :: ws, h, w, hw => by
    rcases List.mem_cons.mp hw with e | e
    · rw [e]; exact h.1
    · exact Gw.ok h.2.2 w e
end Pk
set_option linter.all false
set_option maxRecDepth 100000
namespace Pk
/-! ### a written pact is written in one way only: from the text the words, from the words the pact -/
theorem dig_inj {m n : Nat} (h : dig m = dig n) : m = n := by
  unfold dig at h
  have h2 : Nat.toDigits 10 m = Nat.toDigits 10 n := List.map_inj_right (fun a b e => Char.toNat_inj.mp e) |>.mp h
  rw [← Nat.ofDigitChars_ten_toDigits (n := m), h2, Nat.ofDigitChars_ten_toDigits]
theorem strip : ∀ (k j : Nat) (X Y : List Nat), (∀ c r, X = c :: r → c ≠ 32) → (∀ c r, Y = c :: r → c ≠ 32) → X ≠ [] → Y ≠ [] → List.replicate k 32 ++ X = List.replicate j 32 ++ Y → X = Y
  | 0, 0, X, Y, _, _, _, _, h => h
  | 0, j + 1, X, Y, hx, _, _, _, h => by
    rw [List.replicate_succ] at h
    exact absurd rfl (hx 32 _ h)
  | k + 1, 0, X, Y, _, hy, _, _, h => by
    rw [List.replicate_succ] at h
    exact absurd rfl (hy 32 _ h.symm)
  | k + 1, j + 1, X, Y, hx, hy, nx, ny, h => by
    rw [List.replicate_succ, List.replicate_succ] at h
    injection h with _ h
    exact strip k j X Y hx hy nx ny h
theorem span_eq : ∀ (A B T1 T2 : List Nat), (∀ c ∈ A, c ∈ ALN) → (∀ c ∈ B, c ∈ ALN) → (∀ c r, T1 = c :: r → c ∉ ALN) → (∀ c r, T2 = c :: r → c ∉ ALN) → A ++ T1 = B ++ T2 → A = B ∧ T1 = T2
  | [], [], _, _, _, _, _, _, h => ⟨rfl, h⟩
  | [], b :: B, T1, T2, _, hB, h1, _, h => absurd (hB b List.mem_cons_self) (h1 b _ h)
  | a :: A, [], T1, T2, hA, _, _, h2, h => absurd (hA a List.mem_cons_self) (h2 a _ h.symm)
  | a :: A, b :: B, T1, T2, hA, hB, h1, h2, h => by
    rw [List.cons_append, List.cons_append] at h
    injection h with e h
    obtain ⟨e2, e3⟩ := span_eq A B T1 T2 (fun c hc => hA c (List.mem_cons_of_mem _ hc)) (fun c hc => hB c (List.mem_cons_of_mem _ hc)) h1 h2 h
    exact ⟨by rw [e, e2], e3⟩
theorem wT_inj {w v : Wk} (hw : WOk w) (hv : WOk v) (nw : isS w = false) (nv : isS v = false) (h : wT w = wT v) : w = v := by
  have d1 : ∀ c ∈ PAR, c ∉ MRK := by decide
  have d2 : ∀ c ∈ PAR, c ∉ DGT := by decide
  have d3 : ∀ c ∈ MRK, c ∉ DGT := by decide
  have dm : ∀ {c n : Nat}, [c] = dig n → c ∈ DGT := fun {c n} e => dig_mem (m := n) (by rw [← e]; exact List.mem_singleton.mpr rfl)
  have dp : ∀ {p q m n : Nat}, [p] ++ [q] ++ dig m = dig n → p ∈ DGT := fun {p q m n} e => dig_mem (m := n) (by rw [← e]; simp)
  have ln : ∀ {c p q m : Nat}, [c] ≠ [p] ++ [q] ++ dig m := fun {c p q m} e => by simp at e
  cases w with
  | sg c => cases nw
  | ow c =>
    cases v with
    | sg d => cases nv
    | ow d => simp only [wT, List.cons.injEq, and_true] at h; rw [h]
    | mk d => simp only [wT, List.cons.injEq, and_true] at h; exact absurd hv (by rw [← h]; exact d1 c hw)
    | tr p q m => exact absurd h ln
    | ct n => exact absurd (dm h) (d2 c hw)
  | mk c =>
    cases v with
    | sg d => cases nv
    | ow d => simp only [wT, List.cons.injEq, and_true] at h; exact absurd hw (by rw [h]; exact d1 d hv)
    | mk d => simp only [wT, List.cons.injEq, and_true] at h; rw [h]
    | tr p q m => exact absurd h ln
    | ct n => exact absurd (dm h) (d3 c hw)
  | tr p q m =>
    cases v with
    | sg d => cases nv
    | ow d => exact absurd h.symm ln
    | mk d => exact absurd h.symm ln
    | tr p2 q2 m2 =>
      simp only [wT, List.cons_append, List.nil_append, List.cons.injEq] at h
      obtain ⟨h1, h2, h3⟩ := h
      rw [h1, h2, dig_inj h3]
    | ct n => exact absurd (dp h) (d2 p hw.1)
  | ct n =>
    cases v with
    | sg d => cases nv
    | ow d => exact absurd (dm h.symm) (d2 d hv)
    | mk d => exact absurd (dm h.symm) (d3 d hv)
    | tr p q m => exact absurd (dp h.symm) (d2 p hv.1)
    | ct k => exact congrArg Wk.ct (dig_inj h)
theorem wT_ne {w : Wk} (h : WOk w) : wT w ≠ [] ∧ ∀ c r T, wT w ++ T = c :: r → c ≠ 32 := by
  cases e : isS w with
  | true =>
    cases w with
    | sg c =>
      refine ⟨by simp [wT], fun d r T h2 => ?_⟩
      simp only [wT, List.cons_append, List.nil_append, List.cons.injEq] at h2
      rw [← h2.1]
      exact (sgn_not h).2
    | _ => cases e
  | false =>
    obtain ⟨h1, h2⟩ := wT_aln h e
    refine ⟨h1, fun d r T h3 => ?_⟩
    cases e2 : wT w with
    | nil => exact absurd e2 h1
    | cons x xs =>
      rw [e2, List.cons_append] at h3
      injection h3 with h3 _
      rw [← h3]
      exact (aln_not (h2 x (by rw [e2]; exact List.mem_cons_self))).2
theorem nx_head {ws : List Wk} {T : List Nat} (h : Spl ws T) (n : nxS ws) (g : Gw ws) : ∀ c r, T = c :: r → c ∉ ALN := by
  have h32 : (32 : Nat) ∉ ALN := by decide
  intro c r e
  cases ws with
  | nil =>
    rw [h c (by rw [e]; exact List.mem_cons_self)]
    exact h32
  | cons w ws =>
    obtain ⟨k, T', e2, _⟩ := h
    cases w with
    | sg d =>
      cases k with
      | zero =>
        rw [e2] at e
        simp only [wT, List.replicate_zero, List.nil_append, List.cons_append, List.cons.injEq] at e
        rw [← e.1]
        exact (sgn_not g.1).1
      | succ k =>
        rw [e2, List.replicate_succ, List.cons_append, List.cons_append] at e
        injection e with e _
        rw [← e]
        exact h32
    | _ => cases n
theorem spl_uniq : ∀ (ws vs : List Wk) (T : List Nat), Spl ws T → Spl vs T → Gw ws → Gw vs → ws = vs
  | [], [], _, _, _, _, _ => rfl
  | [], v :: vs, T, h1, ⟨k, T', e, _⟩, _, g2 => by
    exfalso
    obtain ⟨n1, n2⟩ := wT_ne g2.1
    cases e2 : wT v with
    | nil => exact n1 e2
    | cons x xs => exact n2 x (xs ++ []) [] (by rw [e2]; rfl) (h1 x (by rw [e, e2]; simp))
  | w :: ws, [], T, ⟨k, T', e, _⟩, h2, g1, _ => by
    exfalso
    obtain ⟨n1, n2⟩ := wT_ne g1.1
    cases e2 : wT w with
    | nil => exact n1 e2
    | cons x xs => exact n2 x (xs ++ []) [] (by rw [e2]; rfl) (h2 x (by rw [e, e2]; simp))
  | w :: ws, v :: vs, T, ⟨k, T1, e1, h1⟩, ⟨j, T2, e2, h2⟩, g1, g2 => by
    have e := e1.symm.trans e2
    rw [List.append_assoc, List.append_assoc] at e
    obtain ⟨n1, m1⟩ := wT_ne g1.1
    obtain ⟨n2, m2⟩ := wT_ne g2.1
    have e := strip k j _ _ (fun c r z => m1 c r T1 z) (fun c r z => m2 c r T2 z) (fun z => n1 (List.append_eq_nil_iff.mp z).1) (fun z => n2 (List.append_eq_nil_iff.mp z).1) e
    have fin : w = v ∧ T1 = T2 := by
      cases a : isS w with
      | true =>
        cases b : isS v with
        | true =>
          cases w with
          | sg c =>
            cases v with
            | sg d =>
              simp only [wT, List.cons_append, List.nil_append, List.cons.injEq] at e
              exact ⟨by rw [e.1], e.2⟩
            | _ => cases b
          | _ => cases a
        | false =>
          exfalso
          obtain ⟨z1, z2⟩ := wT_aln g2.1 b
          cases w with
          | sg c =>
            cases e3 : wT v with
            | nil => exact z1 e3
            | cons x xs =>
              rw [e3] at e
              simp only [wT, List.cons_append, List.nil_append, List.cons.injEq] at e
              exact (sgn_not (show c ∈ SGN from g1.1)).1 (by rw [e.1]; exact z2 x (by rw [e3]; exact List.mem_cons_self))
          | _ => cases a
      | false =>
        cases b : isS v with
        | true =>
          exfalso
          obtain ⟨z1, z2⟩ := wT_aln g1.1 a
          cases v with
          | sg c =>
            cases e3 : wT w with
            | nil => exact z1 e3
            | cons x xs =>
              rw [e3] at e
              simp only [wT, List.cons_append, List.nil_append, List.cons.injEq] at e
              exact (sgn_not (show c ∈ SGN from g2.1)).1 (by rw [← e.1]; exact z2 x (by rw [e3]; exact List.mem_cons_self))
          | _ => cases b
        | false =>
          have x1 : nxS ws := g1.2.1.resolve_left (by rw [a]; exact Bool.false_ne_true)
          have x2 : nxS vs := g2.2.1.resolve_left (by rw [b]; exact Bool.false_ne_true)
          obtain ⟨q1, q2⟩ := span_eq _ _ T1 T2 (wT_aln g1.1 a).2 (wT_aln g2.1 b).2 (nx_head h1 x1 g1.2.2) (nx_head h2 x2 g2.2.2) e
          exact ⟨wT_inj g1.1 g2.1 a b q1, q2⟩
    obtain ⟨rfl, rfl⟩ := fin
    rw [spl_uniq ws vs T1 h1 h2 g1.2.2 g2.2.2]
/-! ### from the words the pact -/
def Nh (c : Nat) : List Wk → Prop
  | .sg d :: _ => d ≠ c
  | _ => True
theorem wds_hd : ∀ p : Pt, ∃ w t, wds p = w :: t ∧ ∀ c, w = .sg c → c = 91
  | .tr p q m => ⟨_, _, by rw [wds], fun c h => by cases h⟩
  | .ev k => ⟨_, _, by rw [wds], fun c h => by cases h⟩
  | .ch o os => ⟨_, _, by rw [wds], fun c h => by cases h⟩
  | .rd o b => ⟨_, _, by rw [wds], fun c h => by cases h⟩
  | .en b => ⟨_, _, by rw [wds], fun c h => by injection h with h; exact h.symm⟩
  | .ti c b => ⟨_, _, by rw [wds], fun c h => by cases h⟩
theorem wds_ne (p : Pt) {c : Nat} (h : c ≠ 91) {r r' : List Wk} : wds p ++ r ≠ .sg c :: r' := fun e => by
  obtain ⟨w, t, e1, e2⟩ := wds_hd p
  rw [e1, List.cons_append] at e
  injection e with e _
  exact h (e2 c e)
theorem wB_ne (l : List Pt) {c : Nat} (h : c ≠ 91) (h2 : c ≠ 46) {r r' : List Wk} : wB l ++ r ≠ .sg c :: r' := fun e => by
  cases l with
  | nil =>
    rw [wB, List.cons_append] at e
    injection e with e _
    injection e with e
    exact h2 e.symm
  | cons p l =>
    rw [wB, List.append_assoc] at e
    exact wds_ne p h e
theorem nh_wC (l : List Pt) {c : Nat} {r : List Wk} (h : c ≠ 44) (hr : Nh c r) : Nh c (wC l ++ r) := by
  cases l with
  | nil => rw [wC]; exact hr
  | cons p l => rw [wC]; exact fun e => h e.symm
theorem nh_wP (l : List (List Pt)) {c : Nat} {r : List Wk} (h : c ≠ 124) (hr : Nh c r) : Nh c (wP l ++ r) := by
  cases l with
  | nil => rw [wP]; exact hr
  | cons p l => rw [wP]; exact fun e => h e.symm
mutual
theorem wds_inj : ∀ (p q : Pt) (r r' : List Wk), wds p ++ r = wds q ++ r' → p = q ∧ r = r'
  | .tr a b m, q, r, r', h => by
    cases q <;> simp [wds] at h
    obtain ⟨⟨h1, h2, h3⟩, h4⟩ := h
    exact ⟨by rw [h1, h2, h3], h4⟩
  | .ev k, q, r, r', h => by
    cases q <;> simp [wds] at h
    exact ⟨by rw [h.1], h.2⟩
  | .ch o os, q, r, r', h => by
    cases q <;> simp [wds] at h
    obtain ⟨h1, h2⟩ := h
    obtain ⟨h3, h4⟩ := wO_inj os _ r r' h2
    exact ⟨by rw [h1, h3], h4⟩
  | .rd o b, q, r, r', h => by
    cases q <;> simp [wds] at h
    obtain ⟨h1, h2⟩ := h
    obtain ⟨h3, h4⟩ := wB_inj b _ (.sg 93 :: r) (.sg 93 :: r') (show (93 : Nat) ≠ 44 by decide) (show (93 : Nat) ≠ 44 by decide) h2
    injection h4 with _ h4
    exact ⟨by rw [h1, h3], h4⟩
  | .en b, q, r, r', h => by
    cases q <;> simp [wds] at h
    obtain ⟨h3, h4⟩ := wB_inj b _ (.sg 93 :: r) (.sg 93 :: r') (show (93 : Nat) ≠ 44 by decide) (show (93 : Nat) ≠ 44 by decide) h
    injection h4 with _ h4
    exact ⟨by rw [h3], h4⟩
  | .ti c b, q, r, r', h => by
    cases q <;> simp [wds] at h
    obtain ⟨h1, h2⟩ := h
    obtain ⟨h3, h4⟩ := wB_inj b _ (.sg 41 :: r) (.sg 41 :: r') (show (41 : Nat) ≠ 44 by decide) (show (41 : Nat) ≠ 44 by decide) h2
    injection h4 with _ h4
    exact ⟨by rw [h1, h3], h4⟩
theorem wB_inj : ∀ (l m : List Pt) (r r' : List Wk), Nh 44 r → Nh 44 r' → wB l ++ r = wB m ++ r' → l = m ∧ r = r'
  | [], m, r, r', n1, n2, h => by
    cases m with
    | nil =>
      rw [wB] at h
      injection h with _ h
      exact ⟨rfl, h⟩
    | cons q m =>
      rw [wB, wB, List.append_assoc] at h
      exact absurd h.symm (wds_ne q (by decide))
  | p :: l, m, r, r', n1, n2, h => by
    cases m with
    | nil =>
      rw [wB, wB, List.append_assoc] at h
      exact absurd h (wds_ne p (by decide))
    | cons q m =>
      rw [wB, wB, List.append_assoc, List.append_assoc] at h
      obtain ⟨h1, h2⟩ := wds_inj p q _ _ h
      obtain ⟨h3, h4⟩ := wC_inj l m r r' n1 n2 h2
      exact ⟨by rw [h1, h3], h4⟩
theorem wC_inj : ∀ (l m : List Pt) (r r' : List Wk), Nh 44 r → Nh 44 r' → wC l ++ r = wC m ++ r' → l = m ∧ r = r'
  | [], m, r, r', n1, n2, h => by
    cases m with
    | nil =>
      rw [wC] at h
      exact ⟨rfl, h⟩
    | cons q m =>
      rw [wC, wC, List.nil_append, List.cons_append] at h
      rw [h] at n1
      exact absurd rfl n1
  | p :: l, m, r, r', n1, n2, h => by
    cases m with
    | nil =>
      rw [wC, wC, List.nil_append, List.cons_append] at h
      rw [← h] at n2
      exact absurd rfl n2
    | cons q m =>
      rw [wC, wC, List.cons_append, List.cons_append, List.append_assoc, List.append_assoc] at h
      injection h with _ h
      obtain ⟨h1, h2⟩ := wds_inj p q _ _ h
      obtain ⟨h3, h4⟩ := wC_inj l m r r' n1 n2 h2
      exact ⟨by rw [h1, h3], h4⟩
theorem wO_inj : ∀ (l m : List (List Pt)) (r r' : List Wk), wO l ++ .sg 41 :: r = wO m ++ .sg 41 :: r' → l = m ∧ r = r'
  | [], m, r, r', h => by
    cases m with
    | nil =>
      rw [wO] at h
      injection h with _ h
      exact ⟨rfl, h⟩
    | cons q m =>
      rw [wO, wO, List.append_assoc] at h
      exact absurd h.symm (wB_ne q (by decide) (by decide))
  | p :: l, m, r, r', h => by
    cases m with
    | nil =>
      rw [wO, wO, List.append_assoc] at h
      exact absurd h (wB_ne p (by decide) (by decide))
    | cons q m =>
      rw [wO, wO, List.append_assoc, List.append_assoc] at h
      obtain ⟨h1, h2⟩ := wB_inj p q _ _ (nh_wP l (r := .sg 41 :: r) (by decide) (show (41 : Nat) ≠ 44 by decide)) (nh_wP m (r := .sg 41 :: r') (by decide) (show (41 : Nat) ≠ 44 by decide)) h
      obtain ⟨h3, h4⟩ := wP_inj l m r r' h2
      exact ⟨by rw [h1, h3], h4⟩
theorem wP_inj : ∀ (l m : List (List Pt)) (r r' : List Wk), wP l ++ .sg 41 :: r = wP m ++ .sg 41 :: r' → l = m ∧ r = r'
  | [], m, r, r', h => by
    cases m with
    | nil =>
      rw [wP] at h
      injection h with _ h
      exact ⟨rfl, h⟩
    | cons q m =>
      rw [wP, wP, List.nil_append, List.cons_append] at h
      injection h with h _
      injection h with h
      exact absurd h (by decide)
  | p :: l, m, r, r', h => by
    cases m with
    | nil =>
      rw [wP, wP, List.nil_append, List.cons_append] at h
      injection h with h _
      injection h with h
      exact absurd h (by decide)
    | cons q m =>
      rw [wP, wP, List.cons_append, List.cons_append, List.append_assoc, List.append_assoc] at h
      injection h with _ h
      obtain ⟨h1, h2⟩ := wB_inj p q _ _ (nh_wP l (r := .sg 41 :: r) (by decide) (show (41 : Nat) ≠ 44 by decide)) (nh_wP m (r := .sg 41 :: r') (by decide) (show (41 : Nat) ≠ 44 by decide)) h
      obtain ⟨h3, h4⟩ := wP_inj l m r r' h2
      exact ⟨by rw [h1, h3], h4⟩
end
theorem txB_inj {l m : List Pt} (hl : OkL l) (hm : OkL m) (h : txB l = txB m) : l = m := by
  have g1 := gw_wB l [] hl True.intro True.intro
  have g2 := gw_wB m [] hm True.intro True.intro
  rw [List.append_nil] at g1 g2
  have e := spl_uniq _ _ _ (spl_wB l) (h ▸ spl_wB m) g1 g2
  exact (wB_inj l m [] [] True.intro True.intro (by rw [e])).1
end Pk
set_option Elab.async false
set_option linter.all false
set_option maxRecDepth 100000
namespace Z
open PySem PySem.Spec PyProof.Rows L2
/-! ### lists and tuples of texts compared -/
theorem dpa_ss {K : PySem.W.Frag} {H : Hp} : ∀ ss : List Str, DpAll K H (ss.map V.str) (ss.map PyData.str)
  | [] => .nil
  | x :: ss => .cons (.str _) (dpa_ss ss)
theorem strOk_S {l : List Nat} (h : ∀ c ∈ l, c < 1000) : PyData.strOk (SX.S l) = true := by
  show (SX.S l).cps.all (· < 0x110000) = true
  rw [Array.all_eq_true']
  intro c hc
  have := h c (by simpa using hc)
  simp
  omega
theorem lay_ss : ∀ ss : List Str, (∀ s ∈ ss, PyData.strOk s = true) → PyData.canLayAll0 (ss.map PyData.str) = true
  | [], _ => rfl
  | x :: r, h => by
    rw [List.map_cons, PyData.canLayAll0, lay_ss r fun s hs => h s (List.mem_cons_of_mem _ hs), PyData.canLay0, h x List.mem_cons_self]
    rfl
theorem dep_ss : ∀ ss : List Str, PyData.depthAll (ss.map PyData.str) = 0
  | [] => rfl
  | x :: r => by
    rw [List.map_cons, PyData.depthAll, dep_ss r]
    rfl
theorem shaped_ssL {ss : List Str} (h : ∀ s ∈ ss, PyData.strOk s = true) : SeqAt.shaped (.list (ss.map PyData.str)) = true := by
  unfold SeqAt.shaped
  show (PyData.canLayAll0 (ss.map PyData.str) && decide (PyData.depthAll (ss.map PyData.str) + 1 ≤ 64)) = true
  rw [lay_ss _ h, dep_ss]
  rfl
theorem shaped_ssT {ss : List Str} (h : ∀ s ∈ ss, PyData.strOk s = true) : SeqAt.shaped (.tuple (ss.map PyData.str)) = true := by
  unfold SeqAt.shaped
  show (PyData.canLayAll0 (ss.map PyData.str) && decide (PyData.depthAll (ss.map PyData.str) + 1 ≤ 64)) = true
  rw [lay_ss _ h, dep_ss]
  rfl
theorem eqv_ssL {ss : List Str} (h : ∀ s ∈ ss, PyData.strOk s = true) : PyData.eqv (.list (ss.map PyData.str)) (.list (ss.map PyData.str)) = true := SeqAt.eqv_refl _ (SeqAt.canLay_of_shaped (shaped_ssL h))
theorem eqv_ssT {ss : List Str} (h : ∀ s ∈ ss, PyData.strOk s = true) : PyData.eqv (.tuple (ss.map PyData.str)) (.tuple (ss.map PyData.str)) = true := SeqAt.eqv_refl _ (SeqAt.canLay_of_shaped (shaped_ssT h))
theorem ne_ssL {K : PySem.W.Frag} {H : Hp} {a b : Addr} {ss : List Str} {Q : VK} (h1 : SqL K H a (ss.map V.str)) (h2 : SqL K H b (ss.map V.str)) (h : ∀ s ∈ ss, PyData.strOk s = true) (q : Q (.bl false) H) : rNeD K (.ref a) (.ref b) H Q := ⟨_, _, .lst h1 (dpa_ss ss), .lst h2 (dpa_ss ss), shaped_ssL h, shaped_ssL h, by rw [eqv_ssL h]; exact q⟩
theorem ne_ssT {K : PySem.W.Frag} {H : Hp} {a b : Addr} {ss : List Str} {Q : VK} (h1 : SqT K H a (ss.map V.str)) (h2 : SqT K H b (ss.map V.str)) (h : ∀ s ∈ ss, PyData.strOk s = true) (q : Q (.bl false) H) : rNeD K (.ref a) (.ref b) H Q := ⟨_, _, .tup h1 (dpa_ss ss), .tup h2 (dpa_ss ss), shaped_ssT h, shaped_ssT h, by rw [eqv_ssT h]; exact q⟩
end Z
set_option Elab.async false
set_option linter.all false
set_option maxRecDepth 100000
namespace Z
open PySem PySem.Spec PyProof.Rows L2 Pk
open SX (S S_inj S_len S_cat)
/-! ### told pacts as data: == of them -/
def kd : Pt → Str
  | .tr _ _ _ => "transfer"
  | .ev _ => "event"
  | .ch _ _ => "choice"
  | .rd _ _ => "rounds"
  | .en _ => "endless"
  | .ti _ _ => "times"
mutual
def pT : Pt → List PyData
  | .tr p q m => [.str (S [p]), .str (S [q]), .int (m : Int)]
  | .ev k => [.str (S [k])]
  | .ch o os => [.str (S [o]), .list (pLL os)]
  | .rd o b => [.str (S [o]), .list (pL b)]
  | .en b => [.list (pL b)]
  | .ti c b => [.int (c : Int), .list (pL b)]
def pL : List Pt → List PyData
  | [] => []
  | p :: l => .tuple (.str (kd p) :: pT p) :: pL l
def pLL : List (List Pt) → List PyData
  | [] => []
  | b :: l => .list (pL b) :: pLL l
end
theorem sb_iff {a b : Nat} : (S [a] == S [b]) = true ↔ a = b := ⟨fun h => by
  have := S_inj (beq_iff_eq.mp h)
  injection this, fun h => by rw [h]; exact beq_iff_eq.mpr rfl⟩
theorem ib_iff {a b : Nat} : ((a : Int) == (b : Int)) = true ↔ a = b := ⟨fun h => by have := beq_iff_eq.mp h; omega, fun h => by rw [h]; exact beq_iff_eq.mpr rfl⟩
mutual
theorem pT_iff : ∀ p q : Pt, (kd p == kd q && PyData.eqvAll (pT p) (pT q)) = true ↔ p = q
  | .tr a b m, q => by
    cases q with
    | tr a2 b2 m2 =>
      simp only [pT, kd, PyData.eqvAll, PyData.eqv, Bool.and_true, Bool.and_eq_true, sb_iff, ib_iff, beq_self_eq_true, true_and, Pt.tr.injEq]
    | _ => exact ⟨fun h => absurd (Bool.and_eq_true_iff.mp h).1 (by simp only [kd]; decide +kernel), fun h => by cases h⟩
  | .ev k, q => by
    cases q with
    | ev k2 => simp only [pT, kd, PyData.eqvAll, PyData.eqv, Bool.and_true, Bool.and_eq_true, sb_iff, beq_self_eq_true, true_and, Pt.ev.injEq]
    | _ => exact ⟨fun h => absurd (Bool.and_eq_true_iff.mp h).1 (by simp only [kd]; decide +kernel), fun h => by cases h⟩
  | .ch o os, q => by
    cases q with
    | ch o2 os2 =>
      have := pLL_iff os os2
      simp only [pT, kd, PyData.eqvAll, PyData.eqv, Bool.and_true, Bool.and_eq_true, sb_iff, beq_self_eq_true, true_and, Pt.ch.injEq, this]
    | _ => exact ⟨fun h => absurd (Bool.and_eq_true_iff.mp h).1 (by simp only [kd]; decide +kernel), fun h => by cases h⟩
  | .rd o b, q => by
    cases q with
    | rd o2 b2 =>
      have := pL_iff b b2
      simp only [pT, kd, PyData.eqvAll, PyData.eqv, Bool.and_true, Bool.and_eq_true, sb_iff, beq_self_eq_true, true_and, Pt.rd.injEq, this]
    | _ => exact ⟨fun h => absurd (Bool.and_eq_true_iff.mp h).1 (by simp only [kd]; decide +kernel), fun h => by cases h⟩
  | .en b, q => by
    cases q with
    | en b2 =>
      have := pL_iff b b2
      simp only [pT, kd, PyData.eqvAll, PyData.eqv, Bool.and_true, Bool.and_eq_true, beq_self_eq_true, true_and, Pt.en.injEq, this]
    | _ => exact ⟨fun h => absurd (Bool.and_eq_true_iff.mp h).1 (by simp only [kd]; decide +kernel), fun h => by cases h⟩
  | .ti c b, q => by
    cases q with
    | ti c2 b2 =>
      have := pL_iff b b2
      simp only [pT, kd, PyData.eqvAll, PyData.eqv, Bool.and_true, Bool.and_eq_true, ib_iff, beq_self_eq_true, true_and, Pt.ti.injEq, this]
    | _ => exact ⟨fun h => absurd (Bool.and_eq_true_iff.mp h).1 (by simp only [kd]; decide +kernel), fun h => by cases h⟩
theorem pL_iff : ∀ l m : List Pt, PyData.eqvAll (pL l) (pL m) = true ↔ l = m
  | [], [] => by simp only [pL, PyData.eqvAll]
  | [], q :: m => by simp [pL, PyData.eqvAll]
  | p :: l, [] => by simp [pL, PyData.eqvAll]
  | p :: l, q :: m => by
    have h1 := pT_iff p q
    have h2 := pL_iff l m
    rw [pL, pL, PyData.eqvAll, PyData.eqv, PyData.eqvAll, PyData.eqv, Bool.and_eq_true_iff, h1, h2, List.cons.injEq]
theorem pLL_iff : ∀ l m : List (List Pt), PyData.eqvAll (pLL l) (pLL m) = true ↔ l = m
  | [], [] => by simp only [pLL, PyData.eqvAll]
  | [], q :: m => by simp [pLL, PyData.eqvAll]
  | p :: l, [] => by simp [pLL, PyData.eqvAll]
  | p :: l, q :: m => by
    have h1 := pL_iff p q
    have h2 := pLL_iff l m
    rw [pLL, pLL, PyData.eqvAll, PyData.eqv, Bool.and_eq_true_iff, h1, h2, List.cons.injEq]
end
section
variable {K : PySem.W.Frag} {H : Hp}
mutual
theorem dqT : ∀ (p : Pt) (a : Addr), DtAt H p a → Dp K H (.ref a) (.tuple (.str (kd p) :: pT p))
  | .tr p q m, a, h => by
    rw [DtAt] at h
    rw [pT]
    exact .tup (SqT.of h) (.cons (.str _) (.cons (.str _) (.cons (.str _) (.cons (.int _) .nil))))
  | .ev k, a, h => by
    rw [DtAt] at h
    rw [pT]
    exact .tup (SqT.of h) (.cons (.str _) (.cons (.str _) .nil))
  | .ch o os, a, h => by
    rw [DtAt] at h
    obtain ⟨L, as, h, hL, hA⟩ := h
    rw [pT]
    exact .tup (SqT.of h) (.cons (.str _) (.cons (.str _) (.cons (.lst (SqL.of hL) (dqLL os as hA)) .nil)))
  | .rd o b, a, h => by
    rw [DtAt] at h
    obtain ⟨L, as, h, hL, hA⟩ := h
    rw [pT]
    exact .tup (SqT.of h) (.cons (.str _) (.cons (.str _) (.cons (.lst (SqL.of hL) (dqL b as hA)) .nil)))
  | .en b, a, h => by
    rw [DtAt] at h
    obtain ⟨L, as, h, hL, hA⟩ := h
    rw [pT]
    exact .tup (SqT.of h) (.cons (.str _) (.cons (.lst (SqL.of hL) (dqL b as hA)) .nil))
  | .ti c b, a, h => by
    rw [DtAt] at h
    obtain ⟨L, as, h, hL, hA⟩ := h
    rw [pT]
    exact .tup (SqT.of h) (.cons (.str _) (.cons (.int _) (.cons (.lst (SqL.of hL) (dqL b as hA)) .nil)))
theorem dqL : ∀ (l : List Pt) (as : List Addr), DtsAt H l as → DpAll K H (as.map V.ref) (pL l)
  | [], as, h => by
    rw [DtsAt] at h
    subst h
    rw [pL]
    exact .nil
  | p :: l, as, h => by
    rw [DtsAt] at h
    obtain ⟨a, r, rfl, h1, h2⟩ := h
    rw [pL]
    exact .cons (dqT p a h1) (dqL l r h2)
theorem dqLL : ∀ (l : List (List Pt)) (as : List Addr), DasAt H l as → DpAll K H (as.map V.ref) (pLL l)
  | [], as, h => by
    rw [DasAt] at h
    subst h
    rw [pLL]
    exact .nil
  | b :: l, as, h => by
    rw [DasAt] at h
    obtain ⟨a, r, rfl, ⟨bs, h1, h2⟩, h3⟩ := h
    rw [pLL]
    exact .cons (.lst (SqL.of h1) (dqL b bs h2)) (dqLL l r h3)
end
end
theorem kd_ok (p : Pt) : PyData.strOk (kd p) = true := by cases p <;> simp only [kd] <;> decide +kernel
theorem s1_ok {c : Nat} (h : c < 1000) : PyData.strOk (S [c]) = true := strOk_S fun d hd => by rw [List.mem_singleton.mp hd]; exact h
theorem par_lt {c : Nat} (h : c ∈ PAR) : c < 1000 := (by decide : ∀ c ∈ PAR, c < 1000) c h
theorem mrk_lt {c : Nat} (h : c ∈ MRK) : c < 1000 := (by decide : ∀ c ∈ MRK, c < 1000) c h
mutual
theorem pT_lay : ∀ p : Pt, Ok p → PyData.canLayAll0 (pT p) = true
  | .tr p q m, h => by
    rw [Ok] at h
    simp only [pT, PyData.canLayAll0, PyData.canLay0, s1_ok (par_lt h.1), s1_ok (par_lt h.2.1), Bool.and_true]
  | .ev k, h => by
    rw [Ok] at h
    simp only [pT, PyData.canLayAll0, PyData.canLay0, s1_ok (mrk_lt h), Bool.and_true]
  | .ch o os, h => by
    rw [Ok] at h
    have := pLL_lay os h.2.2.2
    simp only [pT, PyData.canLayAll0, PyData.canLay0, s1_ok (par_lt h.1), this, Bool.and_true]
  | .rd o b, h => by
    rw [Ok] at h
    have := pL_lay b h.2
    simp only [pT, PyData.canLayAll0, PyData.canLay0, s1_ok (par_lt h.1), this, Bool.and_true]
  | .en b, h => by
    rw [Ok] at h
    have := pL_lay b h
    simp only [pT, PyData.canLayAll0, PyData.canLay0, this, Bool.and_true]
  | .ti c b, h => by
    rw [Ok] at h
    have := pL_lay b h.2
    simp only [pT, PyData.canLayAll0, PyData.canLay0, this, Bool.and_true]
theorem pL_lay : ∀ l : List Pt, OkL l → PyData.canLayAll0 (pL l) = true
  | [], _ => by rw [pL, PyData.canLayAll0]
  | p :: l, h => by
    rw [OkL] at h
    rw [pL, PyData.canLayAll0, PyData.canLay0, PyData.canLayAll0, PyData.canLay0, kd_ok, pT_lay p h.1, pL_lay l h.2]
    rfl
theorem pLL_lay : ∀ l : List (List Pt), OkLL l → PyData.canLayAll0 (pLL l) = true
  | [], _ => by rw [pLL, PyData.canLayAll0]
  | b :: l, h => by
    rw [OkLL] at h
    rw [pLL, PyData.canLayAll0, PyData.canLay0, pL_lay b h.1, pLL_lay l h.2]
    rfl
end
mutual
theorem pT_dep : ∀ p : Pt, PyData.depthAll (pT p) + 1 ≤ 3 * dp p
  | .tr p q m => by
    simp only [pT, dp, PyData.depthAll, PyData.depth]
    decide
  | .ev k => by
    simp only [pT, dp, PyData.depthAll, PyData.depth]
    decide
  | .ch o os => by
    have := pLL_dep os
    simp only [pT, dp, PyData.depthAll, PyData.depth]
    omega
  | .rd o b => by
    have := pL_dep b
    simp only [pT, dp, PyData.depthAll, PyData.depth]
    omega
  | .en b => by
    have := pL_dep b
    simp only [pT, dp, PyData.depthAll, PyData.depth]
    omega
  | .ti c b => by
    have := pL_dep b
    simp only [pT, dp, PyData.depthAll, PyData.depth]
    omega
theorem pL_dep : ∀ l : List Pt, PyData.depthAll (pL l) ≤ 3 * dpL l
  | [] => by rw [pL, PyData.depthAll]; exact Nat.zero_le _
  | p :: l => by
    have h1 := pT_dep p
    have h2 := pL_dep l
    simp only [pL, dpL, PyData.depthAll, PyData.depth]
    omega
theorem pLL_dep : ∀ l : List (List Pt), PyData.depthAll (pLL l) ≤ 3 * dpLL l + 1
  | [] => by rw [pLL, PyData.depthAll]; exact Nat.zero_le _
  | b :: l => by
    have h1 := pL_dep b
    have h2 := pLL_dep l
    simp only [pLL, dpLL, PyData.depthAll, PyData.depth]
    omega
end
/-- == of two lists of told parts -/
def rEqP (K : PySem.W.Frag) : R2 := fun x y H Q => ∃ (L M : Addr) (l m : List Pt), x = .ref L ∧ y = .ref M ∧ DaAt H l L ∧ DaAt H m M ∧ OkL l ∧ OkL m ∧ dpL l ≤ 60 ∧ ∀ b : Bool, (b = true ↔ l = m) → Q (.bl b) H
theorem op_eqP {X : Cx} {j : Nat} (hr : Room j X.A) : OpR X (compareOp .Eq) (rEqP X.K) := by
  intro pins s σ H x y v u Q I rx ry h
  obtain ⟨L, M, l, m, rfl, rfl, ⟨as, hL, hl⟩, ⟨bs, hM, hm⟩, okl, okm, hd, q⟩ := h
  obtain ⟨w1, r1⟩ := Dp.reads I (.list (pL l)) _ v (.lst (SqL.of hL) (dqL l as hl)) rx
  obtain ⟨w2, r2⟩ := Dp.reads I (.list (pL m)) _ u (.lst (SqL.of hM) (dqL m bs hm)) ry
  have h3 := pL_dep l
  refine SeqAt.compareEq_reads r1 r2 (by rw [PyData.canLay0]; exact pL_lay l okl) (by rw [PyData.canLay0]; exact pL_lay m okm) ?_ ⟨.bl _, H, I, rfl, q _ ?_⟩
  · have := hr.un
    simp only [PyData.depth]
    omega
  · rw [PyData.eqv]
    exact pL_iff l m
end Z
set_option pp.maxSteps 700
set_option Elab.async false
set_option linter.all false
set_option maxRecDepth 100000
set_option maxHeartbeats 4000000
open SX (S S_inj S_len S_cat)
namespace Z
open Pk NdefX
open PySem PySem.Spec PyProof.Rows L2
open C8 (pss_cut tCut)
local macro_rules | `(tactic| walk_at "num") => `(tactic| first | rfl | omega | decide | exact Nat.le_of_lt (small1000 (by simp)) | exact ⟨by omega, by omega⟩ | exact ⟨by omega, by omega, by omega⟩ | exact ⟨by decide, by decide, by decide⟩ | exact Or.inl ⟨by omega, by omega⟩ | exact Or.inr ⟨by omega, by omega⟩)
local macro_rules | `(tactic| walk_at "go") => `(tactic| repeat (first | refine ⟨_, rfl, ?_⟩ | refine ⟨_, _, rfl, rfl, ?_⟩ | refine ⟨_, _, rfl, ?_⟩ | (refine ⟨_, _, rfl, rfl, ?_, ?_⟩; focus walk_at "num") | refine Or.inl ⟨_, rfl, ?_⟩ | refine ⟨_, _, _, _, rfl, rfl, (by assumption), (by rfl), ?_⟩ | refine ⟨_, _, _, _, _, rfl, (by assumption), (by assumption), (by assumption), (by rfl), ?_⟩ | refine ⟨rfl, ?_⟩ | (refine And.intro ?_ ?_; focus walk_at "num")))
abbrev s_end_of : Stmt := topS 37
abbrev N_end_of : List Str := ["text", "at", "characters", "end"]
abbrev P_end_of : List Str := ["text", "at", "characters"]
theorem sc_end_of : FnScope N_end_of P_end_of (defScope s_end_of) := ⟨rfl, rfl, rfl, by decide +kernel, rfl, by decide +kernel, by decide +kernel⟩
abbrev s_number_of : Stmt := topS 38
abbrev N_number_of : List Str := ["word", "most", "number"]
abbrev P_number_of : List Str := ["word", "most"]
theorem sc_number_of : FnScope N_number_of P_number_of (defScope s_number_of) := ⟨rfl, rfl, rfl, by decide +kernel, rfl, by decide +kernel, by decide +kernel⟩
abbrev s_word_token : Stmt := topS 39
abbrev N_word_token : List Str := ["word", "amount", "count"]
abbrev P_word_token : List Str := ["word"]
theorem sc_word_token : FnScope N_word_token P_word_token (defScope s_word_token) := ⟨rfl, rfl, rfl, by decide +kernel, rfl, by decide +kernel, by decide +kernel⟩
abbrev s_token_at : Stmt := topS 40
abbrev N_token_at : List Str := ["text", "index", "at", "end", "kind", "value"]
abbrev P_token_at : List Str := ["text", "index"]
theorem sc_token_at : FnScope N_token_at P_token_at (defScope s_token_at) := ⟨rfl, rfl, rfl, by decide +kernel, rfl, by decide +kernel, by decide +kernel⟩
theorem szT {n : Nat} (h : n ≤ 1000000) : n ≤ sizeLine := Nat.le_trans h (by decide)
/-! ### tokens -/
def kdW : List Wk → Str
  | [] => "end"
  | .sg c :: _ => S [c]
  | .ow _ :: _ => "owner"
  | .mk _ :: _ => "mark"
  | .tr _ _ _ :: _ => "transfer"
  | .ct _ :: _ => "count"
def VlW (H : Hp) : List Wk → V → Prop
  | .ow c :: _, v => v = .str (S [c])
  | .mk c :: _, v => v = .str (S [c])
  | .tr p q m :: _, v => ∃ u, v = .ref u ∧ H u = some (.tup [.str (S [p]), .str (S [q]), .int (m : Int)])
  | .ct c :: _, v => v = .int (c : Int)
  | _, v => v = .non
theorem VlW.mono {H H' : Hp} (s : Same H H') : ∀ {ws : List Wk} {v : V}, VlW H ws v → VlW H' ws v
  | [], v, h => h
  | .sg c :: _, v, h => h
  | .ow c :: _, v, h => h
  | .mk c :: _, v, h => h
  | .ct c :: _, v, h => h
  | .tr p q m :: _, v, ⟨u, h1, h2⟩ => ⟨u, h1, s _ _ h2⟩
/-- the token at t: the first of ws, behind it the others -/
def TkAt (H : Hp) (t : Addr) (T : List Nat) (ws : List Wk) : Prop := ∃ (v : V) (i e : Nat), H t = some (.tup [.str (kdW ws), v, .int (i : Int), .int (e : Int)]) ∧ VlW H ws v ∧ e ≤ T.length ∧ Spl ws.tail (T.drop e) ∧ Gw ws
theorem TkAt.mono {H H' : Hp} {t : Addr} {T : List Nat} {ws : List Wk} (s : Same H H') (h : TkAt H t T ws) : TkAt H' t T ws := by
  obtain ⟨v, i, e, h1, h2, h3⟩ := h
  exact ⟨v, i, e, s _ _ h1, h2.mono s, h3⟩
/-- how many signs of C stand in front -/
def run (C T : List Nat) : Nat := (T.takeWhile fun c => decide (c ∈ C)).length
theorem run_cons_in {C T : List Nat} {c : Nat} (h : c ∈ C) : run C (c :: T) = run C T + 1 := by
  unfold run
  rw [List.takeWhile_cons, decide_eq_true h]
  rfl
theorem run_cons_out {C T : List Nat} {c : Nat} (h : c ∉ C) : run C (c :: T) = 0 := by
  unfold run
  rw [List.takeWhile_cons, decide_eq_false h]
  rfl
theorem run_app {C T : List Nat} : ∀ {w : List Nat}, (∀ c ∈ w, c ∈ C) → run C (w ++ T) = w.length + run C T
  | [], _ => by rw [List.nil_append, List.length_nil, Nat.zero_add]
  | c :: w, h => by
    rw [List.cons_append, run_cons_in (h c List.mem_cons_self), run_app fun d hd => h d (List.mem_cons_of_mem _ hd), List.length_cons]
    omega
theorem run_le (C T : List Nat) : run C T ≤ T.length := List.Sublist.length_le (List.takeWhile_sublist _)
theorem run_all {C w : List Nat} (h : ∀ c ∈ w, c ∈ C) : run C w = w.length := by
  have := run_app (T := []) h
  rw [List.append_nil] at this
  rw [this]
  rfl
theorem run_step {C T : List Nat} {j : Nat} (h : j < T.length) (hc : T[j] ∈ C) : run C (T.drop j) = run C (T.drop (j + 1)) + 1 := by
  rw [List.drop_eq_getElem_cons h, run_cons_in hc]
theorem run_stop {C T : List Nat} {j : Nat} (h : j < T.length) (hc : T[j] ∉ C) : run C (T.drop j) = 0 := by
  rw [List.drop_eq_getElem_cons h, run_cons_out hc]
theorem run_end {C T : List Nat} {j : Nat} (h : T.length ≤ j) : run C (T.drop j) = 0 := by
  rw [List.drop_eq_nil_of_le h]
  rfl
/-- what follows a word of letters -/
theorem nx_out {ws : List Wk} {T : List Nat} (h : Spl ws T) (g : Gw ws) (n : nxS ws) : run ALN T = 0 := by
  have h32 : (32 : Nat) ∉ ALN := by decide
  cases ws with
  | nil =>
    cases T with
    | nil => rfl
    | cons c T =>
      have : c = 32 := h c List.mem_cons_self
      rw [this]
      exact run_cons_out h32
  | cons w ws =>
    obtain ⟨k, T', rfl, _⟩ := h
    cases k with
    | succ k => exact run_cons_out h32
    | zero =>
      cases w with
      | sg c => exact run_cons_out (sgn_not g.1).1
      | _ => cases n
theorem at_SL {T : List Nat} {j : Nat} (h : j < T.length) : atI (S T).cps.toList (j : Int) = some T[j] := atI_nat (show T.toArray.toList[j]? = some T[j] by rw [List.getElem?_eq_getElem h])
theorem cutS_mid {l : List Nat} {a b : Nat} (ha : a ≤ l.length) (hb : b ≤ l.length) : cutS (S l) (some (a : Int)) (some (b : Int)) = S ((l.drop a).take (b - a)) := by
  have e : (S l).length = l.length := S_len _
  unfold cutS
  rw [e, HT.sIx_nat, HT.sIx_nat, Nat.min_eq_left ha, Nat.min_eq_left hb]
theorem aln_eq : (Str.ofString "abcdefghijklmnopqrstuvwxyzABCDEFGHIJKLMNOPQRSTUVWXYZ" ++ Str.ofString "0123456789") = S ALN := by decide +kernel
section
variable {P : Program} {w : World} {K : PySem.W.Frag} {mg : Str → Option Value} {base : Heap} {f C : Addr} {k : Cs} {fd : FuncData}
def spEn : Sp := fun vs H Q _ => ∃ (T C : List Nat) (i : Nat), vs = [.str (S T), .int (i : Int), .str (S C)] ∧ i ≤ T.length ∧ T.length ≤ 1000000 ∧ Q (.int ((i + run C (T.drop i) : Nat) : Int)) H
theorem ok_end_of (F : FnP K "end_of" s_end_of f fd) (m_len : mg "len" = none) : FnOk P w K mg base CX0 1 f fd P_end_of spEn := by
  refine F.ok sc_end_of (fun vs H Q E h => ?_) (fun cdv A outer s H vs Q E hr h => ?_)
  · obtain ⟨T, C, i, rfl, _⟩ := h
    rfl
  · obtain ⟨T, C, i, rfl, hi, hT, q⟩ := h
    refine ⟨_, PSs.nox (pss_cons (ps_set (i := 3) sc_end_of.nd rfl (by first | exact .inl rfl | exact .inr rfl) (pv 1))
      (pss_cons (ps_while PassesOwn.never (PW.pt (pw_and (pt_cmpR op_lt (pv 3) (pe_callB call_len_str (by rfl) m_len PySem.boot_len (pa_cons (pv 0) pa_nil)) (nomark _)) (pw_and1 (pt_cmpR op_in_sign (pe_ix ix_str (pv 0) (pv 3) (fun _ _ => rfl)) (pv 2) (by rfl)))))
        (pss_one (ps_set (i := 3) sc_end_of.nd rfl (by first | exact .inl rfl | exact .inr rfl) (pe_op op_add (pv 3) pe_int))))
      (pss_one (ps_ret (pv 3))))), ?_⟩
    walk_at "go"
    refine ⟨fun m σ J => ∃ j : Nat, J = H ∧ i ≤ j ∧ j ≤ T.length ∧ m = T.length - j ∧ i + run C (T.drop i) = j + run C (T.drop j) ∧ σ = [some (.str (S T)), some (.int (i : Int)), some (.str (S C)), some (.int (j : Int))], ⟨_, i, rfl, Nat.le_refl _, hi, rfl, rfl, rfl⟩, ?_⟩
    rintro m σ J ⟨j, rfl, h1, h2, rfl, h4, rfl⟩
    walk_at "go"
    refine ⟨by rw [S_len]; exact szT hT, ?_⟩
    rw [S_len]
    walk_at "go"
    by_cases c : j < T.length
    · rw [decide_eq_true (show (j : Int) < (T.length : Int) by omega)]
      walk_at "go"
      refine ⟨_, _, _, rfl, rfl, by rw [S_len]; exact szT hT, at_SL c, ?_⟩
      walk_at "go"
      refine ite2 (fun e => ?_) (fun e => ?_)
      · have c2 : T[j] ∈ C := of_decide_eq_true e
        refine ⟨fun σ' J' => ∃ j' : Nat, J' = J ∧ i ≤ j' ∧ j' ≤ T.length ∧ j < j' ∧ i + run C (T.drop i) = j' + run C (T.drop j') ∧ σ' = [some (.str (S T)), some (.int (i : Int)), some (.str (S C)), some (.int (j' : Int))], fun σ' J' ⟨j', a1, a2, a3, a4, a5, a6⟩ => ⟨T.length - j', by omega, j', a1, a2, a3, rfl, a5, a6⟩, ?_⟩
        walk_at "go"
        refine ⟨j + 1, rfl, by omega, by omega, by omega, by rw [h4, run_step c c2]; omega, rfl⟩
      · have c2 : T[j] ∉ C := fun m => e (decide_eq_true m)
        walk_at "go"
        rw [h4, run_stop c c2] at q
        exact q
    · rw [decide_eq_false (show ¬ (j : Int) < (T.length : Int) by omega)]
      walk_at "go"
      rw [h4, run_end (by omega)] at q
      exact q
/-- (for right numbers) -/
def spNb : Sp := fun vs H Q _ => ∃ m n : Nat, vs = [.str (S (dig m)), .int (n : Int)] ∧ m ≤ n ∧ m ≤ 10 ^ 60 ∧ Q (.int (m : Int)) H
theorem ok_number_of (F : FnP K "number_of" s_number_of f fd) (m_len : mg "len" = none) (m_int : mg "int" = none) (tok_DIGITS : Tok) (g_DIGITS : mg "DIGITS" = some (.str "0123456789" tok_DIGITS)) (tok_MOST_DIGITS : Tok) (g_MOST_DIGITS : mg "MOST_DIGITS" = some (.int 61 tok_MOST_DIGITS)) (c_end_of : Cal P w K mg base 1 "end_of" spEn) : FnOk P w K mg base CX0 2 f fd P_number_of spNb := by
  refine F.ok sc_number_of (fun vs H Q E h => ?_) (fun cdv A outer s H vs Q E hr h => ?_)
  · obtain ⟨m, n, rfl, _⟩ := h
    rfl
  · obtain ⟨m, n, rfl, hm, h60, q⟩ := h
    refine ⟨_, PSs.nox (pss_cons (ps_if (PW.pt (pw_or (pt_cmpR op_eq (pv 0) pe_str (nomark _)) (pw_or (pt_cmpR op_gt (pe_callB call_len_str (by rfl) m_len PySem.boot_len (pa_cons (pv 0) pa_nil)) (pe_glob (v := .int 61) (by rfl) g_MOST_DIGITS ⟨_, rfl⟩) (nomark _)) (pw_or1 (pt_cmpR op_lt (pe_cl c_end_of hr (by decide) (by rfl) (pa_cons (pv 0) (pa_cons pe_int (pa_cons (pe_glob (by rfl) g_DIGITS (relv_str (x := "0123456789"))) pa_nil)))) (pe_callB call_len_str (by rfl) m_len PySem.boot_len (pa_cons (pv 0) pa_nil)) (nomark _)))))) (pss_one (ps_ret pe_non)) pss_nil)
      (pss_cons (ps_if (PW.pt (pw_and (pt_cmpR op_eq (pe_ix ix_str (pv 0) pe_int (fun _ _ => rfl)) pe_str (nomark _)) (pw_and1 (pt_cmpR op_gt (pe_callB call_len_str (by rfl) m_len PySem.boot_len (pa_cons (pv 0) pa_nil)) pe_int (nomark _))))) (pss_one (ps_ret pe_non)) pss_nil)
      (pss_cons (ps_set (i := 2) sc_number_of.nd rfl (by first | exact .inl rfl | exact .inr rfl) (pe_callTy call_int_str (by rfl) m_int (by decide +kernel) (pa_cons (pv 0) pa_nil)))
      (pss_one (ps_ret (pe_ifExp (pt_cmpR op_le (pv 2) (pv 1) (nomark _)) (pv 2) pe_non)))))), ?_⟩
    have ld := dig_len h60
    have ln := dig_ne m
    have l1 : 0 < (dig m).length := List.length_pos_iff.mpr ln
    walk_at "go"
    rw [decide_eq_false (show ¬ V.str (S (dig m)) = V.str "" from fun z => by
      injection z with z
      have := congrArg Str.length z
      rw [S_len] at this
      exact absurd this (by rw [show ("" : Str).length = 0 from rfl]; omega))]
    walk_at "go"
    refine ⟨by rw [S_len]; exact szl (by omega), ?_⟩
    rw [S_len]
    walk_at "go"
    rw [decide_eq_false (show ¬ (61 : Int) < ((dig m).length : Int) by omega)]
    walk_at "go"
    refine ⟨dig m, DGT, 0, rfl, Nat.zero_le _, by omega, ?_⟩
    rw [List.drop_zero, run_all (C := DGT) (fun c hc => dig_mem hc), Nat.zero_add]
    walk_at "go"
    refine ⟨by rw [S_len]; exact szl (by omega), ?_⟩
    rw [S_len]
    walk_at "go"
    rw [decide_eq_false (show ¬ ((dig m).length : Int) < ((dig m).length : Int) by omega)]
    walk_at "go"
    refine ⟨_, _, _, rfl, rfl, by rw [S_len]; exact szl (by omega), at_SL (j := 0) l1, ?_⟩
    walk_at "go"
    have tailq : ∀ J, Q (.int (m : Int)) J → (show Prop from Q (.int (m : Int)) J) := fun J h => h
    by_cases c0 : (dig m)[0] = 48
    · have l2 := dig_zero (m := m) (by rw [List.getElem?_eq_getElem l1, c0])
      rw [decide_eq_true (show V.str ⟨#[(dig m)[0]]⟩ = V.str "0" by rw [c0]; rfl)]
      walk_at "go"
      refine ⟨by rw [S_len]; exact szl (by omega), ?_⟩
      rw [S_len]
      walk_at "go"
      rw [decide_eq_false (show ¬ (1 : Int) < ((dig m).length : Int) by omega)]
      walk_at "go"
      refine ⟨_, (m : Int), rfl, by rw [← str_dig, ]; exact TL.int_num (by rw [← show (S (TL.numL m)).length = _ from S_len _, ← SX.num_S, str_dig, S_len]; omega), by rw [S_len]; omega, ?_⟩
      walk_at "go"
      rw [decide_eq_true (show (m : Int) ≤ (n : Int) by omega)]
      walk_at "go"
      exact q
    · rw [decide_eq_false (show ¬ V.str ⟨#[(dig m)[0]]⟩ = V.str "0" from fun z => by
        injection z with z
        have z2 : S [(dig m)[0]] = S [48] := z
        have := S_inj z2
        injection this with this
        exact c0 this)]
      walk_at "go"
      refine ⟨_, (m : Int), rfl, by rw [← str_dig, ]; exact TL.int_num (by rw [← show (S (TL.numL m)).length = _ from S_len _, ← SX.num_S, str_dig, S_len]; omega), by rw [S_len]; omega, ?_⟩
      walk_at "go"
      rw [decide_eq_true (show (m : Int) ≤ (n : Int) by omega)]
      walk_at "go"
      exact q
/-- (of right words) -/
def spWt : Sp := fun vs H Q _ => ∃ x : Wk, vs = [.str (S (wT x))] ∧ WOk x ∧ isS x = false ∧ ∀ (t : Addr) (v : V) H', Same H H' → H t = none → H' t = some (.tup [.str (kdW [x]), v]) → VlW H' [x] v → Q (.ref t) H'
theorem ok_word_token (F : FnP K "word_token" s_word_token f fd) (tok_MOST_AMOUNT : Tok) (g_MOST_AMOUNT : mg "MOST_AMOUNT" = some (.int (10 ^ 60) tok_MOST_AMOUNT)) (tok_MOST_COUNT : Tok) (g_MOST_COUNT : mg "MOST_COUNT" = some (.int 100 tok_MOST_COUNT)) (c_is_party : Cal P w K mg base 1 "is_party" spIsP) (c_is_mark : Cal P w K mg base 1 "is_mark" spIsM) (c_number_of : Cal P w K mg base 2 "number_of" spNb) : FnOk P w K mg base CX0 3 f fd P_word_token spWt := by
  refine F.ok sc_word_token (fun vs H Q E h => ?_) (fun cdv A outer s H vs Q E hr h => ?_)
  · obtain ⟨x, rfl, _⟩ := h
    rfl
  · obtain ⟨x, rfl, ok, sg, q⟩ := h
    refine ⟨_, PSs.nox (pss_cons (ps_if (pt_val (pe_cl c_is_party hr (by decide) (by rfl) (pa_cons (pv 0) pa_nil))) (pss_one (ps_ret (pe_tup (pa_cons pe_str (pa_cons (pv 0) pa_nil))))) pss_nil)
      (pss_cons (ps_if (pt_val (pe_cl c_is_mark hr (by decide) (by rfl) (pa_cons (pv 0) pa_nil))) (pss_one (ps_ret (pe_tup (pa_cons pe_str (pa_cons (pv 0) pa_nil))))) pss_nil)
      (pss_cons (ps_if (PW.pt (pw_and (pt_val (pe_cl c_is_party hr (by decide) (by rfl) (pa_cons (pe_slice C8.sl_txt (pv 0) po_none (po_some pe_int)) pa_nil))) (pw_and (pt_val (pe_cl c_is_party hr (by decide) (by rfl) (pa_cons (pe_slice sl_str (pv 0) (po_some pe_int) (po_some pe_int)) pa_nil))) (pw_and1 (pt_cmpR op_ne (pe_ix ix_str (pv 0) pe_int (fun _ _ => rfl)) (pe_ix ix_str (pv 0) pe_int (fun _ _ => rfl)) (nomark _)))))) (pss_cons (ps_set (i := 1) sc_word_token.nd rfl (by first | exact .inl rfl | exact .inr rfl) (pe_cl c_number_of hr (by decide) (by rfl) (pa_cons (pe_slice C8.sl_txt (pv 0) (po_some pe_int) po_none) (pa_cons (pe_glob (v := .int 1000000000000000000000000000000000000000000000000000000000000) (by rfl) g_MOST_AMOUNT ⟨_, rfl⟩) pa_nil))))
      (pss_one (ps_if (pt_cmpR op_notN (pv 1) pe_non (nomark _)) (pss_one (ps_ret (pe_tup (pa_cons pe_str (pa_cons (pe_tup (pa_cons (pe_ix ix_str (pv 0) pe_int (fun _ _ => rfl)) (pa_cons (pe_ix ix_str (pv 0) pe_int (fun _ _ => rfl)) (pa_cons (pv 1) pa_nil)))) pa_nil))))) pss_nil))) pss_nil)
      (pss_cons (ps_set (i := 2) sc_word_token.nd rfl (by first | exact .inl rfl | exact .inr rfl) (pe_cl c_number_of hr (by decide) (by rfl) (pa_cons (pv 0) (pa_cons (pe_glob (v := .int 100) (by rfl) g_MOST_COUNT ⟨_, rfl⟩) pa_nil))))
      (pss_one (ps_ret (pe_ifExp (pt_cmpR op_isN (pv 2) pe_non (nomark _)) (pe_tup (pa_cons pe_str (pa_cons pe_non pa_nil))) (pe_tup (pa_cons pe_str (pa_cons (pv 2) pa_nil)))))))))), ?_⟩
    walk_at "go"
    cases x with
    | sg c => cases sg
    | ow c =>
      refine ⟨(show 1 ≤ 10000 by decide), fun b hb => ?_⟩
      rw [show isPy (wT (.ow c)) = true from isPy_one ok] at hb
      subst hb
      walk_at "go"
      intro t nt
      generalize eH_ : upd H t _ = J1
      have s1 : Same H J1 := by rw [← eH_]; exact same_new nt
      have et : J1 t = some (.tup [.str "owner", .str (S [c])]) := by rw [← eH_]; exact upd_same
      clear eH_
      exact q t _ J1 s1 nt et rfl
    | mk c =>
      refine ⟨(show 1 ≤ 10000 by decide), fun b hb => ?_⟩
      have np : isPy [c] = false := (by decide : ∀ c ∈ MRK, isPy [c] = false) c ok
      rw [show isPy (wT (.mk c)) = false from np] at hb
      subst hb
      walk_at "go"
      refine ⟨(show 1 ≤ 10000 by decide), fun b hb => ?_⟩
      rw [show isMk (wT (.mk c)) = true from isMk_one ok] at hb
      subst hb
      walk_at "go"
      intro t nt
      generalize eH_ : upd H t _ = J1
      have s1 : Same H J1 := by rw [← eH_]; exact same_new nt
      have et : J1 t = some (.tup [.str "mark", .str (S [c])]) := by rw [← eH_]; exact upd_same
      clear eH_
      exact q t _ J1 s1 nt et rfl
    | tr p q0 m =>
      obtain ⟨hp, hq, hpq, hm⟩ := ok
      have ld := dig_len hm
      have l1 : 0 < (dig m).length := List.length_pos_iff.mpr (dig_ne m)
      have lw : (wT (.tr p q0 m)).length = 2 + (dig m).length := by
        show ([p] ++ [q0] ++ dig m).length = _
        rw [List.length_append]
        rfl
      have np : isPy (wT (.tr p q0 m)) = false := by
        unfold isPy
        rw [lw, decide_eq_false (by omega)]
        rfl
      have nm : isMk (wT (.tr p q0 m)) = false := by
        unfold isMk
        rw [lw, decide_eq_false (by omega)]
        rfl
      refine ⟨by omega, fun b hb => ?_⟩
      rw [np] at hb
      subst hb
      walk_at "go"
      refine fun b hb => ?_
      rw [nm] at hb
      subst hb
      walk_at "go"
      refine ⟨by rw [S_len]; exact szl (by omega), ?_⟩
      rw [show Txt.slice (S (wT (.tr p q0 m))) none (some 1) = S [p] from SX.to_app [p] ([q0] ++ dig m) rfl]
      refine ⟨[p], rfl, (show 1 ≤ 10000 by decide), fun b hb => ?_⟩
      rw [isPy_one hp] at hb
      subst hb
      walk_at "go"
      refine ⟨by rw [S_len]; exact szl (by omega), ?_⟩
      rw [show cutS (S (wT (.tr p q0 m))) (some 1) (some 2) = S [q0] from cutS_mid (a := 1) (b := 2) (by omega) (by omega)]
      refine ⟨[q0], rfl, (show 1 ≤ 10000 by decide), fun b hb => ?_⟩
      rw [isPy_one hq] at hb
      subst hb
      walk_at "go"
      refine ⟨_, _, _, rfl, rfl, by rw [S_len]; exact szl (by omega), atI_nat (j := 0) rfl, ?_⟩
      walk_at "go"
      refine ⟨_, _, _, rfl, rfl, by rw [S_len]; exact szl (by omega), atI_nat (j := 1) rfl, ?_⟩
      walk_at "go"
      rw [decide_eq_false (show ¬ V.str ⟨#[p]⟩ = V.str ⟨#[q0]⟩ from fun z => by
        injection z with z
        have z2 : S [p] = S [q0] := z
        have := S_inj z2
        injection this with this
        exact hpq this)]
      walk_at "go"
      refine ⟨by rw [S_len]; exact szl (by omega), ?_⟩
      rw [show Txt.slice (S (wT (.tr p q0 m))) (some 2) none = S (dig m) from SX.from_app ([p] ++ [q0]) (dig m) rfl]
      refine ⟨m, 10 ^ 60, rfl, hm, hm, ?_⟩
      walk_at "go"
      refine ⟨_, _, _, rfl, rfl, by rw [S_len]; exact szl (by omega), atI_nat (j := 0) rfl, ?_⟩
      walk_at "go"
      refine ⟨_, _, _, rfl, rfl, by rw [S_len]; exact szl (by omega), atI_nat (j := 1) rfl, ?_⟩
      walk_at "go"
      intro u nu
      generalize eH_ : upd H u _ = J1
      have s1 : Same H J1 := by rw [← eH_]; exact same_new nu
      have eu : J1 u = some (.tup [.str (S [p]), .str (S [q0]), .int (m : Int)]) := by rw [← eH_]; exact upd_same
      clear eH_
      walk_at "go"
      intro t nt
      generalize eH_ : upd J1 t _ = J2
      have s2 : Same J1 J2 := by rw [← eH_]; exact same_new nt
      have et : J2 t = some (.tup [.str "transfer", .ref u]) := by rw [← eH_]; exact upd_same
      clear eH_
      exact q t _ J2 (s1.trans s2) (Same.back s1 nt) et ⟨u, rfl, s2 _ _ eu⟩
    | ct c =>
      have hc : c ≤ 100 := ok
      have ld := dig_len3 hc
      have l1 : 0 < (dig c).length := List.length_pos_iff.mpr (dig_ne c)
      have lw : (wT (.ct c)).length = (dig c).length := rfl
      have np : isPy (wT (.ct c)) = false := (by decide : ∀ c, c ≤ 100 → isPy (dig c) = false) c hc
      have nm : isMk (wT (.ct c)) = false := (by decide : ∀ c, c ≤ 100 → isMk (dig c) = false) c hc
      refine ⟨by omega, fun b hb => ?_⟩
      rw [np] at hb
      subst hb
      walk_at "go"
      refine fun b hb => ?_
      rw [nm] at hb
      subst hb
      walk_at "go"
      refine ⟨by rw [S_len]; exact szl (by omega), ?_⟩
      obtain ⟨d, r, hdr⟩ : ∃ d r, wT (.ct c) = [d] ++ r := by
        cases e : wT (.ct c) with
        | nil => exact absurd e (dig_ne c)
        | cons d r => exact ⟨d, r, rfl⟩
      have hd : isPy [d] = false := by
        have m : d ∈ DGT := dig_mem (m := c) (show d ∈ wT (.ct c) by rw [hdr]; exact List.mem_cons_self)
        exact (by decide : ∀ d ∈ DGT, isPy [d] = false) d m
      rw [show Txt.slice (S (wT (.ct c))) none (some 1) = S [d] by rw [hdr]; exact SX.to_app [d] r rfl]
      refine ⟨[d], rfl, (show 1 ≤ 10000 by decide), fun b hb => ?_⟩
      rw [hd] at hb
      subst hb
      walk_at "go"
      intro t nt
      generalize eH_ : upd H t _ = J1
      have s1 : Same H J1 := by rw [← eH_]; exact same_new nt
      have et : J1 t = some (.tup [.str "count", .int (c : Int)]) := by rw [← eH_]; exact upd_same
      clear eH_
      exact q t _ J1 s1 nt et rfl
/-- the next token -/
def spTa : Sp := fun vs H Q _ => ∃ (T : List Nat) (i : Nat) (ws : List Wk), vs = [.str (S T), .int (i : Int)] ∧ i ≤ T.length ∧ T.length ≤ 1000000 ∧ Spl ws (T.drop i) ∧ Gw ws ∧ ∀ (t : Addr) H', Same H H' → H t = none → TkAt H' t T ws → Q (.ref t) H'
theorem ok_token_at (F : FnP K "token_at" s_token_at f fd) (m_len : mg "len" = none) (tok_SIGNS : Tok) (g_SIGNS : mg "SIGNS" = some (.str "()[]|,." tok_SIGNS)) (tok_LETTERS : Tok) (g_LETTERS : mg "LETTERS" = some (.str "abcdefghijklmnopqrstuvwxyzABCDEFGHIJKLMNOPQRSTUVWXYZ" tok_LETTERS)) (tok_DIGITS : Tok) (g_DIGITS : mg "DIGITS" = some (.str "0123456789" tok_DIGITS)) (c_end_of : Cal P w K mg base 1 "end_of" spEn) (c_word_token : Cal P w K mg base 3 "word_token" spWt) : FnOk P w K mg base CX0 4 f fd P_token_at spTa := by
  refine F.ok sc_token_at (fun vs H Q E h => ?_) (fun cdv A outer s H vs Q E hr h => ?_)
  · obtain ⟨T, i, ws, rfl, _⟩ := h
    rfl
  · obtain ⟨T, i, ws, rfl, hi, hT, hs, hg, q⟩ := h
    refine ⟨_, PSs.nox (pss_cons (ps_set (i := 2) sc_token_at.nd rfl (by first | exact .inl rfl | exact .inr rfl) (pe_cl c_end_of hr (by decide) (by rfl) (pa_cons (pv 0) (pa_cons (pv 1) (pa_cons pe_str pa_nil)))))
      (pss_cons (ps_if (pt_cmpR op_eq (pv 2) (pe_callB call_len_str (by rfl) m_len PySem.boot_len (pa_cons (pv 0) pa_nil)) (nomark _)) (pss_one (ps_ret (pe_tup (pa_cons pe_str (pa_cons pe_non (pa_cons (pv 2) (pa_cons (pv 2) pa_nil))))))) pss_nil)
      (pss_cons (ps_if (pt_cmpR op_in_sign (pe_ix ix_str (pv 0) (pv 2) (fun _ _ => rfl)) (pe_glob (by rfl) g_SIGNS (relv_str (x := "()[]|,."))) (by rfl)) (pss_one (ps_ret (pe_tup (pa_cons (pe_ix ix_str (pv 0) (pv 2) (fun _ _ => rfl)) (pa_cons pe_non (pa_cons (pv 2) (pa_cons (pe_op op_add (pv 2) pe_int) pa_nil))))))) pss_nil)
      (pss_cons (ps_set (i := 3) sc_token_at.nd rfl (by first | exact .inl rfl | exact .inr rfl) (pe_cl c_end_of hr (by decide) (by rfl) (pa_cons (pv 0) (pa_cons (pv 2) (pa_cons (pe_op op_add_str (pe_glob (by rfl) g_LETTERS (relv_str (x := "abcdefghijklmnopqrstuvwxyzABCDEFGHIJKLMNOPQRSTUVWXYZ"))) (pe_glob (by rfl) g_DIGITS (relv_str (x := "0123456789")))) pa_nil)))))
      (pss_cons (ps_if (pt_cmpR op_eq (pv 3) (pv 2) (nomark _)) (pss_one (ps_ret (pe_tup (pa_cons pe_str (pa_cons pe_non (pa_cons (pv 2) (pa_cons (pe_op op_add (pv 2) pe_int) pa_nil))))))) pss_nil)
      (pss_cons (ps_asg (pe_cl c_word_token hr (by decide) (by rfl) (pa_cons (pe_slice sl_str (pv 0) (po_some (pv 2)) (po_some (pv 3))) pa_nil)) (pg_tup rfl (pgs_cons (pg_name (i := 4) sc_token_at.nd rfl (by first | exact .inl rfl | exact .inr rfl)) (pgs_cons (pg_name (i := 5) sc_token_at.nd rfl (by first | exact .inl rfl | exact .inr rfl)) pgs_nil))))
      (pss_one (ps_ret (pe_tup (pa_cons (pv 4) (pa_cons (pv 5) (pa_cons (pv 2) (pa_cons (pv 3) pa_nil))))))))))))), ?_⟩
    walk_at "go"
    refine ⟨T, [32], i, rfl, hi, hT, ?_⟩
    match ws, hs, hg, q with
    | [], hs, hg, q =>
      rw [run_all (C := [32]) (fun c hc => List.mem_singleton.mpr (hs c hc)), List.length_drop, show i + (T.length - i) = T.length by omega]
      walk_at "go"
      refine ⟨by rw [S_len]; exact szT hT, ?_⟩
      rw [S_len]
      walk_at "go"
      rw [decide_eq_true rfl]
      walk_at "go"
      intro t nt
      generalize eH_ : upd H t _ = J1
      have s1 : Same H J1 := by rw [← eH_]; exact same_new nt
      have et : J1 t = some (.tup [.str "end", .non, .int (T.length : Int), .int (T.length : Int)]) := by rw [← eH_]; exact upd_same
      clear eH_
      exact q t J1 s1 nt ⟨.non, T.length, T.length, et, rfl, Nat.le_refl _, by rw [List.drop_length]; exact fun c hc => absurd hc List.not_mem_nil, hg⟩
    | x :: ws, hs, hg, q =>
      obtain ⟨kk, T', hdr, hs'⟩ := hs
      obtain ⟨hx, hsep, hgs⟩ := hg
      obtain ⟨c, r, hcr, hc32⟩ : ∃ c r, wT x = c :: r ∧ c ≠ 32 := by
        cases hsg : isS x with
        | true =>
          cases x with
          | sg c => exact ⟨c, [], rfl, (sgn_not hx).2⟩
          | _ => cases hsg
        | false =>
          obtain ⟨ne, al⟩ := wT_aln hx hsg
          cases e : wT x with
          | nil => exact absurd e ne
          | cons c r => exact ⟨c, r, rfl, (aln_not (al c (by rw [e]; exact List.mem_cons_self))).2⟩
      have hr0 : run [32] (T.drop i) = kk := by
        rw [hdr, List.append_assoc, run_app (C := [32]) (fun d hd => List.mem_singleton.mpr (List.eq_of_mem_replicate hd)), List.length_replicate, hcr, List.cons_append, run_cons_out (fun m => hc32 (List.mem_singleton.mp m))]
        rfl
      have hd2 : T.drop (i + kk) = wT x ++ T' := by
        rw [← List.drop_drop, hdr, List.append_assoc, List.drop_left' (List.length_replicate)]
      have hl : T.length = i + kk + (wT x).length + T'.length := by
        have := congrArg List.length hdr
        rw [List.length_drop, List.length_append, List.length_append, List.length_replicate] at this
        omega
      have lx : 1 ≤ (wT x).length := by rw [hcr]; exact Nat.succ_le_succ (Nat.zero_le _)
      have hlt : i + kk < T.length := by omega
      have hget : T[i + kk] = c := by
        have := List.getElem_drop (xs := T) (i := i + kk) (j := 0) (h := by rw [List.length_drop]; omega)
        have e2 : (T.drop (i + kk))[0]? = some c := by rw [hd2, hcr]; rfl
        rw [List.getElem?_drop, Nat.add_zero, List.getElem?_eq_getElem hlt] at e2
        exact Option.some.inj e2
      rw [hr0]
      walk_at "go"
      refine ⟨by rw [S_len]; exact szT hT, ?_⟩
      rw [S_len]
      walk_at "go"
      rw [decide_eq_false (show ¬ V.int ((i + kk : Nat) : Int) = V.int (T.length : Int) from fun z => by injection z with z; omega)]
      walk_at "go"
      refine ⟨_, _, _, rfl, rfl, by rw [S_len]; exact szT hT, at_SL hlt, ?_⟩
      rw [hget]
      walk_at "go"
      cases hsg : isS x with
      | true =>
        cases x with
        | sg c' =>
          obtain rfl : c' = c := by injection hcr
          rw [show (Str.ofString "()[]|,.").cps.toList = SGN from by decide +kernel, decide_eq_true (show c' ∈ SGN from hx)]
          walk_at "go"
          refine ⟨_, _, _, rfl, rfl, by rw [S_len]; exact szT hT, at_SL hlt, ?_⟩
          rw [hget]
          walk_at "go"
          intro t nt
          generalize eH_ : upd H t _ = J1
          have s1 : Same H J1 := by rw [← eH_]; exact same_new nt
          have et : J1 t = some (.tup [.str (S [c']), .non, .int ((i + kk : Nat) : Int), .int ((i + kk + 1 : Nat) : Int)]) := by rw [← eH_]; exact upd_same
          clear eH_
          refine q t J1 s1 nt ⟨.non, i + kk, i + kk + 1, et, rfl, by omega, ?_, hx, hsep, hgs⟩
          rw [← List.drop_drop, hd2]
          exact hs'
        | _ => cases hsg
      | false =>
        obtain ⟨ne, al⟩ := wT_aln hx hsg
        have hcA : c ∈ ALN := al c (by rw [hcr]; exact List.mem_cons_self)
        have nx : nxS ws := by
          rcases hsep with z | z
          · rw [hsg] at z; cases z
          · exact z
        have hr2 : run ALN (T.drop (i + kk)) = (wT x).length := by
          rw [hd2, run_app al, nx_out hs' hgs nx]
          rfl
        rw [show (Str.ofString "()[]|,.").cps.toList = SGN from by decide +kernel, decide_eq_false (aln_not hcA).1]
        walk_at "go"
        rw [show (Str.ofString "abcdefghijklmnopqrstuvwxyzABCDEFGHIJKLMNOPQRSTUVWXYZ" ++ Str.ofString "0123456789") = S ALN from aln_eq]
        refine ⟨T, ALN, i + kk, rfl, by omega, hT, ?_⟩
        rw [hr2]
        walk_at "go"
        rw [decide_eq_false (show ¬ V.int ((i + kk + (wT x).length : Nat) : Int) = V.int ((i + kk : Nat) : Int) from fun z => by injection z with z; omega)]
        walk_at "go"
        refine ⟨by rw [S_len]; exact szT hT, ?_⟩
        rw [cutS_mid (by omega) (by omega), hd2, show i + kk + (wT x).length - (i + kk) = (wT x).length by omega, List.take_left]
        refine ⟨x, rfl, hx, hsg, fun u v J1 s1 nu eu hv => ?_⟩
        walk_at "go"
        refine ⟨u, _, rfl, SqT.of eu, rfl, ?_⟩
        walk_at "go"
        intro t nt
        generalize eH_ : upd J1 t _ = J2
        have s2 : Same J1 J2 := by rw [← eH_]; exact same_new nt
        have et : J2 t = some (.tup [.str (kdW [x]), v, .int ((i + kk : Nat) : Int), .int ((i + kk + (wT x).length : Nat) : Int)]) := by rw [← eH_]; exact upd_same
        clear eH_
        have ek : kdW [x] = kdW (x :: ws) := by cases x <;> rfl
        have hv2 : VlW J2 (x :: ws) v := by
          have z := VlW.mono s2 hv
          cases x <;> exact z
        rw [ek] at et
        refine q t J2 (s1.trans s2) (Same.back s1 nt) ⟨v, i + kk, i + kk + (wT x).length, et, hv2, by omega, ?_, hx, hsep, hgs⟩
        rw [← List.drop_drop, hd2, List.drop_left]
        exact hs'
end
end Z
set_option Elab.async false
set_option linter.all false
set_option maxRecDepth 100000
set_option maxHeartbeats 4000000
namespace Z
open PySem PySem.Spec PyProof.Rows L2 Pk
open SX (S S_inj S_len S_cat)
/-! ### what a reader tells of a pact -/
mutual
def TdAt (H : Hp) : Pt → Addr → Prop
  | .tr p q m, a => ∃ u, H a = some (.tup [.str "transfer", .ref u]) ∧ H u = some (.tup [.str (S [p]), .str (S [q]), .int (m : Int)])
  | .ev k, a => H a = some (.tup [.str "mark", .str (S [k])])
  | .ch o os, a => ∃ (L : Addr) (as : List Addr), H a = some (.tup [.str "choice", .str (S [o]), .ref L]) ∧ H L = some (.lst (as.map V.ref)) ∧ TasAt H os as
  | .rd o b, a => ∃ (L : Addr) (as : List Addr), H a = some (.tup [.str "rounds", .str (S [o]), .ref L]) ∧ H L = some (.lst (as.map V.ref)) ∧ TdsAt H b as
  | .en b, a => ∃ (L : Addr) (as : List Addr), H a = some (.tup [.str "endless", .ref L]) ∧ H L = some (.lst (as.map V.ref)) ∧ TdsAt H b as
  | .ti n b, a => ∃ (L : Addr) (as : List Addr), H a = some (.tup [.str "times", .int (n : Int), .ref L]) ∧ H L = some (.lst (as.map V.ref)) ∧ TdsAt H b as
def TdsAt (H : Hp) : List Pt → List Addr → Prop
  | [], as => as = []
  | p :: l, as => ∃ a r, as = a :: r ∧ TdAt H p a ∧ TdsAt H l r
def TasAt (H : Hp) : List (List Pt) → List Addr → Prop
  | [], as => as = []
  | b :: l, as => ∃ L r, as = L :: r ∧ (∃ bs : List Addr, H L = some (.lst (bs.map V.ref)) ∧ TdsAt H b bs) ∧ TasAt H l r
end
/-- a told pact -/
def TaAt (H : Hp) (b : List Pt) (L : Addr) : Prop := ∃ bs : List Addr, H L = some (.lst (bs.map V.ref)) ∧ TdsAt H b bs
section
variable {H H' : Hp}
mutual
theorem TdAt.mono (s : Same H H') : ∀ (p : Pt) (a : Addr), TdAt H p a → TdAt H' p a
  | .tr p q m, a, h => by
    rw [TdAt] at h ⊢
    obtain ⟨u, h1, h2⟩ := h
    exact ⟨u, s _ _ h1, s _ _ h2⟩
  | .ev k, a, h => by
    rw [TdAt] at h ⊢
    exact s _ _ h
  | .ch o os, a, h => by
    rw [TdAt] at h ⊢
    obtain ⟨t, as, h1, h2, h3⟩ := h
    exact ⟨t, as, s _ _ h1, s _ _ h2, TasAt.mono s os as h3⟩
  | .rd o b, a, h => by
    rw [TdAt] at h ⊢
    obtain ⟨t, as, h1, h2, h3⟩ := h
    exact ⟨t, as, s _ _ h1, s _ _ h2, TdsAt.mono s b as h3⟩
  | .en b, a, h => by
    rw [TdAt] at h ⊢
    obtain ⟨t, as, h1, h2, h3⟩ := h
    exact ⟨t, as, s _ _ h1, s _ _ h2, TdsAt.mono s b as h3⟩
  | .ti n b, a, h => by
    rw [TdAt] at h ⊢
    obtain ⟨t, as, h1, h2, h3⟩ := h
    exact ⟨t, as, s _ _ h1, s _ _ h2, TdsAt.mono s b as h3⟩
theorem TdsAt.mono (s : Same H H') : ∀ (l : List Pt) (as : List Addr), TdsAt H l as → TdsAt H' l as
  | [], as, h => by
    rw [TdsAt] at h ⊢
    exact h
  | p :: l, as, h => by
    rw [TdsAt] at h ⊢
    obtain ⟨a, r, h1, h2, h3⟩ := h
    exact ⟨a, r, h1, TdAt.mono s p a h2, TdsAt.mono s l r h3⟩
theorem TasAt.mono (s : Same H H') : ∀ (l : List (List Pt)) (as : List Addr), TasAt H l as → TasAt H' l as
  | [], as, h => by
    rw [TasAt] at h ⊢
    exact h
  | b :: l, as, h => by
    rw [TasAt] at h ⊢
    obtain ⟨x, r, h1, ⟨bs, h3, h4⟩, h5⟩ := h
    exact ⟨x, r, h1, ⟨bs, s _ _ h3, TdsAt.mono s b bs h4⟩, TasAt.mono s l r h5⟩
end
theorem TaAt.mono (s : Same H H') {b : List Pt} {x : Addr} (h : TaAt H b x) : TaAt H' b x := by
  obtain ⟨bs, h3, h4⟩ := h
  exact ⟨bs, s _ _ h3, TdsAt.mono s b bs h4⟩
theorem tdsAt_snoc : ∀ (l : List Pt) (as : List Addr) (p : Pt) (a : Addr), TdsAt H l as → TdAt H p a → TdsAt H (l ++ [p]) (as ++ [a])
  | [], as, p, a, h, h2 => by
    rw [TdsAt] at h
    rw [h, List.nil_append, List.nil_append, TdsAt]
    exact ⟨a, [], rfl, h2, by rw [TdsAt]⟩
  | q :: l, as, p, a, h, h2 => by
    rw [TdsAt] at h
    obtain ⟨b, r, rfl, h1, h3⟩ := h
    rw [List.cons_append, TdsAt]
    exact ⟨b, r ++ [a], rfl, h1, tdsAt_snoc l r p a h3 h2⟩
theorem tasAt_snoc : ∀ (l : List (List Pt)) (as : List Addr) (p : List Pt) (a : Addr), TasAt H l as → TaAt H p a → TasAt H (l ++ [p]) (as ++ [a])
  | [], as, p, a, h, h2 => by
    rw [TasAt] at h
    rw [h, List.nil_append, List.nil_append, TasAt]
    exact ⟨a, [], rfl, h2, by rw [TasAt]⟩
  | q :: l, as, p, a, h, h2 => by
    rw [TasAt] at h
    obtain ⟨b, r, rfl, h1, h3⟩ := h
    rw [List.cons_append, TasAt]
    exact ⟨b, r ++ [a], rfl, h1, tasAt_snoc l r p a h3 h2⟩
theorem TdsAt.len : ∀ (l : List Pt) (as : List Addr), TdsAt H l as → as.length = l.length
  | [], as, h => by
    rw [TdsAt] at h
    rw [h]
    rfl
  | p :: l, as, h => by
    rw [TdsAt] at h
    obtain ⟨a, r, rfl, h1, h3⟩ := h
    rw [List.length_cons, List.length_cons, TdsAt.len l r h3]
theorem TasAt.len : ∀ (l : List (List Pt)) (as : List Addr), TasAt H l as → as.length = l.length
  | [], as, h => by
    rw [TasAt] at h
    rw [h]
    rfl
  | p :: l, as, h => by
    rw [TasAt] at h
    obtain ⟨a, r, rfl, h1, h3⟩ := h
    rw [List.length_cons, List.length_cons, TasAt.len l r h3]
theorem TdsAt.gets : ∀ (l : List Pt) (as : List Addr), TdsAt H l as → ∀ (i : Nat) (x : V), (as.map V.ref)[i]? = some x → ∃ y p, x = .ref y ∧ l[i]? = some p ∧ TdAt H p y
  | [], as, h, i, x, e => by
    rw [TdsAt] at h
    rw [h] at e
    cases e
  | q :: l, as, h, i, x, e => by
    rw [TdsAt] at h
    obtain ⟨a, r, rfl, h1, h3⟩ := h
    cases i with
    | zero =>
      cases e
      exact ⟨a, q, rfl, rfl, h1⟩
    | succ i => exact TdsAt.gets l r h3 i x e
theorem TasAt.gets : ∀ (l : List (List Pt)) (as : List Addr), TasAt H l as → ∀ (i : Nat) (x : V), (as.map V.ref)[i]? = some x → ∃ y p, x = .ref y ∧ l[i]? = some p ∧ TaAt H p y
  | [], as, h, i, x, e => by
    rw [TasAt] at h
    rw [h] at e
    cases e
  | q :: l, as, h, i, x, e => by
    rw [TasAt] at h
    obtain ⟨a, r, rfl, h1, h3⟩ := h
    cases i with
    | zero =>
      cases e
      exact ⟨a, q, rfl, rfl, h1⟩
    | succ i => exact TasAt.gets l r h3 i x e
end
/-! ### tuples, and what else is new -/
def isTup : Option HO → Bool
  | some (.tup _) => true
  | _ => false
/-- all tuples, and what else is new and is not D -/
def twD (H : Hp) (D : Addr) (H' : Hp) : Hp := fun a => if isTup (H' a) = true ∨ (H a = none ∧ a ≠ D) then H' a else none
def tw (H H' : Hp) : Hp := fun a => if isTup (H' a) = true ∨ H a = none then H' a else none
section
variable {H H1 H2 : Hp} {D p : Addr}
theorem tw_some {a : Addr} {o : HO} (h : tw H H1 a = some o) : H1 a = some o ∧ (isTup (some o) = true ∨ H a = none) := by
  unfold tw at h
  split at h
  · rename_i z
    rw [h] at z
    exact ⟨h, z⟩
  · cases h
theorem tw_of {a : Addr} {o : HO} (h : H1 a = some o) (z : isTup (some o) = true ∨ H a = none) : tw H H1 a = some o := by
  unfold tw
  rw [h, if_pos z]
theorem twD_some {a : Addr} {o : HO} (h : twD H D H1 a = some o) : H1 a = some o ∧ (isTup (some o) = true ∨ (H a = none ∧ a ≠ D)) := by
  unfold twD at h
  split at h
  · rename_i z
    rw [h] at z
    exact ⟨h, z⟩
  · cases h
theorem twD_of {a : Addr} {o : HO} (h : H1 a = some o) (z : isTup (some o) = true ∨ (H a = none ∧ a ≠ D)) : twD H D H1 a = some o := by
  unfold twD
  rw [h, if_pos z]
theorem tw_same : Same (tw H H1) H1 := fun _ _ h => (tw_some h).1
theorem twD_tw : Same (twD H D H1) (tw H H1) := fun _ _ h => tw_of (twD_some h).1 ((twD_some h).2.imp id And.left)
theorem tw_trans (nn : ∀ q, H1 q = none → H q = none) : Same (tw H1 H2) (tw H H2) := fun _ _ h => tw_of (tw_some h).1 ((tw_some h).2.imp id (nn _))
theorem tw_sb (s : SB p H1 H2) (hp : H p ≠ none) (ht : isTup (H1 p) = false) : Same (tw H H1) (tw H H2) := fun a o h => by
  obtain ⟨h1, h2⟩ := tw_some h
  refine tw_of (s _ _ (fun e => ?_) h1) h2
  rcases h2 with z | z
  · rw [← h1, e, ht] at z; cases z
  · exact hp (e ▸ z)
theorem twD_sb (s : SB p H1 H2) (hp : H p ≠ none) (ht : isTup (H1 p) = false) : Same (twD H D H1) (twD H D H2) := fun a o h => by
  obtain ⟨h1, h2⟩ := twD_some h
  refine twD_of (s _ _ (fun e => ?_) h1) h2
  rcases h2 with z | z
  · rw [← h1, e, ht] at z; cases z
  · exact hp (e ▸ z.1)
theorem twD_upd {o : HO} (ht : isTup (H1 D) = false) : Same (twD H D H1) (twD H D (upd H1 D o)) := fun a u h => by
  obtain ⟨h1, h2⟩ := twD_some h
  have n : a ≠ D := fun e => by
    rcases h2 with z | z
    · rw [← h1, e, ht] at z; cases z
    · exact z.2 e
  exact twD_of (by rw [upd_ne n, h1]) h2
/-- what is new from H1 to H2, told from H on -/
theorem tw_tail (nn : ∀ q, H1 q = none → H q = none) (hD : H1 D ≠ none) : Same (tw H1 H2) (twD H D H2) := fun a o h => by
  obtain ⟨h1, h2⟩ := tw_some h
  refine twD_of h1 (h2.imp id fun z => ⟨nn _ z, fun e => hD (e ▸ z)⟩)
theorem tw_mono (s : Same H1 H2) : Same (tw H H1) (tw H H2) := fun a o h => tw_of (s _ _ (tw_some h).1) (tw_some h).2
theorem sb_nn (s : SB p H H1) (hp : H1 p ≠ none) : ∀ q, H1 q = none → H q = none := fun q h => by
  cases e : H q with
  | none => rfl
  | some o =>
    rw [s q o (fun z => hp (z ▸ h)) e] at h
    cases h
end
end Z
set_option pp.maxSteps 700
set_option Elab.async false
set_option linter.all false
set_option maxRecDepth 100000
set_option maxHeartbeats 4000000
open SX (S S_inj S_len S_cat)
namespace Z
open Pk NdefX
open PySem PySem.Spec PyProof.Rows L2
open C8 (pss_cut tCut)
local macro_rules | `(tactic| walk_at "num") => `(tactic| first | rfl | omega | decide | exact Nat.le_of_lt (small1000 (by simp)) | exact ⟨by omega, by omega⟩ | exact ⟨by omega, by omega, by omega⟩ | exact ⟨by decide, by decide, by decide⟩ | exact Or.inl ⟨by omega, by omega⟩ | exact Or.inr ⟨by omega, by omega⟩)
local macro_rules | `(tactic| walk_at "go") => `(tactic| repeat (first | refine ⟨_, rfl, ?_⟩ | refine ⟨_, _, rfl, rfl, ?_⟩ | refine ⟨_, _, rfl, ?_⟩ | (refine ⟨_, _, rfl, rfl, ?_, ?_⟩; focus walk_at "num") | refine Or.inl ⟨_, rfl, ?_⟩ | refine ⟨_, _, _, _, rfl, rfl, (by assumption), (by rfl), ?_⟩ | refine ⟨_, _, _, _, _, rfl, (by assumption), (by assumption), (by assumption), (by rfl), ?_⟩ | refine ⟨rfl, ?_⟩ | (refine And.intro ?_ ?_; focus walk_at "num")))
abbrev s_Reader___init__ : Stmt := inClass (topS 41) 0
abbrev N_Reader___init__ : List Str := ["self", "text"]
abbrev P_Reader___init__ : List Str := ["self", "text"]
theorem sc_Reader___init__ : FnScope N_Reader___init__ P_Reader___init__ (defScope s_Reader___init__) := ⟨rfl, rfl, rfl, by decide +kernel, rfl, by decide +kernel, by decide +kernel⟩
abbrev s_Reader_take : Stmt := inClass (topS 41) 1
abbrev N_Reader_take : List Str := ["self", "kind", "value"]
abbrev P_Reader_take : List Str := ["self", "kind"]
theorem sc_Reader_take : FnScope N_Reader_take P_Reader_take (defScope s_Reader_take) := ⟨rfl, rfl, rfl, by decide +kernel, rfl, by decide +kernel, by decide +kernel⟩
abbrev s_Reader_read_opening : Stmt := inClass (topS 41) 4
abbrev N_Reader_read_opening : List Str := ["self", "sign"]
abbrev P_Reader_read_opening : List Str := ["self", "sign"]
theorem sc_Reader_read_opening : FnScope N_Reader_read_opening P_Reader_read_opening (defScope s_Reader_read_opening) := ⟨rfl, rfl, rfl, by decide +kernel, rfl, by decide +kernel, by decide +kernel⟩
/-! ### the reader -/
def rdF (T : List Nat) (t : Addr) (n : Nat) : List (Str × V) := [("source", .str (S T)), ("token", .ref t), ("nesting", .int (n : Int))]
structure RdC (K : PySem.W.Frag) (CR : Addr) : Prop where
  cls : Cls K CR
  ns : NoAttr K CR "source"
  nt : NoAttr K CR "token"
  nn : NoAttr K CR "nesting"
/-- a reader in front of the words ws, n deep -/
def RdAt (CR : Addr) (H : Hp) (r : Addr) (T : List Nat) (ws : List Wk) (n : Nat) : Prop := ∃ dy t, H r = some (.ins CR dy (rdF T t n)) ∧ TkAt (Z.del H r) t T ws ∧ T.length ≤ 1000000
theorem RdAt.ne {CR : Addr} {H : Hp} {r : Addr} {T : List Nat} {ws : List Wk} {n : Nat} (h : RdAt CR H r T ws n) : H r ≠ none := by
  obtain ⟨dy, t, e, _⟩ := h
  rw [e]
  exact fun z => by cases z
theorem RdAt.nt {CR : Addr} {H : Hp} {r : Addr} {T : List Nat} {ws : List Wk} {n : Nat} (h : RdAt CR H r T ws n) : isTup (H r) = false := by
  obtain ⟨dy, t, e, _⟩ := h
  rw [e]
  rfl
theorem RdAt.mono {CR : Addr} {H H' : Hp} {r : Addr} {T : List Nat} {ws : List Wk} {n : Nat} (s : Same H H') (h : RdAt CR H r T ws n) : RdAt CR H' r T ws n := by
  obtain ⟨dy, t, e, h2⟩ := h
  exact ⟨dy, t, s _ _ e, h2.1.mono (del_mono s), h2.2⟩
theorem RdAt.sb {CR : Addr} {H H' : Hp} {r p : Addr} {T : List Nat} {ws : List Wk} {n : Nat} (s : SB p H H') (hp : isTup (H p) = false) (n2 : r ≠ p) (h : RdAt CR H r T ws n) : RdAt CR H' r T ws n := by
  obtain ⟨dy, t, e, ⟨v, i, e2, g1, g2, g3⟩, h2⟩ := h
  have k : ∀ {u : Addr} {xs : List V}, Z.del H r u = some (.tup xs) → Z.del H' r u = some (.tup xs) := fun {u xs} z => by
    have z2 := del_same _ _ z
    have nr : u ≠ r := fun e3 => by rw [e3, e] at z2; cases z2
    exact del_of nr (s _ _ (fun e3 => by rw [← e3, z2] at hp; cases hp) z2)
  refine ⟨dy, t, s _ _ n2 e, ⟨v, i, e2, k g1, ?_, g3⟩, h2⟩
  match ws, g2 with
  | [], g2 => exact g2
  | .sg _ :: _, g2 => exact g2
  | .ow _ :: _, g2 => exact g2
  | .mk _ :: _, g2 => exact g2
  | .ct _ :: _, g2 => exact g2
  | .tr p q m :: _, ⟨u, g4, g5⟩ => exact ⟨u, g4, k g5⟩
theorem TkAt.del {H : Hp} {r t : Addr} {T : List Nat} {ws : List Wk} (hr : isTup (H r) = false) (h : TkAt H t T ws) : TkAt (Z.del H r) t T ws := by
  obtain ⟨v, i, e2, g1, g2, g3⟩ := h
  have k : ∀ {u : Addr} {xs : List V}, H u = some (.tup xs) → Z.del H r u = some (.tup xs) := fun {u xs} z => del_of (fun e => by rw [← e, z] at hr; cases hr) z
  refine ⟨v, i, e2, k g1, ?_, g3⟩
  match ws, g2 with
  | [], g2 => exact g2
  | .sg _ :: _, g2 => exact g2
  | .ow _ :: _, g2 => exact g2
  | .mk _ :: _, g2 => exact g2
  | .ct _ :: _, g2 => exact g2
  | .tr p q m :: _, ⟨u, g4, g5⟩ => exact ⟨u, g4, k g5⟩
section
variable {P : Program} {w : World} {K : PySem.W.Frag} {mg : Str → Option Value} {base : Heap} {f CR : Addr} {k : Cs} {fd : FuncData}
def spTk (CR : Addr) : Sp := fun vs H Q _ => ∃ (r : Addr) (T : List Nat) (ws : List Wk) (n : Nat), vs = [.ref r, .str (kdW ws)] ∧ RdAt CR H r T ws n ∧ ∀ v H', SB r H H' → RdAt CR H' r T ws.tail n → VlW (Z.del H' r) ws v → Q v H'
theorem ok_rtake (F : FnM K "take" "Reader.take" s_Reader_take f fd) (rc : RdC K CR) (c_token_at : Cal P w K mg base 4 "token_at" spTa) : FnOk P w K mg base CX0 5 f fd P_Reader_take (spTk CR) := by
  refine F.ok sc_Reader_take (fun vs H Q E h => ?_) (fun cdv A outer s H vs Q E hr h => ?_)
  · obtain ⟨r, T, ws, n, rfl, _⟩ := h
    rfl
  · obtain ⟨r, T, ws, n, rfl, ⟨dy, t, er, ⟨v, i, e, ht, hv, he, hs, hg⟩, hT⟩, q⟩ := h
    have ht' := del_same _ _ ht
    refine ⟨_, PSs.nox (pss_cons (ps_if (pt_cmpR op_ne (pe_ix ix_tup (pe_fld (pv 0) rfl) pe_int (fun _ _ => rfl)) (pv 1) (nomark _)) (pss_one ps_never) pss_nil)
      (pss_cons (ps_set (i := 2) sc_Reader_take.nd rfl (by first | exact .inl rfl | exact .inr rfl) (pe_ix ix_tup (pe_fld (pv 0) rfl) pe_int (fun _ _ => rfl)))
      (pss_cons (ps_fld (pv 0) (pe_cl c_token_at hr (by omega) (by rfl) (pa_cons (pe_fld (pv 0) rfl) (pa_cons (pe_ix ix_tup (pe_fld (pv 0) rfl) pe_int (fun _ _ => rfl)) pa_nil))) rfl)
      (pss_one (ps_ret (pv 2)))))), ?_⟩
    walk_at "go"
    refine ⟨r, CR, dy, _, _, rfl, er, rc.cls, rc.nt, rfl, ?_⟩
    walk_at "go"
    refine ⟨t, _, _, _, rfl, rfl, SqT.of ht', at_0, ?_⟩
    walk_at "go"
    rw [decide_eq_true (show V.str (kdW ws) = V.str (kdW ws) from rfl)]
    walk_at "go"
    refine ⟨r, CR, dy, _, _, rfl, er, rc.cls, rc.nt, rfl, ?_⟩
    walk_at "go"
    refine ⟨t, _, _, _, rfl, rfl, SqT.of ht', at_1, ?_⟩
    walk_at "go"
    refine ⟨r, CR, dy, _, _, rfl, er, rc.cls, rc.ns, rfl, ?_⟩
    walk_at "go"
    refine ⟨r, CR, dy, _, _, rfl, er, rc.cls, rc.nt, rfl, ?_⟩
    walk_at "go"
    refine ⟨t, _, _, _, rfl, rfl, SqT.of ht', at_3, ?_⟩
    have hg2 : Gw ws.tail := by
      cases ws with
      | nil => exact True.intro
      | cons x ws => exact hg.2.2
    refine ⟨T, e, ws.tail, rfl, he, hT, hs, hg2, fun t2 J1 s1 nt2 ht2 => ?_⟩
    walk_at "go"
    refine ⟨r, CR, dy, _, rfl, s1 _ _ er, rc.cls, rc.nt, (show 3 < 1000 by decide), ?_⟩
    have rt : r ≠ t2 := ne_of_none er nt2
    have sb : SB r H (upd J1 r (.ins CR dy (rdF T t2 n))) := SB.upd (Z.Same.sb s1)
    have ed : Z.del (upd J1 r (.ins CR dy (rdF T t2 n))) r = Z.del J1 r := by
      funext b
      unfold Z.del
      by_cases c : b = r
      · rw [if_pos c, if_pos c]
      · rw [if_neg c, if_neg c, upd_ne c]
    rw [show putF "token" (V.ref t2) (rdF T t n) = rdF T t2 n from rfl]
    walk_at "go"
    refine q v _ sb ⟨dy, t2, upd_same, ?_, hT⟩ ?_
    · rw [ed]
      exact ht2.del (by rw [s1 _ _ er]; rfl)
    · rw [ed]
      exact hv.mono (del_mono s1)
def spRo (CR : Addr) : Sp := fun vs H Q _ => ∃ (r : Addr) (T : List Nat) (c : Nat) (ws : List Wk) (n : Nat), vs = [.ref r, .str (S [c])] ∧ RdAt CR H r T (.sg c :: ws) n ∧ n < 30 ∧ ∀ v H', SB r H H' → RdAt CR H' r T ws (n + 1) → Q v H'
theorem ok_read_opening (F : FnM K "read_opening" "Reader.read_opening" s_Reader_read_opening f fd) (rc : RdC K CR) (tok_MOST_DEPTH : Tok) (g_MOST_DEPTH : mg "MOST_DEPTH" = some (.int 30 tok_MOST_DEPTH)) (me_take : Met P w K mg base 5 CR "take" (spTk CR)) : FnOk P w K mg base CX0 6 f fd P_Reader_read_opening (spRo CR) := by
  refine F.ok sc_Reader_read_opening (fun vs H Q E h => ?_) (fun cdv A outer s H vs Q E hr h => ?_)
  · obtain ⟨r, T, c, ws, n, rfl, _⟩ := h
    rfl
  · obtain ⟨r, T, c, ws, n, rfl, rd, hn, q⟩ := h
    obtain ⟨dy, t, er, _⟩ := id rd
    refine ⟨_, PSs.nox (pss_cons (ps_if (pt_cmpR op_eq (pe_fld (pv 0) rfl) (pe_glob (v := .int 30) (by rfl) g_MOST_DEPTH ⟨_, rfl⟩) (nomark _)) (pss_one ps_never) pss_nil)
      (pss_cons (ps_expr (pe_me me_take (pv 0) hr (by omega) (pa_cons (pv 1) pa_nil)))
      (pss_one (ps_fld (pv 0) (pe_op op_add (pe_fld (pv 0) rfl) pe_int) rfl)))), ?_⟩
    walk_at "go"
    refine ⟨r, CR, dy, _, _, rfl, er, rc.cls, rc.nn, rfl, ?_⟩
    walk_at "go"
    rw [decide_eq_false (show ¬ V.int (n : Int) = V.int 30 from fun z => by injection z with z; omega)]
    walk_at "go"
    refine ⟨r, dy, _, rfl, er, rfl, ?_⟩
    walk_at "go"
    refine ⟨r, T, .sg c :: ws, n, rfl, rd, fun v J1 s1 rd1 _ => ?_⟩
    obtain ⟨dy1, t1, er1, tk1, hT⟩ := rd1
    walk_at "go"
    refine ⟨r, CR, dy1, _, _, rfl, er1, rc.cls, rc.nn, rfl, ?_⟩
    walk_at "go"
    refine ⟨r, CR, dy1, _, rfl, er1, rc.cls, rc.nn, (show 3 < 1000 by decide), ?_⟩
    rw [show putF "nesting" ((fun i j => V.int (i + j)) (n : Int) 1) (rdF T t1 n) = rdF T t1 (n + 1) from rfl]
    have ed : ∀ o, Z.del (upd J1 r o) r = Z.del J1 r := fun o => by
      funext b
      unfold Z.del
      by_cases c : b = r
      · rw [if_pos c, if_pos c]
      · rw [if_neg c, if_neg c, upd_ne c]
    exact q _ _ (SB.upd s1) ⟨dy1, t1, upd_same, by rw [ed]; exact tk1, hT⟩
def spRi (CR : Addr) : Sp := fun vs H Q _ => ∃ (r dx : Addr) (T : List Nat) (ws : List Wk), vs = [.ref r, .str (S T)] ∧ H r = some (.ins CR dx []) ∧ T.length ≤ 1000000 ∧ Spl ws T ∧ Gw ws ∧ ∀ H', SB r H H' → RdAt CR H' r T ws 0 → Q .non H'
theorem ok_rdinit (F : FnM K "__init__" "Reader.__init__" s_Reader___init__ f fd) (rc : RdC K CR) (c_token_at : Cal P w K mg base 4 "token_at" spTa) : FnOk P w K mg base CX0 5 f fd P_Reader___init__ (spRi CR) := by
  refine F.ok sc_Reader___init__ (fun vs H Q E h => ?_) (fun cdv A outer s H vs Q E hr h => ?_)
  · obtain ⟨r, dx, T, ws, rfl, _⟩ := h
    rfl
  · obtain ⟨r, dx, T, ws, rfl, hr0, hT, hs, hg, q⟩ := h
    refine ⟨_, PSs.nox (pss_cons (ps_fld (pv 0) (pv 1) rfl)
      (pss_cons (ps_fld (pv 0) (pe_cl c_token_at hr (by decide) (by rfl) (pa_cons (pv 1) (pa_cons pe_int pa_nil))) rfl)
      (pss_one (ps_fld (pv 0) pe_int rfl)))), ?_⟩
    walk_at "go"
    refine ⟨r, CR, dx, _, rfl, hr0, rc.cls, rc.ns, (show 0 < 1000 by decide), ?_⟩
    have s0 : SB r H (upd H r (.ins CR dx (putF "source" (V.str (S T)) []))) := SB.upd (Z.Same.sb (Same.refl _))
    have e0 : (upd H r (.ins CR dx (putF "source" (V.str (S T)) []))) r = some (.ins CR dx [("source", V.str (S T))]) := upd_same
    generalize upd H r (.ins CR dx (putF "source" (V.str (S T)) [])) = J0 at s0 e0 ⊢
    walk_at "go"
    refine ⟨T, 0, ws, rfl, Nat.zero_le _, hT, by rw [List.drop_zero]; exact hs, hg, fun t J1 s1 nt ht => ?_⟩
    walk_at "go"
    refine ⟨r, CR, dx, _, rfl, s1 _ _ e0, rc.cls, rc.nt, (show 1 < 1000 by decide), ?_⟩
    walk_at "go"
    refine ⟨r, CR, dx, _, rfl, upd_same, rc.cls, rc.nn, (show 2 < 1000 by decide), ?_⟩
    rw [upd_upd, show putF "nesting" (V.int 0) (putF "token" (V.ref t) [("source", V.str (S T))]) = rdF T t 0 from rfl]
    have ed : ∀ o, Z.del (upd J1 r o) r = Z.del J1 r := fun o => by
      funext b
      unfold Z.del
      by_cases c : b = r
      · rw [if_pos c, if_pos c]
      · rw [if_neg c, if_neg c, upd_ne c]
    exact q _ (SB.upd (s0.trans (Z.Same.sb s1))) ⟨dx, t, upd_same, by rw [ed]; exact ht.del (by rw [s1 _ _ e0]; rfl), hT⟩
end
end Z
set_option pp.maxSteps 700
set_option Elab.async false
set_option linter.all false
set_option maxRecDepth 100000
set_option maxHeartbeats 4000000
open SX (S S_inj S_len S_cat)
namespace Z
open Pk NdefX
open PySem PySem.Spec PyProof.Rows L2
open C8 (pss_cut tCut)
local macro_rules | `(tactic| walk_at "num") => `(tactic| first | rfl | omega | decide | exact Nat.le_of_lt (small1000 (by simp)) | exact ⟨by omega, by omega⟩ | exact ⟨by omega, by omega, by omega⟩ | exact ⟨by decide, by decide, by decide⟩ | exact Or.inl ⟨by omega, by omega⟩ | exact Or.inr ⟨by omega, by omega⟩)
local macro_rules | `(tactic| walk_at "go") => `(tactic| repeat (first | refine ⟨_, rfl, ?_⟩ | refine ⟨_, _, rfl, rfl, ?_⟩ | refine ⟨_, _, rfl, ?_⟩ | (refine ⟨_, _, rfl, rfl, ?_, ?_⟩; focus walk_at "num") | refine Or.inl ⟨_, rfl, ?_⟩ | refine ⟨_, _, _, _, rfl, rfl, (by assumption), (by rfl), ?_⟩ | refine ⟨_, _, _, _, _, rfl, (by assumption), (by assumption), (by assumption), (by rfl), ?_⟩ | refine ⟨rfl, ?_⟩ | (refine And.intro ?_ ?_; focus walk_at "num")))
abbrev s_Reader_read_pact : Stmt := inClass (topS 41) 2
abbrev N_Reader_read_pact : List Str := ["self", "parts"]
abbrev P_Reader_read_pact : List Str := ["self"]
theorem sc_Reader_read_pact : FnScope N_Reader_read_pact P_Reader_read_pact (defScope s_Reader_read_pact) := ⟨rfl, rfl, rfl, by decide +kernel, rfl, by decide +kernel, by decide +kernel⟩
abbrev s_Reader_read_part : Stmt := inClass (topS 41) 3
abbrev N_Reader_read_part : List Str := ["self", "kind", "count", "owner"]
abbrev P_Reader_read_part : List Str := ["self"]
theorem sc_Reader_read_part : FnScope N_Reader_read_part P_Reader_read_part (defScope s_Reader_read_part) := ⟨rfl, rfl, rfl, by decide +kernel, rfl, by decide +kernel, by decide +kernel⟩
abbrev s_Reader_read_body : Stmt := inClass (topS 41) 5
abbrev N_Reader_read_body : List Str := ["self", "opening", "closing", "body"]
abbrev P_Reader_read_body : List Str := ["self", "opening", "closing"]
theorem sc_Reader_read_body : FnScope N_Reader_read_body P_Reader_read_body (defScope s_Reader_read_body) := ⟨rfl, rfl, rfl, by decide +kernel, rfl, by decide +kernel, by decide +kernel⟩
abbrev s_Reader_read_options : Stmt := inClass (topS 41) 6
abbrev N_Reader_read_options : List Str := ["self", "options"]
abbrev P_Reader_read_options : List Str := ["self"]
theorem sc_Reader_read_options : FnScope N_Reader_read_options P_Reader_read_options (defScope s_Reader_read_options) := ⟨rfl, rfl, rfl, by decide +kernel, rfl, by decide +kernel, by decide +kernel⟩
/-- how a word may follow a pact -/
def Nc : List Wk → Prop
  | .sg c :: _ => c ≠ 44
  | [] => True
  | _ => False
theorem kd_ne {c : Nat} {ws : List Wk} (h : Nc ws) (hc : c = 44) : ¬ V.str (kdW ws) = V.str (S [c]) := fun z => by
  injection z with z
  subst hc
  match ws, h with
  | [], _ => exact absurd z (by decide)
  | .sg d :: _, h =>
    have := S_inj z
    injection this with this
    exact h this
section
variable {P : Program} {w : World} {K : PySem.W.Frag} {mg : Str → Option Value} {base : Heap} {f CR : Addr} {k : Cs} {fd : FuncData}
/-- a part of depth at most d -/
def spRpt (CR : Addr) (d : Nat) : Sp := fun vs H Q _ => ∃ (r : Addr) (T : List Nat) (p : Pt) (rest : List Wk) (n : Nat), vs = [.ref r] ∧ RdAt CR H r T (wds p ++ rest) n ∧ Ok p ∧ dp p ≤ d ∧ n + dp p ≤ 30 ∧ wt p ≤ 400 ∧ ∀ a H', SB r H H' → RdAt CR H' r T rest n → TdAt (tw H H') p a → Q (.ref a) H'
/-- a pact of depth at most d -/
def spRpc (CR : Addr) (d : Nat) : Sp := fun vs H Q _ => ∃ (r : Addr) (T : List Nat) (l : List Pt) (rest : List Wk) (n : Nat), vs = [.ref r] ∧ RdAt CR H r T (wB l ++ rest) n ∧ OkL l ∧ dpL l ≤ d ∧ n + dpL l ≤ 30 ∧ wtL l ≤ 400 ∧ Nc rest ∧ ∀ a H', SB r H H' → RdAt CR H' r T rest n → TaAt (tw H H') l a → Q (.ref a) H'
/-- a body in brackets -/
def spRbd (CR : Addr) (d : Nat) : Sp := fun vs H Q _ => ∃ (r : Addr) (T : List Nat) (o c : Nat) (l : List Pt) (rest : List Wk) (n : Nat), vs = [.ref r, .str (S [o]), .str (S [c])] ∧ c ≠ 44 ∧ RdAt CR H r T (.sg o :: (wB l ++ .sg c :: rest)) n ∧ OkL l ∧ dpL l ≤ d ∧ n + dpL l ≤ 29 ∧ wtL l ≤ 400 ∧ ∀ a H', SB r H H' → RdAt CR H' r T rest n → TaAt (tw H H') l a → Q (.ref a) H'
/-- the options of a choice -/
def spRos (CR : Addr) (d : Nat) : Sp := fun vs H Q _ => ∃ (r : Addr) (T : List Nat) (os : List (List Pt)) (rest : List Wk) (n : Nat), vs = [.ref r] ∧ RdAt CR H r T (.sg 40 :: (wO os ++ .sg 41 :: rest)) n ∧ OkLL os ∧ 2 ≤ os.length ∧ os.length ≤ 6 ∧ dpLL os ≤ d ∧ n + dpLL os ≤ 29 ∧ wtLL os ≤ 400 ∧ ∀ a as H', SB r H H' → RdAt CR H' r T rest n → tw H H' a = some (.lst (as.map V.ref)) → TasAt (tw H H') os as → Q (.ref a) H'
theorem ok_read_body {d : Nat} (F : FnM K "read_body" "Reader.read_body" s_Reader_read_body f fd) (rc : RdC K CR) (me_take : Met P w K mg base 5 CR "take" (spTk CR)) (me_read_opening : Met P w K mg base 6 CR "read_opening" (spRo CR)) (me_read_pact : Met P w K mg base (3 * d + 8) CR "read_pact" (spRpc CR d)) : FnOk P w K mg base CX0 (3 * d + 9) f fd P_Reader_read_body (spRbd CR d) := by
  refine F.ok sc_Reader_read_body (fun vs H Q E h => ?_) (fun cdv A outer s H vs Q E hr h => ?_)
  · obtain ⟨r, T, o, c, l, rest, n, rfl, _⟩ := h
    rfl
  · obtain ⟨r, T, o, c, l, rest, n, rfl, nc, rd, ok, hd, hn, hw, q⟩ := h
    obtain ⟨dy, t, er, _⟩ := id rd
    refine ⟨_, PSs.nox (pss_cons (ps_expr (pe_me me_read_opening (pv 0) hr (by omega) (pa_cons (pv 1) pa_nil)))
      (pss_cons (ps_set (i := 3) sc_Reader_read_body.nd rfl (by first | exact .inl rfl | exact .inr rfl) (pe_me0 me_read_pact (pv 0) hr (by omega)))
      (pss_cons (ps_expr (pe_me me_take (pv 0) hr (by omega) (pa_cons (pv 2) pa_nil)))
      (pss_cons (ps_fld (pv 0) (pe_op op_sub (pe_fld (pv 0) rfl) pe_int) rfl)
      (pss_one (ps_ret (pv 3))))))), ?_⟩
    walk_at "go"
    refine ⟨r, dy, _, rfl, er, rfl, ?_⟩
    walk_at "go"
    refine ⟨r, T, o, _, n, rfl, rd, by omega, fun v J1 s1 rd1 => ?_⟩
    obtain ⟨dy1, t1, er1, _⟩ := id rd1
    walk_at "go"
    refine ⟨r, dy1, _, rfl, er1, rfl, ?_⟩
    refine ⟨r, T, l, _, n + 1, rfl, rd1, ok, hd, by omega, hw, nc, fun a J2 s2 rd2 ha => ?_⟩
    obtain ⟨dy2, t2, er2, _⟩ := id rd2
    walk_at "go"
    refine ⟨r, dy2, _, rfl, er2, rfl, ?_⟩
    walk_at "go"
    refine ⟨r, T, .sg c :: rest, n + 1, rfl, rd2, fun v J3 s3 rd3 _ => ?_⟩
    obtain ⟨dy3, t3, er3, tk3, hT⟩ := rd3
    walk_at "go"
    refine ⟨r, CR, dy3, _, _, rfl, er3, rc.cls, rc.nn, rfl, ?_⟩
    walk_at "go"
    refine ⟨r, CR, dy3, _, rfl, er3, rc.cls, rc.nn, (show 3 < 1000 by decide), ?_⟩
    rw [show putF "nesting" ((fun i j => V.int (i - j)) ((n + 1 : Nat) : Int) 1) (rdF T t3 (n + 1)) = rdF T t3 n from by
      rw [show (fun i j => V.int (i - j)) ((n + 1 : Nat) : Int) 1 = V.int (n : Int) from congrArg V.int (by omega)]
      rfl]
    have ed : ∀ o, Z.del (upd J3 r o) r = Z.del J3 r := fun o => by
      funext b
      unfold Z.del
      by_cases c : b = r
      · rw [if_pos c, if_pos c]
      · rw [if_neg c, if_neg c, upd_ne c]
    have s23 : SB r J2 (upd J3 r (.ins CR dy3 (rdF T t3 n))) := SB.upd s3
    have s13 := (s1.trans s2).trans s23
    walk_at "go"
    refine q a _ s13 ⟨dy3, t3, upd_same, by rw [ed]; exact tk3, hT⟩ ?_
    exact (ha.mono (tw_trans (sb_nn s1 rd1.ne))).mono (tw_sb s23 rd.ne rd2.nt)
theorem ok_read_part {d : Nat} (F : FnM K "read_part" "Reader.read_part" s_Reader_read_part f fd) (rc : RdC K CR) (me_take : Met P w K mg base 5 CR "take" (spTk CR)) (me_read_body : Met P w K mg base (3 * d + 9) CR "read_body" (spRbd CR d)) (me_read_options : Met P w K mg base (3 * d + 9) CR "read_options" (spRos CR d)) : FnOk P w K mg base CX0 (3 * d + 10) f fd P_Reader_read_part (spRpt CR (d + 1)) := by
  refine F.ok sc_Reader_read_part (fun vs H Q E h => ?_) (fun cdv A outer s H vs Q E hr h => ?_)
  · obtain ⟨r, T, p, rest, n, rfl, _⟩ := h
    rfl
  · obtain ⟨r, T, p, rest, n, rfl, rd, ok, hd, hn, hw, q⟩ := h
    obtain ⟨dy, t, er, tk, hT⟩ := id rd
    obtain ⟨tv, ti, te, ht, -⟩ := id tk
    have ht' := del_same _ _ ht
    refine ⟨_, PSs.nox (pss_cons (ps_set (i := 1) sc_Reader_read_part.nd rfl (by first | exact .inl rfl | exact .inr rfl) (pe_ix ix_tup (pe_fld (pv 0) rfl) pe_int (fun _ _ => rfl)))
      (pss_cons (ps_if (PW.pt (pw_or (pt_cmpR op_eq (pv 1) pe_str (nomark _)) (pw_or1 (pt_cmpR op_eq (pv 1) pe_str (nomark _))))) (pss_one (ps_ret (pe_tup (pa_cons (pv 1) (pa_cons (pe_me me_take (pv 0) hr (by omega) (pa_cons (pv 1) pa_nil)) pa_nil))))) pss_nil)
      (pss_cons (ps_if (pt_cmpR op_eq (pv 1) pe_str (nomark _)) (pss_one (ps_ret (pe_tup (pa_cons pe_str (pa_cons (pe_me me_read_body (pv 0) hr (by omega) (pa_cons pe_str (pa_cons pe_str pa_nil))) pa_nil))))) pss_nil)
      (pss_cons (ps_if (pt_cmpR op_eq (pv 1) pe_str (nomark _)) (pss_cons (ps_set (i := 2) sc_Reader_read_part.nd rfl (by first | exact .inl rfl | exact .inr rfl) (pe_me me_take (pv 0) hr (by omega) (pa_cons pe_str pa_nil)))
      (pss_one (ps_ret (pe_tup (pa_cons pe_str (pa_cons (pv 2) (pa_cons (pe_me me_read_body (pv 0) hr (by omega) (pa_cons pe_str (pa_cons pe_str pa_nil))) pa_nil))))))) pss_nil)
      (pss_cons (ps_set (i := 3) sc_Reader_read_part.nd rfl (by first | exact .inl rfl | exact .inr rfl) (pe_me me_take (pv 0) hr (by omega) (pa_cons pe_str pa_nil)))
      (pss_cons (ps_if (pt_cmpR op_eq (pe_ix ix_tup (pe_fld (pv 0) rfl) pe_int (fun _ _ => rfl)) pe_str (nomark _)) (pss_one (ps_ret (pe_tup (pa_cons pe_str (pa_cons (pv 3) (pa_cons (pe_me me_read_body (pv 0) hr (by omega) (pa_cons pe_str (pa_cons pe_str pa_nil))) pa_nil)))))) pss_nil)
      (pss_one (ps_ret (pe_tup (pa_cons pe_str (pa_cons (pv 3) (pa_cons (pe_me0 me_read_options (pv 0) hr (by omega)) pa_nil)))))))))))), ?_⟩
    walk_at "go"
    refine ⟨r, CR, dy, _, _, rfl, er, rc.cls, rc.nt, rfl, ?_⟩
    walk_at "go"
    refine ⟨t, _, _, _, rfl, rfl, SqT.of ht', at_0, ?_⟩
    cases p with
    | tr p q0 m =>
      rw [wds] at rd tk
      rw [wds, show kdW ([Wk.tr p q0 m] ++ rest) = "transfer" from rfl]
      walk_at "go"
      refine ⟨r, dy, _, rfl, er, rfl, ?_⟩
      walk_at "go"
      refine ⟨r, T, [Wk.tr p q0 m] ++ rest, n, rfl, rd, fun v J1 s1 rd1 hv => ?_⟩
      obtain ⟨u, rfl, hu⟩ := hv
      walk_at "go"
      intro a na
      generalize eH_ : upd J1 a _ = J2
      have s2 : Same J1 J2 := by rw [← eH_]; exact same_new na
      have ea : J2 a = some (.tup [.str "transfer", .ref u]) := by rw [← eH_]; exact upd_same
      clear eH_
      refine q a J2 (s1.trans (Z.Same.sb s2)) (rd1.mono s2) ?_
      rw [TdAt]
      exact ⟨u, tw_of ea (.inl rfl), tw_of (s2 _ _ (del_same _ _ hu)) (.inl rfl)⟩
    | ev c =>
      rw [wds] at rd tk
      rw [wds, show kdW ([Wk.mk c] ++ rest) = "mark" from rfl]
      walk_at "go"
      refine ⟨r, dy, _, rfl, er, rfl, ?_⟩
      walk_at "go"
      refine ⟨r, T, [Wk.mk c] ++ rest, n, rfl, rd, fun v J1 s1 rd1 hv => ?_⟩
      obtain rfl : v = .str (S [c]) := hv
      walk_at "go"
      intro a na
      generalize eH_ : upd J1 a _ = J2
      have s2 : Same J1 J2 := by rw [← eH_]; exact same_new na
      have ea : J2 a = some (.tup [.str "mark", .str (S [c])]) := by rw [← eH_]; exact upd_same
      clear eH_
      refine q a J2 (s1.trans (Z.Same.sb s2)) (rd1.mono s2) ?_
      rw [TdAt]
      exact tw_of ea (.inl rfl)
    | en b =>
      rw [Ok] at ok
      rw [dp] at hd hn
      rw [wt] at hw
      rw [wds, List.cons_append, List.append_assoc] at rd tk
      rw [wds, show kdW (Wk.sg 91 :: (wB b ++ [Wk.sg 93]) ++ rest) = S [91] from rfl]
      walk_at "go"
      refine ⟨r, dy, _, rfl, er, rfl, ?_⟩
      walk_at "go"
      refine ⟨r, T, 91, 93, b, rest, n, rfl, by decide, rd, ok, by omega, by omega, by omega, fun L J1 s1 rd1 hL => ?_⟩
      walk_at "go"
      intro a na
      generalize eH_ : upd J1 a _ = J2
      have s2 : Same J1 J2 := by rw [← eH_]; exact same_new na
      have ea : J2 a = some (.tup [.str "endless", .ref L]) := by rw [← eH_]; exact upd_same
      clear eH_
      refine q a J2 (s1.trans (Z.Same.sb s2)) (rd1.mono s2) ?_
      obtain ⟨bs, h1, h2⟩ := hL.mono (tw_mono s2)
      rw [TdAt]
      exact ⟨L, bs, tw_of ea (.inl rfl), h1, h2⟩
    | ti c b =>
      rw [Ok] at ok
      rw [dp] at hd hn
      have hw2 : wtL b ≤ 400 := by
        rw [wt] at hw
        have h4 : wtL b ≤ wtL b * (if c < 1 then 1 else c) := Nat.le_mul_of_pos_right _ (by split <;> omega)
        omega
      rw [wds, List.cons_append, List.cons_append, List.append_assoc] at rd tk
      rw [wds, show kdW (Wk.ct c :: Wk.sg 40 :: (wB b ++ [Wk.sg 41]) ++ rest) = "count" from rfl]
      walk_at "go"
      refine ⟨r, dy, _, rfl, er, rfl, ?_⟩
      walk_at "go"
      refine ⟨r, T, _, n, rfl, rd, fun v J1 s1 rd1 hv => ?_⟩
      obtain rfl : v = .int (c : Int) := hv
      obtain ⟨dy1, t1, er1, _⟩ := id rd1
      walk_at "go"
      refine ⟨r, dy1, _, rfl, er1, rfl, ?_⟩
      walk_at "go"
      refine ⟨r, T, 40, 41, b, rest, n, rfl, by decide, rd1, ok.2, by omega, by omega, hw2, fun L J2 s2 rd2 hL => ?_⟩
      walk_at "go"
      intro a na
      generalize eH_ : upd J2 a _ = J3
      have s3 : Same J2 J3 := by rw [← eH_]; exact same_new na
      have ea : J3 a = some (.tup [.str "times", .int (c : Int), .ref L]) := by rw [← eH_]; exact upd_same
      clear eH_
      refine q a J3 ((s1.trans s2).trans (Z.Same.sb s3)) (rd2.mono s3) ?_
      obtain ⟨bs, h1, h2⟩ := (hL.mono (tw_trans (sb_nn s1 rd1.ne))).mono (tw_mono s3)
      rw [TdAt]
      exact ⟨L, bs, tw_of ea (.inl rfl), h1, h2⟩
    | rd o b =>
      rw [Ok] at ok
      rw [dp] at hd hn
      rw [wt] at hw
      rw [wds, List.cons_append, List.cons_append, List.append_assoc] at rd tk
      rw [wds, show kdW (Wk.ow o :: Wk.sg 91 :: (wB b ++ [Wk.sg 93]) ++ rest) = "owner" from rfl]
      walk_at "go"
      refine ⟨r, dy, _, rfl, er, rfl, ?_⟩
      walk_at "go"
      refine ⟨r, T, _, n, rfl, rd, fun v J1 s1 rd1 hv => ?_⟩
      obtain rfl : v = .str (S [o]) := hv
      obtain ⟨dy1, t1, er1, ⟨tv1, ti1, te1, ht1, _⟩, _⟩ := id rd1
      walk_at "go"
      refine ⟨r, CR, dy1, _, _, rfl, er1, rc.cls, rc.nt, rfl, ?_⟩
      walk_at "go"
      refine ⟨t1, _, _, _, rfl, rfl, SqT.of (del_same _ _ ht1), at_0, ?_⟩
      walk_at "go"
      refine ⟨r, dy1, _, rfl, er1, rfl, ?_⟩
      walk_at "go"
      refine ⟨r, T, 91, 93, b, rest, n, rfl, by decide, rd1, ok.2, by omega, by omega, by omega, fun L J2 s2 rd2 hL => ?_⟩
      walk_at "go"
      intro a na
      generalize eH_ : upd J2 a _ = J3
      have s3 : Same J2 J3 := by rw [← eH_]; exact same_new na
      have ea : J3 a = some (.tup [.str "rounds", .str (S [o]), .ref L]) := by rw [← eH_]; exact upd_same
      clear eH_
      refine q a J3 ((s1.trans s2).trans (Z.Same.sb s3)) (rd2.mono s3) ?_
      obtain ⟨bs, h1, h2⟩ := (hL.mono (tw_trans (sb_nn s1 rd1.ne))).mono (tw_mono s3)
      rw [TdAt]
      exact ⟨L, bs, tw_of ea (.inl rfl), h1, h2⟩
    | ch o os =>
      rw [Ok] at ok
      rw [dp] at hd hn
      rw [wt] at hw
      rw [wds, List.cons_append, List.cons_append, List.append_assoc] at rd tk
      rw [wds, show kdW (Wk.ow o :: Wk.sg 40 :: (wO os ++ [Wk.sg 41]) ++ rest) = "owner" from rfl]
      walk_at "go"
      refine ⟨r, dy, _, rfl, er, rfl, ?_⟩
      walk_at "go"
      refine ⟨r, T, _, n, rfl, rd, fun v J1 s1 rd1 hv => ?_⟩
      obtain rfl : v = .str (S [o]) := hv
      obtain ⟨dy1, t1, er1, ⟨tv1, ti1, te1, ht1, _⟩, _⟩ := id rd1
      walk_at "go"
      refine ⟨r, CR, dy1, _, _, rfl, er1, rc.cls, rc.nt, rfl, ?_⟩
      walk_at "go"
      refine ⟨t1, _, _, _, rfl, rfl, SqT.of (del_same _ _ ht1), at_0, ?_⟩
      walk_at "go"
      refine ⟨r, dy1, _, rfl, er1, rfl, ?_⟩
      walk_at "go"
      refine ⟨r, T, os, rest, n, rfl, rd1, ok.2.2.2, ok.2.1, ok.2.2.1, by omega, by omega, by omega, fun L as J2 s2 rd2 hL hos => ?_⟩
      walk_at "go"
      intro a na
      generalize eH_ : upd J2 a _ = J3
      have s3 : Same J2 J3 := by rw [← eH_]; exact same_new na
      have ea : J3 a = some (.tup [.str "choice", .str (S [o]), .ref L]) := by rw [← eH_]; exact upd_same
      clear eH_
      refine q a J3 ((s1.trans s2).trans (Z.Same.sb s3)) (rd2.mono s3) ?_
      have m : Same (tw J1 J2) (tw H J3) := (tw_trans (sb_nn s1 rd1.ne)).trans (tw_mono s3)
      rw [TdAt]
      exact ⟨L, as, tw_of ea (.inl rfl), m _ _ hL, hos.mono m⟩
/-- the kind at the token -/
theorem RdAt.kd {H : Hp} {r : Addr} {T : List Nat} {ws : List Wk} {n : Nat} (h : RdAt CR H r T ws n) : ∃ (dy t : Addr) (xs : List V), H r = some (.ins CR dy (rdF T t n)) ∧ H t = some (.tup (.str (kdW ws) :: xs)) := by
  obtain ⟨dy, t, er, ⟨tv, ti, te, ht, _⟩, _⟩ := h
  exact ⟨dy, t, _, er, del_same _ _ ht⟩
theorem ok_read_pact {d : Nat} (F : FnM K "read_pact" "Reader.read_pact" s_Reader_read_pact f fd) (rc : RdC K CR) (me_take : Met P w K mg base 5 CR "take" (spTk CR)) (me_read_part : Met P w K mg base (3 * d + 7) CR "read_part" (spRpt CR d)) : FnOk P w K mg base CX0 (3 * d + 8) f fd P_Reader_read_pact (spRpc CR d) := by
  refine F.ok sc_Reader_read_pact (fun vs H Q E h => ?_) (fun cdv A outer s H vs Q E hr h => ?_)
  · obtain ⟨r, T, l, rest, n, rfl, _⟩ := h
    rfl
  · obtain ⟨r, T, l, rest, n, rfl, rd, ok, hd, hn, hw, nc, q⟩ := h
    obtain ⟨dy, t, xs, er, ht⟩ := rd.kd
    refine ⟨_, PSs.nox (pss_cons (ps_if (pt_cmpR op_eq (pe_ix ix_tup (pe_fld (pv 0) rfl) pe_int (fun _ _ => rfl)) pe_str (nomark _)) (pss_cons (ps_expr (pe_me me_take (pv 0) hr (by omega) (pa_cons pe_str pa_nil)))
      (pss_one (ps_ret (pe_lst pa_nil)))) pss_nil)
      (pss_cons (ps_set (i := 1) sc_Reader_read_pact.nd rfl (by first | exact .inl rfl | exact .inr rfl) (pe_lst (pa_cons (pe_me0 me_read_part (pv 0) hr (by omega)) pa_nil)))
      (pss_cons (ps_while PassesOwn.never (pt_cmpR op_eq (pe_ix ix_tup (pe_fld (pv 0) rfl) pe_int (fun _ _ => rfl)) pe_str (nomark _))
        (pss_cons (ps_expr (pe_me me_take (pv 0) hr (by omega) (pa_cons pe_str pa_nil)))
      (pss_one (ps_expr (pe_bm PySem.F.plainAttrs_list PySem.F.slot_list_append PySem.F.type_list_append mt_append (pv 1) (pa_cons (pe_me0 me_read_part (pv 0) hr (by omega)) pa_nil))))))
      (pss_one (ps_ret (pv 1)))))), ?_⟩
    walk_at "go"
    refine ⟨r, CR, dy, _, _, rfl, er, rc.cls, rc.nt, rfl, ?_⟩
    walk_at "go"
    refine ⟨t, _, _, _, rfl, rfl, SqT.of ht, at_0, ?_⟩
    cases l with
    | nil =>
      rw [wB] at rd
      rw [wB, show kdW ([Wk.sg 46] ++ rest) = S [46] from rfl]
      walk_at "go"
      refine ⟨r, dy, _, rfl, er, rfl, ?_⟩
      walk_at "go"
      refine ⟨r, T, [Wk.sg 46] ++ rest, n, rfl, rd, fun v J1 s1 rd1 _ => ?_⟩
      walk_at "go"
      intro a na
      generalize eH_ : upd J1 a _ = J2
      have s2 : Same J1 J2 := by rw [← eH_]; exact same_new na
      have ea : J2 a = some (.lst []) := by rw [← eH_]; exact upd_same
      clear eH_
      refine q a J2 (s1.trans (Z.Same.sb s2)) (rd1.mono s2) ⟨[], tw_of ea (.inr (sb_nn s1 rd1.ne _ na)), by rw [TdsAt]⟩
    | cons p l =>
      rw [OkL] at ok
      rw [dpL] at hd hn
      rw [wtL] at hw
      rw [wB, List.append_assoc] at rd
      have hk : ¬ V.str (kdW (wds p ++ (wC l ++ rest))) = V.str (S [46]) := fun z => by
        injection z with z
        cases p with
        | tr p q0 m => rw [wds] at z; exact absurd (show ("transfer" : Str) = S [46] from z) (by decide)
        | ev c => rw [wds] at z; exact absurd (show ("mark" : Str) = S [46] from z) (by decide)
        | ch o os => rw [wds] at z; exact absurd (show ("owner" : Str) = S [46] from z) (by decide)
        | rd o b => rw [wds] at z; exact absurd (show ("owner" : Str) = S [46] from z) (by decide)
        | en b => rw [wds] at z; exact absurd (S_inj z) (by decide)
        | ti c b => rw [wds] at z; exact absurd (show ("count" : Str) = S [46] from z) (by decide)
      walk_at "go"
      rw [wB, List.append_assoc, decide_eq_false (show ¬ V.str (kdW (wds p ++ (wC l ++ rest))) = V.str "." from hk)]
      walk_at "go"
      refine ⟨r, dy, _, rfl, er, rfl, ?_⟩
      refine ⟨r, T, p, wC l ++ rest, n, rfl, rd, ok.1, by omega, by omega, by omega, fun a J1 s1 rd1 ha => ?_⟩
      walk_at "go"
      intro D nD
      generalize eH_ : upd J1 D _ = J2
      have s2 : Same J1 J2 := by rw [← eH_]; exact same_new nD
      have eD : J2 D = some (.lst [.ref a]) := by rw [← eH_]; exact upd_same
      clear eH_
      have nD0 : H D = none := sb_nn s1 rd1.ne _ nD
      have rD : r ≠ D := fun e => rd1.ne (e ▸ nD)
      walk_at "go"
      refine ⟨fun m σ J => ∃ (l1 l2 : List Pt) (as : List Addr), l = l1 ++ l2 ∧ m = l2.length ∧ SB r H J ∧ RdAt CR J r T (wC l2 ++ rest) n ∧ J D = some (.lst (as.map V.ref)) ∧ TdsAt (twD H D J) (p :: l1) as ∧ σ = [some (.ref r), some (.ref D)], ⟨_, [], l, [a], rfl, rfl, s1.trans (Z.Same.sb s2), rd1.mono s2, eD, ?_, rfl⟩, ?_⟩
      · rw [TdsAt]
        refine ⟨a, [], rfl, TdAt.mono (fun b o hb => ?_) p a ha, by rw [TdsAt]⟩
        obtain ⟨h1, h2⟩ := tw_some hb
        refine twD_of (s2 _ _ h1) (h2.imp id fun z => ⟨z, fun e => ?_⟩)
        rw [e, nD] at h1
        cases h1
      rintro m σ J ⟨l1, l2, as, rfl, rfl, sJ, rdJ, eJ, hT, rfl⟩
      obtain ⟨dyJ, tJ, xJ, erJ, htJ⟩ := rdJ.kd
      walk_at "go"
      refine ⟨r, CR, dyJ, _, _, rfl, erJ, rc.cls, rc.nt, rfl, ?_⟩
      walk_at "go"
      refine ⟨tJ, _, _, _, rfl, rfl, SqT.of htJ, at_0, ?_⟩
      cases l2 with
      | nil =>
        rw [wC, List.nil_append] at rdJ
        rw [wC, List.nil_append]
        walk_at "go"
        rw [decide_eq_false (show ¬ V.str (kdW rest) = V.str "," from kd_ne (c := 44) nc rfl)]
        walk_at "go"
        rw [List.append_nil] at q
        exact q D J sJ rdJ ⟨as, tw_of eJ (.inr nD0), hT.mono twD_tw⟩
      | cons p2 l2 =>
        rw [wC, List.cons_append, List.append_assoc] at rdJ
        rw [wC, show kdW (Wk.sg 44 :: (wds p2 ++ wC l2) ++ rest) = S [44] from rfl]
        walk_at "go"
        refine ⟨fun σ' J' => ∃ (l1' l2' : List Pt) (as : List Addr), l1 ++ p2 :: l2 = l1' ++ l2' ∧ l2'.length < (p2 :: l2).length ∧ SB r H J' ∧ RdAt CR J' r T (wC l2' ++ rest) n ∧ J' D = some (.lst (as.map V.ref)) ∧ TdsAt (twD H D J') (p :: l1') as ∧ σ' = [some (.ref r), some (.ref D)], fun σ' J' ⟨l1', l2', as', a1, a2, a3, a4, a5, a6, a7⟩ => ⟨l2'.length, a2, l1', l2', as', a1, rfl, a3, a4, a5, a6, a7⟩, ?_⟩
        walk_at "go"
        refine ⟨r, dyJ, _, rfl, erJ, rfl, ?_⟩
        walk_at "go"
        refine ⟨r, T, _, n, rfl, rdJ, fun v J3 s3 rd3 _ => ?_⟩
        obtain ⟨dy3, t3, x3, er3, ht3⟩ := rd3.kd
        walk_at "go"
        have eD3 : J3 D = some (.lst (as.map V.ref)) := s3 _ _ rD.symm eJ
        refine ⟨.inl ⟨rfl, _, SqL.of eD3⟩, ?_⟩
        walk_at "go"
        refine ⟨r, dy3, _, rfl, er3, rfl, ?_⟩
        have okL := okL_iff.mp ok.2 p2 (List.mem_append.mpr (.inr List.mem_cons_self))
        have dp2 := dpL_mem (show p2 ∈ l1 ++ p2 :: l2 from List.mem_append.mpr (.inr List.mem_cons_self))
        have wt2 := wtL_mem (show p2 ∈ l1 ++ p2 :: l2 from List.mem_append.mpr (.inr List.mem_cons_self))
        refine ⟨r, T, p2, wC l2 ++ rest, n, rfl, rd3, okL, by omega, by omega, by omega, fun a2 J4 s4 rd4 ha2 => ?_⟩
        have eD4 : J4 D = some (.lst (as.map V.ref)) := s4 _ _ rD.symm eD3
        have lT := hT.len
        have lw := len_wt (l1 ++ p2 :: l2)
        rw [List.length_cons] at lT
        rw [List.length_append, List.length_cons] at lw
        walk_at "go"
        refine ⟨D, _, _, rfl, rfl, eD4, Nat.lt_of_le_of_lt (show (as.map V.ref).length ≤ 1000 by rw [List.length_map]; omega) (by decide), ?_⟩
        rw [show as.map V.ref ++ [V.ref a2] = (as ++ [a2]).map V.ref by rw [List.map_append]; rfl]
        have nt4 : isTup (J4 D) = false := by rw [eD4]; rfl
        have sD : SB D J4 (upd J4 D (.lst ((as ++ [a2]).map V.ref))) := SB.upd (Z.Same.sb (Same.refl _))
        have eD5 : (upd J4 D (.lst ((as ++ [a2]).map V.ref))) D = some (.lst ((as ++ [a2]).map V.ref)) := upd_same
        have m45 : Same (twD H D J4) (twD H D (upd J4 D (.lst ((as ++ [a2]).map V.ref)))) := twD_upd nt4
        generalize upd J4 D (.lst ((as ++ [a2]).map V.ref)) = J5 at sD eD5 m45 ⊢
        walk_at "go"
        refine ⟨l1 ++ [p2], l2, as ++ [a2], by rw [List.append_assoc]; rfl, by rw [List.length_cons]; omega, fun b o n1 e1 => ?_, rd4.sb sD nt4 rD, eD5, ?_, rfl⟩
        · exact sD _ _ (fun e => by rw [e, nD0] at e1; cases e1) (s4 _ _ n1 (s3 _ _ n1 (sJ _ _ n1 e1)))
        · have s03 : SB r H J3 := sJ.trans s3
          have h1 := ((hT.mono (twD_sb s3 rd.ne rdJ.nt)).mono (twD_sb s4 rd.ne rd3.nt)).mono m45
          have h2 := (TdAt.mono (tw_tail (H := H) (D := D) (sb_nn s03 rd3.ne) (by rw [eD3]; exact fun z => by cases z)) p2 a2 ha2).mono m45
          exact tdsAt_snoc (p :: l1) as p2 a2 h1 h2
theorem ok_read_options {d : Nat} (F : FnM K "read_options" "Reader.read_options" s_Reader_read_options f fd) (rc : RdC K CR) (m_len : mg "len" = none) (tok_MOST_OPTIONS : Tok) (g_MOST_OPTIONS : mg "MOST_OPTIONS" = some (.int 6 tok_MOST_OPTIONS)) (me_take : Met P w K mg base 5 CR "take" (spTk CR)) (me_read_opening : Met P w K mg base 6 CR "read_opening" (spRo CR)) (me_read_pact : Met P w K mg base (3 * d + 8) CR "read_pact" (spRpc CR d)) : FnOk P w K mg base CX0 (3 * d + 9) f fd P_Reader_read_options (spRos CR d) := by
  refine F.ok sc_Reader_read_options (fun vs H Q E h => ?_) (fun cdv A outer s H vs Q E hr h => ?_)
  · obtain ⟨r, T, os, rest, n, rfl, _⟩ := h
    rfl
  · obtain ⟨r, T, os, rest, n, rfl, rd, ok, l2, l6, hd, hn, hw, q⟩ := h
    obtain ⟨dy, t, xs, er, ht⟩ := rd.kd
    refine ⟨_, PSs.nox (pss_cons (ps_expr (pe_me me_read_opening (pv 0) hr (by omega) (pa_cons pe_str pa_nil)))
      (pss_cons (ps_set (i := 1) sc_Reader_read_options.nd rfl (by first | exact .inl rfl | exact .inr rfl) (pe_lst (pa_cons (pe_me0 me_read_pact (pv 0) hr (by omega)) pa_nil)))
      (pss_cons (ps_while PassesOwn.never (PW.pt (pw_or (pt_cmpR op_lt (pe_callB call_len_seq (by rfl) m_len PySem.boot_len (pa_cons (pv 1) pa_nil)) pe_int (nomark _)) (pw_or1 (PW.pt (pw_and (pt_cmpR op_eq (pe_ix ix_tup (pe_fld (pv 0) rfl) pe_int (fun _ _ => rfl)) pe_str (nomark _)) (pw_and1 (pt_cmpR op_lt (pe_callB call_len_seq (by rfl) m_len PySem.boot_len (pa_cons (pv 1) pa_nil)) (pe_glob (v := .int 6) (by rfl) g_MOST_OPTIONS ⟨_, rfl⟩) (nomark _))))))))
        (pss_cons (ps_expr (pe_me me_take (pv 0) hr (by omega) (pa_cons pe_str pa_nil)))
      (pss_one (ps_expr (pe_bm PySem.F.plainAttrs_list PySem.F.slot_list_append PySem.F.type_list_append mt_append (pv 1) (pa_cons (pe_me0 me_read_pact (pv 0) hr (by omega)) pa_nil))))))
      (pss_cons (ps_expr (pe_me me_take (pv 0) hr (by omega) (pa_cons pe_str pa_nil)))
      (pss_cons (ps_fld (pv 0) (pe_op op_sub (pe_fld (pv 0) rfl) pe_int) rfl)
      (pss_one (ps_ret (pv 1)))))))), ?_⟩
    walk_at "go"
    refine ⟨r, dy, _, rfl, er, rfl, ?_⟩
    walk_at "go"
    refine ⟨r, T, 40, _, n, rfl, rd, by omega, fun v J0 s0 rd0 => ?_⟩
    obtain ⟨dy0, t0, x0, er0, ht0⟩ := rd0.kd
    walk_at "go"
    refine ⟨r, dy0, _, rfl, er0, rfl, ?_⟩
    cases os with
    | nil => exact absurd l2 (by decide)
    | cons b os =>
      rw [OkLL] at ok
      rw [dpLL] at hd hn
      rw [wtLL] at hw
      rw [wO, List.append_assoc] at rd0
      have nc : ∀ l : List (List Pt), Nc (wP l ++ Wk.sg 41 :: rest) := fun l => by
        cases l with
        | nil => rw [wP]; exact (by decide : (41 : Nat) ≠ 44)
        | cons c l => rw [wP]; exact (by decide : (124 : Nat) ≠ 44)
      refine ⟨r, T, b, wP os ++ Wk.sg 41 :: rest, n + 1, rfl, rd0, ok.1, by omega, by omega, by omega, nc os, fun a J1 s1 rd1 ha => ?_⟩
      walk_at "go"
      intro D nD
      generalize eH_ : upd J1 D _ = J2
      have s2 : Same J1 J2 := by rw [← eH_]; exact same_new nD
      have eD : J2 D = some (.lst [.ref a]) := by rw [← eH_]; exact upd_same
      clear eH_
      have s01 := s0.trans s1
      have nD0 : H D = none := sb_nn s01 rd1.ne _ nD
      have rD : r ≠ D := fun e => rd1.ne (e ▸ nD)
      walk_at "go"
      refine ⟨fun m σ J => ∃ (l1 l3 : List (List Pt)) (as : List Addr), os = l1 ++ l3 ∧ m = l3.length ∧ SB r H J ∧ RdAt CR J r T (wP l3 ++ Wk.sg 41 :: rest) (n + 1) ∧ J D = some (.lst (as.map V.ref)) ∧ TasAt (twD H D J) (b :: l1) as ∧ σ = [some (.ref r), some (.ref D)], ⟨_, [], os, [a], rfl, rfl, s01.trans (Z.Same.sb s2), rd1.mono s2, eD, ?_, rfl⟩, ?_⟩
      · rw [TasAt]
        refine ⟨a, [], rfl, TaAt.mono (fun z o hb => ?_) (ha.mono (tw_trans (sb_nn s0 rd0.ne))), by rw [TasAt]⟩
        obtain ⟨h1, h2⟩ := tw_some hb
        refine twD_of (s2 _ _ h1) (h2.imp id fun z => ⟨z, fun e => ?_⟩)
        rw [e, nD] at h1
        cases h1
      rintro m σ J ⟨l1, l3, as, rfl, rfl, sJ, rdJ, eJ, hT, rfl⟩
      obtain ⟨dyJ, tJ, xJ, erJ, htJ⟩ := rdJ.kd
      have lT := hT.len
      rw [List.length_cons] at lT l2 l6
      rw [List.length_append] at l2 l6
      have goOn : ∀ p2 l4, l3 = p2 :: l4 → RdAt CR J r T (Wk.sg 124 :: (wB p2 ++ (wP l4 ++ Wk.sg 41 :: rest))) (n + 1) → True := fun _ _ _ _ => True.intro
      walk_at "go"
      refine ⟨D, _, rfl, .inl (SqL.of eJ), ?_⟩
      rw [List.length_map, lT]
      walk_at "go"
      cases l3 with
      | nil =>
        rw [wP, List.nil_append] at rdJ
        rw [List.length_nil] at l2
        rw [decide_eq_false (show ¬ ((l1.length + 1 : Nat) : Int) < 2 by omega)]
        walk_at "go"
        refine ⟨r, CR, dyJ, _, _, rfl, erJ, rc.cls, rc.nt, rfl, ?_⟩
        walk_at "go"
        refine ⟨tJ, _, _, _, rfl, rfl, SqT.of htJ, at_0, ?_⟩
        rw [wP, List.nil_append, show kdW (Wk.sg 41 :: rest) = S [41] from rfl]
        walk_at "go"
        refine ⟨r, dyJ, _, rfl, erJ, rfl, ?_⟩
        walk_at "go"
        refine ⟨r, T, .sg 41 :: rest, n + 1, rfl, rdJ, fun v J3 s3 rd3 _ => ?_⟩
        obtain ⟨dy3, t3, er3, tk3, hTl⟩ := id rd3
        walk_at "go"
        refine ⟨r, CR, dy3, _, _, rfl, er3, rc.cls, rc.nn, rfl, ?_⟩
        walk_at "go"
        refine ⟨r, CR, dy3, _, rfl, er3, rc.cls, rc.nn, (show 3 < 1000 by decide), ?_⟩
        rw [show putF "nesting" ((fun i j => V.int (i - j)) ((n + 1 : Nat) : Int) 1) (rdF T t3 (n + 1)) = rdF T t3 n from by
          rw [show (fun i j => V.int (i - j)) ((n + 1 : Nat) : Int) 1 = V.int (n : Int) from congrArg V.int (by omega)]
          rfl]
        have ed : ∀ o, Z.del (upd J3 r o) r = Z.del J3 r := fun o => by
          funext b
          unfold Z.del
          by_cases c : b = r
          · rw [if_pos c, if_pos c]
          · rw [if_neg c, if_neg c, upd_ne c]
        have s23 : SB r J (upd J3 r (.ins CR dy3 (rdF T t3 n))) := SB.upd s3
        walk_at "go"
        have m := twD_sb (H := H) (D := D) s23 rd.ne rdJ.nt
        rw [List.append_nil] at q
        refine q D as _ (sJ.trans s23) ⟨dy3, t3, upd_same, by rw [ed]; exact tk3, hTl⟩ (tw_of (s23 _ _ rD.symm eJ) (.inr nD0)) ((hT.mono m).mono twD_tw)
      | cons p2 l3 =>
        rw [wP, List.cons_append, List.append_assoc] at rdJ
        rw [List.length_cons] at l2 l6
        by_cases c2 : l1.length + 1 < 2
        rotate_left
        rw [decide_eq_false (show ¬ ((l1.length + 1 : Nat) : Int) < 2 by omega)]
        walk_at "go"
        refine ⟨r, CR, dyJ, _, _, rfl, erJ, rc.cls, rc.nt, rfl, ?_⟩
        walk_at "go"
        refine ⟨tJ, _, _, _, rfl, rfl, SqT.of htJ, at_0, ?_⟩
        rw [wP, show kdW (Wk.sg 124 :: (wB p2 ++ wP l3) ++ Wk.sg 41 :: rest) = S [124] from rfl]
        walk_at "go"
        refine ⟨D, _, rfl, .inl (SqL.of eJ), ?_⟩
        rw [List.length_map, lT]
        walk_at "go"
        rw [decide_eq_true (show ((l1.length + 1 : Nat) : Int) < 6 by omega)]
        rotate_left
        rw [decide_eq_true (show ((l1.length + 1 : Nat) : Int) < 2 by omega)]
        walk_at "go"
        all_goals (
          refine ⟨fun σ' J' => ∃ (l1' l2' : List (List Pt)) (as : List Addr), l1 ++ p2 :: l3 = l1' ++ l2' ∧ l2'.length < (p2 :: l3).length ∧ SB r H J' ∧ RdAt CR J' r T (wP l2' ++ Wk.sg 41 :: rest) (n + 1) ∧ J' D = some (.lst (as.map V.ref)) ∧ TasAt (twD H D J') (b :: l1') as ∧ σ' = [some (.ref r), some (.ref D)], fun σ' J' ⟨l1', l2', as', a1, a2, a3, a4, a5, a6, a7⟩ => ⟨l2'.length, a2, l1', l2', as', a1, rfl, a3, a4, a5, a6, a7⟩, ?_⟩
          walk_at "go"
          refine ⟨r, dyJ, _, rfl, erJ, rfl, ?_⟩
          walk_at "go"
          refine ⟨r, T, _, n + 1, rfl, rdJ, fun v J3 s3 rd3 _ => ?_⟩
          obtain ⟨dy3, t3, x3, er3, ht3⟩ := rd3.kd
          have eD3 : J3 D = some (.lst (as.map V.ref)) := s3 _ _ rD.symm eJ
          walk_at "go"
          refine ⟨.inl ⟨rfl, _, SqL.of eD3⟩, ?_⟩
          walk_at "go"
          refine ⟨r, dy3, _, rfl, er3, rfl, ?_⟩
          have mem : p2 ∈ l1 ++ p2 :: l3 := List.mem_append.mpr (.inr List.mem_cons_self)
          have okL := okLL_iff.mp ok.2 p2 mem
          have dp2 := dpLL_mem mem
          have wt2 := wtLL_mem mem
          refine ⟨r, T, p2, wP l3 ++ Wk.sg 41 :: rest, n + 1, rfl, rd3, okL, by omega, by omega, by omega, nc l3, fun a2 J4 s4 rd4 ha2 => ?_⟩
          have eD4 : J4 D = some (.lst (as.map V.ref)) := s4 _ _ rD.symm eD3
          walk_at "go"
          refine ⟨D, _, _, rfl, rfl, eD4, Nat.lt_of_le_of_lt (show (as.map V.ref).length ≤ 1000 by rw [List.length_map]; omega) (by decide), ?_⟩
          rw [show as.map V.ref ++ [V.ref a2] = (as ++ [a2]).map V.ref by rw [List.map_append]; rfl]
          have nt4 : isTup (J4 D) = false := by rw [eD4]; rfl
          have sD : SB D J4 (upd J4 D (.lst ((as ++ [a2]).map V.ref))) := SB.upd (Z.Same.sb (Same.refl _))
          have eD5 : (upd J4 D (.lst ((as ++ [a2]).map V.ref))) D = some (.lst ((as ++ [a2]).map V.ref)) := upd_same
          have m45 : Same (twD H D J4) (twD H D (upd J4 D (.lst ((as ++ [a2]).map V.ref)))) := twD_upd nt4
          generalize upd J4 D (.lst ((as ++ [a2]).map V.ref)) = J5 at sD eD5 m45 ⊢
          walk_at "go"
          have s03 : SB r H J3 := sJ.trans s3
          refine ⟨l1 ++ [p2], l3, as ++ [a2], by rw [List.append_assoc]; rfl, by rw [List.length_cons]; omega, fun b o n1 e1 => sD _ _ (fun e => by rw [e, nD0] at e1; cases e1) (s4 _ _ n1 (s03 _ _ n1 e1)), rd4.sb sD nt4 rD, eD5, ?_, rfl⟩
          have h1 := ((hT.mono (twD_sb s3 rd.ne rdJ.nt)).mono (twD_sb s4 rd.ne rd3.nt)).mono m45
          have h2 := (ha2.mono (tw_tail (H := H) (D := D) (sb_nn s03 rd3.ne) (by rw [eD3]; exact fun z => by cases z))).mono m45
          exact tasAt_snoc (b :: l1) as p2 a2 h1 h2)
end
end Z
set_option pp.maxSteps 700
set_option Elab.async false
set_option linter.all false
set_option maxRecDepth 100000
set_option maxHeartbeats 4000000
open SX (S S_inj S_len S_cat)
namespace Z
open Pk NdefX
open PySem PySem.Spec PyProof.Rows L2
open C8 (pss_cut tCut)
local macro_rules | `(tactic| walk_at "num") => `(tactic| first | rfl | omega | decide | exact Nat.le_of_lt (small1000 (by simp)) | exact ⟨by omega, by omega⟩ | exact ⟨by omega, by omega, by omega⟩ | exact ⟨by decide, by decide, by decide⟩ | exact Or.inl ⟨by omega, by omega⟩ | exact Or.inr ⟨by omega, by omega⟩)
local macro_rules | `(tactic| walk_at "go") => `(tactic| repeat (first | refine ⟨_, rfl, ?_⟩ | refine ⟨_, _, rfl, rfl, ?_⟩ | refine ⟨_, _, rfl, ?_⟩ | (refine ⟨_, _, rfl, rfl, ?_, ?_⟩; focus walk_at "num") | refine Or.inl ⟨_, rfl, ?_⟩ | refine ⟨_, _, _, _, rfl, rfl, (by assumption), (by rfl), ?_⟩ | refine ⟨_, _, _, _, _, rfl, (by assumption), (by assumption), (by assumption), (by rfl), ?_⟩ | refine ⟨rfl, ?_⟩ | (refine And.intro ?_ ?_; focus walk_at "num")))
abbrev s_built : Stmt := topS 43
abbrev N_built : List Str := ["parts", "told"]
abbrev P_built : List Str := ["parts"]
theorem sc_built : FnScope N_built P_built (defScope s_built) := ⟨rfl, rfl, rfl, by decide +kernel, rfl, by decide +kernel, by decide +kernel⟩
abbrev s_built_part : Stmt := topS 42
abbrev N_built_part : List Str := ["told", "kind", "value", "payer", "payee", "amount", "body", "owner", "options", "option"]
abbrev P_built_part : List Str := ["told"]
theorem sc_built_part : FnScope N_built_part P_built_part (defScope s_built_part) := ⟨rfl, rfl, rfl, by decide +kernel, rfl, by decide +kernel, by decide +kernel⟩
abbrev s_parse_pact : Stmt := topS 44
abbrev N_parse_pact : List Str := ["text", "reader", "parts"]
abbrev P_parse_pact : List Str := ["text"]
theorem sc_parse_pact : FnScope N_parse_pact P_parse_pact (defScope s_parse_pact) := ⟨rfl, rfl, rfl, by decide +kernel, rfl, by decide +kernel, by decide +kernel⟩
section
variable {P : Program} {w : World} {K : PySem.W.Frag} {mg : Str → Option Value} {base : Heap} {f CR : Addr} {k : Cs} {fd : FuncData}
def spBu (k : Cs) (K : PySem.W.Frag) (d : Nat) : Sp := fun vs H Q _ => ∃ (L : Addr) (l : List Pt), vs = [.ref L] ∧ TaAt H l L ∧ OkL l ∧ wtL l ≤ 400 ∧ dpL l ≤ 30 ∧ dpL l + 1 ≤ d ∧ ∀ x H', Same H H' → H x = none → PaAt k K H' l x → Q (.ref x) H'
def spBup (k : Cs) (K : PySem.W.Frag) (d : Nat) : Sp := fun vs H Q _ => ∃ (a : Addr) (p : Pt), vs = [.ref a] ∧ TdAt H p a ∧ Ok p ∧ wt p ≤ 400 ∧ dp p ≤ 30 ∧ dp p ≤ d ∧ ∀ x H', Same H H' → H x = none → PtAt k K H' p x → Q (.ref x) H'
theorem ok_built {d : Nat} (F : FnP K "built" s_built f fd) (y_Pact : MakY P w K mg base 4 "Pact" (spP k K)) (c_built_part : Cal P w K mg base (2 * d + 7) "built_part" (spBup k K d)) : FnOk P w K mg base CX0 (2 * d + 8) f fd P_built (spBu k K (d + 1)) := by
  refine F.ok sc_built (fun vs H Q E h => ?_) (fun cdv A outer s H vs Q E hr h => ?_)
  · obtain ⟨L, l, rfl, _⟩ := h
    rfl
  · obtain ⟨L, l, rfl, ⟨bs, hL, hD⟩, ok, hw, hd, hd2, qq⟩ := h
    refine ⟨_, PSs.nox (pss_one (ps_ret (pe_mkY y_Pact (fun _ => passS0) hr (by omega) (by rfl) (pa_cons (pe_lc (own := [("told", 1)]) (g := (gName 1)) (tt := tYes) (by rfl) sc_built.nd (pi_list (pv 0)) (blkOk_by (own := [("told", 1)]) (N := N_built) (sc := defScope s_built) (by decide +kernel)) (fun _ _ _ _ _ => (pg_name (i := 1) sc_built.nd rfl (by first | exact .inl rfl | exact .inr rfl))) (fun _ _ _ _ _ => pts_nil) (fun _ _ _ _ _ => (pe_cl c_built_part hr (by omega) (by rfl) (pa_cons (pv 1) pa_nil)))) pa_nil)))), ?_⟩
    have lw := len_wt l
    have lb := TdsAt.len _ _ hD
    walk_at "go"
    refine ⟨⟨_, SqL.of hL⟩, ?_⟩
    intro D nD
    refine lc_relL (fun i J y => ∃ x p, y = .ref x ∧ l[i]? = some p ∧ PtAt k K J p x) (fun i X Y y s h => ?_) (SqL.of hL) (by rw [List.length_map]; omega) nD (fun x => rfl) (fun i x J Q4 ex s4 q4 => ?_) (fun J ys s4 eD ly hG => ?_)
    · obtain ⟨x, p, h1, h2, h3⟩ := h
      exact ⟨x, p, h1, h2, PtAt.monoW s _ _ h3⟩
    · obtain ⟨y, p, rfl, ep, hp⟩ := TdsAt.gets _ _ hD i x ex
      have pm := List.mem_of_getElem? ep
      have := wtL_mem pm
      have := dpL_mem pm
      walk_at "go"
      refine ⟨y, p, rfl, hp.mono s4, okL_iff.mp ok p pm, by omega, by omega, by omega, fun z J2 s2 _ hz => q4 _ _ s2 ⟨z, p, rfl, ep, hz⟩⟩
    obtain ⟨as, rfl⟩ := refs_of ys fun i y e => by
      obtain ⟨x, p, h1, _⟩ := hG i y e
      exact ⟨x, h1⟩
    rw [List.length_map, List.length_map, lb] at ly
    walk_at "go"
    refine ⟨true, D, l, as, rfl, ok, SqL.of eD, ptsAt_of l as ly fun i p a ep ea => ?_, hw, hd, fun x H' s5 hx hP => qq x H' (s4.trans s5) (Same.back s4 hx) hP⟩
    obtain ⟨x, p2, h1, h2, h3⟩ := hG i (.ref a) (by rw [List.getElem?_map, ea]; rfl)
    cases h1
    rw [ep] at h2
    cases h2
    exact h3
theorem ok_built_part {d : Nat} (F : FnP K "built_part" s_built_part f fd) (y_Transfer : MakY P w K mg base 5 "Transfer" (spT k K)) (y_Event : MakY P w K mg base 5 "Event" (spE k K)) (y_Choice : MakY P w K mg base 5 "Choice" (spC k K)) (y_Rounds : MakY P w K mg base 5 "Rounds" (spR k K)) (y_Endless : MakY P w K mg base 5 "Endless" (spN k K)) (y_Times : MakY P w K mg base 5 "Times" (spM k K)) (c_built : Cal P w K mg base (2 * d + 6) "built" (spBu k K d)) : FnOk P w K mg base CX0 (2 * d + 7) f fd P_built_part (spBup k K d) := by
  refine F.ok sc_built_part (fun vs H Q E h => ?_) (fun cdv A outer s H vs Q E hr h => ?_)
  · obtain ⟨a, p, rfl, _⟩ := h
    rfl
  · obtain ⟨a, p, rfl, hD, ok, hw, hd, hd2, qq⟩ := h
    refine ⟨_, PSs.nox (pss_cons (ps_match (pv 0) (mc_cons (is := [1, 2]) rfl sc_built_part.nd ⟨rfl, (by first | exact .inl rfl | exact .inr rfl), (by first | exact .inl rfl | exact .inr rfl), ⟨rfl, (by first | exact .inl rfl | exact .inr rfl), (by first | exact .inl rfl | exact .inr rfl), True.intro⟩⟩ (by decide) (pt_cmpR op_eq (pv 1) pe_str (nomark _)) (pss_cons (ps_asg (pv 2) (pg_tup rfl (pgs_cons (pg_name (i := 3) sc_built_part.nd rfl (by first | exact .inl rfl | exact .inr rfl)) (pgs_cons (pg_name (i := 4) sc_built_part.nd rfl (by first | exact .inl rfl | exact .inr rfl)) (pgs_cons (pg_name (i := 5) sc_built_part.nd rfl (by first | exact .inl rfl | exact .inr rfl)) pgs_nil)))))
      (pss_one (ps_ret (pe_mkY y_Transfer (fun _ => passS0) hr (by omega) (by rfl) (pa_cons (pv 3) (pa_cons (pv 4) (pa_cons (pv 5) pa_nil)))))))
        (mc_cons (is := [1, 2]) rfl sc_built_part.nd ⟨rfl, (by first | exact .inl rfl | exact .inr rfl), (by first | exact .inl rfl | exact .inr rfl), ⟨rfl, (by first | exact .inl rfl | exact .inr rfl), (by first | exact .inl rfl | exact .inr rfl), True.intro⟩⟩ (by decide) (pt_cmpR op_eq (pv 1) pe_str (nomark _)) (pss_one (ps_ret (pe_mkY y_Event (fun _ => passS0) hr (by omega) (by rfl) (pa_cons (pv 2) pa_nil))))
        (mc_cons (is := [1, 6]) rfl sc_built_part.nd ⟨rfl, (by first | exact .inl rfl | exact .inr rfl), (by first | exact .inl rfl | exact .inr rfl), ⟨rfl, (by first | exact .inl rfl | exact .inr rfl), (by first | exact .inl rfl | exact .inr rfl), True.intro⟩⟩ (by decide) (pt_cmpR op_eq (pv 1) pe_str (nomark _)) (pss_one (ps_ret (pe_mkY y_Endless (fun _ => passS0) hr (by omega) (by rfl) (pa_cons (pe_cl c_built hr (by omega) (by rfl) (pa_cons (pv 6) pa_nil)) pa_nil))))
        (mc_cons (is := [1, 7, 6]) rfl sc_built_part.nd ⟨rfl, (by first | exact .inl rfl | exact .inr rfl), (by first | exact .inl rfl | exact .inr rfl), ⟨rfl, (by first | exact .inl rfl | exact .inr rfl), (by first | exact .inl rfl | exact .inr rfl), ⟨rfl, (by first | exact .inl rfl | exact .inr rfl), (by first | exact .inl rfl | exact .inr rfl), True.intro⟩⟩⟩ (by decide) (pt_cmpR op_eq (pv 1) pe_str (nomark _)) (pss_one (ps_ret (pe_mkY y_Rounds (fun _ => passS0) hr (by omega) (by rfl) (pa_cons (pv 7) (pa_cons (pe_cl c_built hr (by omega) (by rfl) (pa_cons (pv 6) pa_nil)) pa_nil)))))
        (mc_cons (is := [1, 7, 8]) rfl sc_built_part.nd ⟨rfl, (by first | exact .inl rfl | exact .inr rfl), (by first | exact .inl rfl | exact .inr rfl), ⟨rfl, (by first | exact .inl rfl | exact .inr rfl), (by first | exact .inl rfl | exact .inr rfl), ⟨rfl, (by first | exact .inl rfl | exact .inr rfl), (by first | exact .inl rfl | exact .inr rfl), True.intro⟩⟩⟩ (by decide) (pt_cmpR op_eq (pv 1) pe_str (nomark _)) (pss_one (ps_ret (pe_mkY y_Choice (fun _ => passS0) hr (by omega) (by rfl) (pa_cons (pv 7) (pa_cons (pe_lc (own := [("option", 9)]) (g := (gName 9)) (tt := tYes) (by rfl) sc_built_part.nd (pi_list (pv 8)) (blkOk_by (own := [("option", 9)]) (N := N_built_part) (sc := defScope s_built_part) (by decide +kernel)) (fun _ _ _ _ _ => (pg_name (i := 9) sc_built_part.nd rfl (by first | exact .inl rfl | exact .inr rfl))) (fun _ _ _ _ _ => pts_nil) (fun _ _ _ _ _ => (pe_cl c_built hr (by omega) (by rfl) (pa_cons (pv 9) pa_nil)))) pa_nil)))))
        mc_nil))))))
      (pss_one (ps_ret (pe_mkY y_Times (fun _ => passS0) hr (by omega) (by rfl) (pa_cons (pe_ix ix_tup (pv 0) pe_int (fun _ _ => rfl)) (pa_cons (pe_cl c_built hr (by omega) (by rfl) (pa_cons (pe_ix ix_tup (pv 0) pe_int (fun _ _ => rfl)) pa_nil)) pa_nil)))))), ?_⟩
    match p, hD, ok, hw, hd, hd2, qq with
    | .tr p q m, hD, ok, hw, hd, hd2, qq =>
      rw [TdAt] at hD
      obtain ⟨u, hD, hu⟩ := hD
      walk_at "go"
      refine ⟨a, _, rfl, SqT.of hD, ?_⟩
      refine mc_hit rfl ?_
      walk_at "go"
      refine ⟨u, _, rfl, SqT.of hu, rfl, ?_⟩
      walk_at "go"
      exact ⟨p, q, m, rfl, ok, qq⟩
    | .ev c, hD, ok, hw, hd, hd2, qq =>
      rw [TdAt] at hD
      walk_at "go"
      refine ⟨a, _, rfl, SqT.of hD, ?_⟩
      refine mc_hit rfl ?_
      walk_at "go"
      refine ⟨SqT.of hD, mc_hit rfl ?_⟩
      walk_at "go"
      exact qq
    | .en b, hD, ok, hw, hd, hd2, qq =>
      rw [TdAt] at hD
      obtain ⟨L, as, hD, hL, hA⟩ := hD
      walk_at "go"
      refine ⟨a, _, rfl, SqT.of hD, ?_⟩
      refine mc_hit rfl ?_
      walk_at "go"
      refine ⟨SqT.of hD, mc_hit rfl ?_⟩
      walk_at "go"
      refine ⟨SqT.of hD, mc_hit rfl ?_⟩
      walk_at "go"
      rw [Ok] at ok
      rw [wt] at hw
      rw [dp] at hd hd2
      refine ⟨L, b, rfl, ⟨as, hL, hA⟩, ok, by omega, by omega, by omega, fun y H1 s1 ny hy => ?_⟩
      refine ⟨y, b, rfl, by rw [Ok]; exact ok, hy, by rw [wt]; exact hw, by rw [dp]; exact hd, fun x H2 s2 nx hx => qq x H2 (s1.trans s2) (Same.back s1 nx) hx⟩
    | .rd o b, hD, ok, hw, hd, hd2, qq =>
      rw [TdAt] at hD
      obtain ⟨L, as, hD, hL, hA⟩ := hD
      walk_at "go"
      refine ⟨a, _, rfl, SqT.of hD, ?_⟩
      refine mc_miss (show (3 : Nat) ≠ 2 by decide) (mc_miss (show (3 : Nat) ≠ 2 by decide) (mc_miss (show (3 : Nat) ≠ 2 by decide) (mc_hit rfl ?_)))
      walk_at "go"
      rw [Ok] at ok
      rw [wt] at hw
      rw [dp] at hd hd2
      refine ⟨L, b, rfl, ⟨as, hL, hA⟩, ok.2, by omega, by omega, by omega, fun y H1 s1 ny hy => ?_⟩
      refine ⟨y, o, b, rfl, by rw [Ok]; exact ok, hy, by rw [wt]; exact hw, by rw [dp]; exact hd, fun x H2 s2 nx hx => qq x H2 (s1.trans s2) (Same.back s1 nx) hx⟩
    | .ch o os, hD, ok, hw, hd, hd2, qq =>
      rw [TdAt] at hD
      obtain ⟨L, as, hD, hL, hA⟩ := hD
      walk_at "go"
      refine ⟨a, _, rfl, SqT.of hD, ?_⟩
      refine mc_miss (show (3 : Nat) ≠ 2 by decide) (mc_miss (show (3 : Nat) ≠ 2 by decide) (mc_miss (show (3 : Nat) ≠ 2 by decide) (mc_hit rfl ?_)))
      walk_at "go"
      refine ⟨SqT.of hD, mc_hit rfl ?_⟩
      walk_at "go"
      refine ⟨⟨_, SqL.of hL⟩, ?_⟩
      intro D nD
      have la := TasAt.len _ _ hA
      have okk := ok
      rw [Ok] at okk
      have hw2 := hw
      rw [wt] at hw2
      have hd3 := hd
      have hd4 := hd2
      rw [dp] at hd3 hd4
      refine lc_relL (fun i J y => ∃ x b, y = .ref x ∧ os[i]? = some b ∧ PaAt k K J b x) (fun i X Y y s h => ?_) (SqL.of hL) (by rw [List.length_map]; omega) nD (fun x => rfl) (fun i x J Q4 ex s4 q4 => ?_) (fun J ys s4 eD ly hG => ?_)
      · obtain ⟨x, p, h1, h2, h3⟩ := h
        exact ⟨x, p, h1, h2, PaAt.monoW s h3⟩
      · obtain ⟨y, b, rfl, ep, hp⟩ := TasAt.gets _ _ hA i x ex
        have pm := List.mem_of_getElem? ep
        have := wtLL_mem pm
        have := dpLL_mem pm
        walk_at "go"
        refine ⟨y, b, rfl, hp.mono s4, okLL_iff.mp okk.2.2.2 b pm, by omega, by omega, by omega, fun z J2 s2 _ hz => q4 _ _ s2 ⟨z, b, rfl, ep, hz⟩⟩
      obtain ⟨bs, rfl⟩ := refs_of ys fun i y e => by
        obtain ⟨x, p, h1, _⟩ := hG i y e
        exact ⟨x, h1⟩
      rw [List.length_map, List.length_map, la] at ly
      walk_at "go"
      refine ⟨true, D, o, os, bs, rfl, ok, SqL.of eD, pasAt_of os bs ly fun i p a ep ea => ?_, hw, hd, fun x H' s5 hx hP => qq x H' (s4.trans s5) (Same.back s4 hx) hP⟩
      obtain ⟨x, p2, h1, h2, h3⟩ := hG i (.ref a) (by rw [List.getElem?_map, ea]; rfl)
      cases h1
      rw [ep] at h2
      cases h2
      exact h3
    | .ti c b, hD, ok, hw, hd, hd2, qq =>
      rw [TdAt] at hD
      obtain ⟨L, as, hD, hL, hA⟩ := hD
      walk_at "go"
      refine ⟨a, _, rfl, SqT.of hD, ?_⟩
      refine mc_miss (show (3 : Nat) ≠ 2 by decide) (mc_miss (show (3 : Nat) ≠ 2 by decide) (mc_miss (show (3 : Nat) ≠ 2 by decide) (mc_hit rfl ?_)))
      walk_at "go"
      refine ⟨SqT.of hD, mc_hit rfl ?_⟩
      walk_at "go"
      refine ⟨SqT.of hD, ?_⟩
      walk_at "go"
      refine ⟨a, _, _, _, rfl, rfl, SqT.of hD, at_1, ?_⟩
      walk_at "go"
      refine ⟨a, _, _, _, rfl, rfl, SqT.of hD, at_2, ?_⟩
      walk_at "go"
      rw [Ok] at ok
      rw [wt] at hw
      rw [dp] at hd hd2
      have h4 : wtL b ≤ wtL b * (if c < 1 then 1 else c) := Nat.le_mul_of_pos_right _ (by split <;> omega)
      refine ⟨L, b, rfl, ⟨as, hL, hA⟩, ok.2, by omega, by omega, by omega, fun y H1 s1 ny hy => ?_⟩
      refine ⟨y, c, b, rfl, by rw [Ok]; exact ok, hy, by rw [wt]; exact hw, by rw [dp]; exact hd, fun x H2 s2 nx hx => qq x H2 (s1.trans s2) (Same.back s1 nx) hx⟩
/-- reading a written pact -/
def spPa (k : Cs) (K : PySem.W.Frag) : Sp := fun vs H Q _ => ∃ (T : List Nat) (l : List Pt), vs = [.str (S T)] ∧ T.length ≤ 1000000 ∧ Spl (wB l) T ∧ OkL l ∧ wtL l ≤ 400 ∧ dpL l ≤ 30 ∧ ∀ x H', Same H H' → H x = none → PaAt k K H' l x → Q (.ref x) H'
def spRn (CR : Addr) : Sp := fun vs H Q _ => ∃ (T : List Nat) (ws : List Wk), vs = [.str (S T)] ∧ T.length ≤ 1000000 ∧ Spl ws T ∧ Gw ws ∧ ∀ x H', Same H H' → H x = none → RdAt CR H' x T ws 0 → Q (.ref x) H'
theorem ok_parse_pact (F : FnP K "parse_pact" s_parse_pact f fd) (k_Reader : Mak P w K mg base 5 "Reader" (spRn CR)) (me_read_pact : Met P w K mg base 98 CR "read_pact" (spRpc CR 30)) (me_take : Met P w K mg base 5 CR "take" (spTk CR)) (c_built : Cal P w K mg base 68 "built" (spBu k K 31)) : FnOk P w K mg base CX0 100 f fd P_parse_pact (spPa k K) := by
  refine F.ok sc_parse_pact (fun vs H Q E h => ?_) (fun cdv A outer s H vs Q E hr h => ?_)
  · obtain ⟨T, l, rfl, _⟩ := h
    rfl
  · obtain ⟨T, l, rfl, hT, hs, ok, hw, hd, qq⟩ := h
    refine ⟨_, PSs.nox (pss_cons (ps_set (i := 1) sc_parse_pact.nd rfl (by first | exact .inl rfl | exact .inr rfl) (pe_mk k_Reader hr (by decide) (by rfl) (pa_cons (pv 0) pa_nil)))
      (pss_cons (ps_set (i := 2) sc_parse_pact.nd rfl (by first | exact .inl rfl | exact .inr rfl) (pe_me0 me_read_pact (pv 1) hr (by decide)))
      (pss_cons (ps_expr (pe_me me_take (pv 1) hr (by decide) (pa_cons pe_str pa_nil)))
      (pss_one (ps_ret (pe_cl c_built hr (by decide) (by rfl) (pa_cons (pv 2) pa_nil))))))), ?_⟩
    have g := gw_wB l [] ok True.intro True.intro
    rw [List.append_nil] at g
    walk_at "go"
    refine ⟨T, wB l, rfl, hT, hs, g, fun r J1 s1 nr rd => ?_⟩
    obtain ⟨dy, t, er, _⟩ := id rd
    walk_at "go"
    refine ⟨r, dy, _, rfl, er, rfl, ?_⟩
    rw [← List.append_nil (wB l)] at rd
    refine ⟨r, T, l, [], 0, rfl, rd, ok, hd, by omega, hw, True.intro, fun a J2 s2 rd2 ha => ?_⟩
    obtain ⟨dy2, t2, er2, _⟩ := id rd2
    walk_at "go"
    refine ⟨r, dy2, _, rfl, er2, rfl, ?_⟩
    walk_at "go"
    refine ⟨r, T, [], 0, rfl, rd2, fun v J3 s3 rd3 _ => ?_⟩
    have hL : TaAt J3 l a := (ha.mono (fun b o e => by
      obtain ⟨e1, e2⟩ := tw_some e
      exact s3 _ _ (fun z => by
        rcases e2 with y | y
        · rw [z] at e1; rw [← e1, rd2.nt] at y; cases y
        · rw [z] at y; exact rd.ne y) e1))
    walk_at "go"
    have s13 : Same H J3 := fun b o e => (s2.trans s3) _ _ (fun z => by rw [z, nr] at e; cases e) (s1 _ _ e)
    exact ⟨a, l, rfl, hL, ok, hw, hd, by omega, fun x H' s4 nx hx => qq x H' (s13.trans s4) (Same.back s13 nx) hx⟩
end
end Z
set_option pp.maxSteps 700
set_option Elab.async false
set_option linter.all false
set_option maxRecDepth 100000
set_option maxHeartbeats 4000000
open SX (S S_inj S_len S_cat)
namespace Z
open Pk NdefX
open PySem PySem.Spec PyProof.Rows L2
open C8 (pss_cut tCut)
local macro_rules | `(tactic| walk_at "num") => `(tactic| first | rfl | omega | decide | exact Nat.le_of_lt (small1000 (by simp)) | exact ⟨by omega, by omega⟩ | exact ⟨by omega, by omega, by omega⟩ | exact ⟨by decide, by decide, by decide⟩ | exact Or.inl ⟨by omega, by omega⟩ | exact Or.inr ⟨by omega, by omega⟩)
local macro_rules | `(tactic| walk_at "go") => `(tactic| repeat (first | refine ⟨_, rfl, ?_⟩ | refine ⟨_, _, rfl, rfl, ?_⟩ | refine ⟨_, _, rfl, ?_⟩ | (refine ⟨_, _, rfl, rfl, ?_, ?_⟩; focus walk_at "num") | refine Or.inl ⟨_, rfl, ?_⟩ | refine ⟨_, _, _, _, rfl, rfl, (by assumption), (by rfl), ?_⟩ | refine ⟨_, _, _, _, _, rfl, (by assumption), (by assumption), (by assumption), (by rfl), ?_⟩ | refine ⟨rfl, ?_⟩ | (refine And.intro ?_ ?_; focus walk_at "num")))
abbrev s_weight : Stmt := topS 53
abbrev N_weight : List Str := ["_law_pact_here", "_law_part_here"]
abbrev P_weight : List Str := ["_law_pact_here"]
theorem sc_weight : FnScope N_weight P_weight (defScope s_weight) := ⟨rfl, rfl, rfl, by decide +kernel, rfl, by decide +kernel, by decide +kernel⟩
abbrev s_part_weight : Stmt := topS 54
abbrev N_part_weight : List Str := ["_law_part_here", "_law_option"]
abbrev P_part_weight : List Str := ["_law_part_here"]
theorem sc_part_weight : FnScope N_part_weight P_part_weight (defScope s_part_weight) := ⟨rfl, rfl, rfl, by decide +kernel, rfl, by decide +kernel, by decide +kernel⟩
abbrev s_cut : Stmt := topS 57
abbrev N_cut : List Str := ["_law_pact_here", "_law_limit", "_law_kept", "_law_part_here"]
abbrev P_cut : List Str := ["_law_pact_here", "_law_limit"]
theorem sc_cut : FnScope N_cut P_cut (defScope s_cut) := ⟨rfl, rfl, rfl, by decide +kernel, rfl, by decide +kernel, by decide +kernel⟩
section
variable {P : Program} {w : World} {K : PySem.W.Frag} {mg : Str → Option Value} {base : Heap} {f : Addr} {k : Cs} {fd : FuncData}
def spWl (d : Nat) : Sp := fun vs H Q _ => ∃ (L : Addr) (l : List Pt), vs = [.ref L] ∧ DaAt H l L ∧ OkL l ∧ wtL l ≤ 1000000 ∧ dpL l + 1 ≤ d ∧ ∀ H', Same H H' → Q (.int (wtL l : Int)) H'
def spWp (d : Nat) : Sp := fun vs H Q _ => ∃ (a : Addr) (p : Pt), vs = [.ref a] ∧ DtAt H p a ∧ Ok p ∧ wt p ≤ 1000000 ∧ dp p ≤ d ∧ ∀ H', Same H H' → Q (.int (wt p : Int)) H'
theorem ok_weight {d : Nat} (F : FnP K "_law_weight" s_weight f fd) (m_sum : mg "sum" = none) (c_part_weight : Cal P w K mg base (2 * d + 7) "_law_part_weight" (spWp d)) : FnOk P w K mg base CX0 (2 * d + 8) f fd P_weight (spWl (d + 1)) := by
  refine F.ok sc_weight (fun vs H Q E h => ?_) (fun cdv A outer s H vs Q E hr h => ?_)
  · obtain ⟨L, l, rfl, _⟩ := h
    rfl
  · obtain ⟨L, l, rfl, ⟨bs, hL, hD⟩, ok, hw, hd, qq⟩ := h
    refine ⟨_, PSs.nox (pss_one (ps_ret (pe_callB (cr_sum rfl) (by rfl) m_sum (by decide +kernel) (pa_cons (pe_lc (own := [("_law_part_here", 1)]) (g := (gName 1)) (tt := tYes) (by rfl) sc_weight.nd (pi_list (pv 0)) (blkOk_by (own := [("_law_part_here", 1)]) (N := N_weight) (sc := defScope s_weight) (by decide +kernel)) (fun _ _ _ _ _ => (pg_name (i := 1) sc_weight.nd rfl (by first | exact .inl rfl | exact .inr rfl))) (fun _ _ _ _ _ => pts_nil) (fun _ _ _ _ _ => (pe_cl c_part_weight hr (by omega) (by rfl) (pa_cons (pv 1) pa_nil)))) pa_nil)))), ?_⟩
    have lw := len_wt l
    have lb := DtsAt.len _ _ hD
    walk_at "go"
    refine ⟨⟨_, SqL.of hL⟩, ?_⟩
    intro D nD
    refine lc_vsL (SqL.of hL) (l.map fun p => .int (wt p : Int)) (by rw [List.length_map, List.length_map, lb]) (by rw [List.length_map]; omega) nD (fun x => rfl) (fun i x y J Q4 ex ey s4 q4 => ?_) (fun J s4 eD => ?_)
    · obtain ⟨y2, p, rfl, ep, hp⟩ := DtsAt.gets _ _ hD i x ex
      rw [List.getElem?_map, ep] at ey
      cases ey
      have pm := List.mem_of_getElem? ep
      have := wtL_mem pm
      have := dpL_mem pm
      walk_at "go"
      exact ⟨y2, p, rfl, hp.mono s4, okL_iff.mp ok p pm, by omega, by omega, fun J2 s2 => q4 _ s2⟩
    walk_at "go"
    refine ⟨D, l.map fun p => (wt p : Int), rfl, SqL.of (by rw [List.map_map]; exact eD), ?_⟩
    rw [isum, ← wtL_sum]
    exact qq _ s4
theorem ok_part_weight {d : Nat} (F : FnP K "_law_part_weight" s_part_weight f fd) (m_sum : mg "sum" = none) (m_max : mg "max" = none) (c_weight : Cal P w K mg base (2 * d + 6) "_law_weight" (spWl d)) : FnOk P w K mg base CX0 (2 * d + 7) f fd P_part_weight (spWp d) := by
  refine F.ok sc_part_weight (fun vs H Q E h => ?_) (fun cdv A outer s H vs Q E hr h => ?_)
  · obtain ⟨a, p, rfl, _⟩ := h
    rfl
  · obtain ⟨a, p, rfl, hD, ok, hw, hd, qq⟩ := h
    refine ⟨_, PSs.nox (pss_cons (ps_if (PW.pt (pw_or (pt_cmpR op_eq (pe_ix ix_tup (pv 0) pe_int (fun _ _ => rfl)) pe_str (nomark _)) (pw_or1 (pt_cmpR op_eq (pe_ix ix_tup (pv 0) pe_int (fun _ _ => rfl)) pe_str (nomark _))))) (pss_one (ps_ret pe_int)) pss_nil)
      (pss_cons (ps_if (pt_cmpR op_eq (pe_ix ix_tup (pv 0) pe_int (fun _ _ => rfl)) pe_str (nomark _)) (pss_one (ps_ret (pe_op op_add pe_int (pe_callB (cr_sum rfl) (by rfl) m_sum (by decide +kernel) (pa_cons (pe_lc (own := [("_law_option", 1)]) (g := (gName 1)) (tt := tYes) (by rfl) sc_part_weight.nd (pi_list (pe_ix ix_tup (pv 0) pe_int (fun _ _ => rfl))) (blkOk_by (own := [("_law_option", 1)]) (N := N_part_weight) (sc := defScope s_part_weight) (by decide +kernel)) (fun _ _ _ _ _ => (pg_name (i := 1) sc_part_weight.nd rfl (by first | exact .inl rfl | exact .inr rfl))) (fun _ _ _ _ _ => pts_nil) (fun _ _ _ _ _ => (pe_cl c_weight hr (by omega) (by rfl) (pa_cons (pv 1) pa_nil)))) pa_nil))))) pss_nil)
      (pss_cons (ps_if (pt_cmpR op_eq (pe_ix ix_tup (pv 0) pe_int (fun _ _ => rfl)) pe_str (nomark _)) (pss_one (ps_ret (pe_op op_add pe_int (pe_op op_mul (pe_callB (call_max2 rfl) (by rfl) m_max (by decide +kernel) (pa_cons pe_int (pa_cons (pe_ix ix_tup (pv 0) pe_int (fun _ _ => rfl)) pa_nil))) (pe_cl c_weight hr (by omega) (by rfl) (pa_cons (pe_ix ix_tup (pv 0) pe_int (fun _ _ => rfl)) pa_nil)))))) pss_nil)
      (pss_cons (ps_if (pt_cmpR op_eq (pe_ix ix_tup (pv 0) pe_int (fun _ _ => rfl)) pe_str (nomark _)) (pss_one (ps_ret (pe_op op_add pe_int (pe_cl c_weight hr (by omega) (by rfl) (pa_cons (pe_ix ix_tup (pv 0) pe_int (fun _ _ => rfl)) pa_nil))))) pss_nil)
      (pss_one (ps_ret (pe_op op_add pe_int (pe_cl c_weight hr (by omega) (by rfl) (pa_cons (pe_ix ix_tup (pv 0) pe_int (fun _ _ => rfl)) pa_nil))))))))), ?_⟩
    match p, hD, ok, hw, hd, qq with
    | .tr p q m, hD, ok, hw, hd, qq =>
      rw [DtAt] at hD
      have hT : SqT K H a _ := SqT.of hD
      rw [wt] at qq
      walk_at "go"
      exact qq _ (Same.refl _)
    | .ev c, hD, ok, hw, hd, qq =>
      rw [DtAt] at hD
      have hT : SqT K H a _ := SqT.of hD
      rw [wt] at qq
      walk_at "go"
      exact qq _ (Same.refl _)
    | .ch o os, hD, ok, hw, hd, qq =>
      rw [DtAt] at hD
      obtain ⟨L, as, hD, hL, hA⟩ := hD
      have hT : SqT K H a _ := SqT.of hD
      rw [wt] at hw qq
      rw [dp] at hd
      have la := DasAt.len _ _ hA
      rw [Ok] at ok
      walk_at "go"
      refine ⟨⟨_, SqL.of hL⟩, ?_⟩
      intro D nD
      refine lc_vsL (SqL.of hL) (os.map fun p => .int (wtL p : Int)) (by rw [List.length_map, List.length_map, la]) (by rw [List.length_map]; omega) nD (fun x => rfl) (fun i x y J Q4 ex ey s4 q4 => ?_) (fun J s4 eD => ?_)
      · obtain ⟨y2, p, rfl, ep, hp⟩ := DasAt.gets _ _ hA i x ex
        rw [List.getElem?_map, ep] at ey
        cases ey
        have pm := List.mem_of_getElem? ep
        have := wtLL_mem pm
        have := dpLL_mem pm
        walk_at "go"
        exact ⟨y2, p, rfl, hp.mono s4, okLL_iff.mp ok.2.2.2 p pm, by omega, by omega, fun J2 s2 => q4 _ s2⟩
      walk_at "go"
      refine ⟨D, os.map fun p => (wtL p : Int), rfl, SqL.of (by rw [List.map_map]; exact eD), ?_⟩
      rw [isum, ← wtLL_sum]
      walk_at "go"
      show Q (V.int (1 + (wtLL os : Int))) J
      rw [show 1 + (wtLL os : Int) = ((1 + wtLL os : Nat) : Int) by omega]
      exact qq _ s4
    | .rd o b, hD, ok, hw, hd, qq =>
      rw [DtAt] at hD
      obtain ⟨L, as, hD, hL, hA⟩ := hD
      have hT : SqT K H a _ := SqT.of hD
      rw [wt] at hw qq
      rw [dp] at hd
      rw [Ok] at ok
      walk_at "go"
      refine ⟨L, b, rfl, ⟨as, hL, hA⟩, ok.2, by omega, by omega, fun H1 s1 => ?_⟩
      walk_at "go"
      show Q (V.int (1 + (wtL b : Int))) H1
      rw [show 1 + (wtL b : Int) = ((wtL b + 1 : Nat) : Int) by omega]
      exact qq _ s1
    | .en b, hD, ok, hw, hd, qq =>
      rw [DtAt] at hD
      obtain ⟨L, as, hD, hL, hA⟩ := hD
      have hT : SqT K H a _ := SqT.of hD
      rw [wt] at hw qq
      rw [dp] at hd
      rw [Ok] at ok
      walk_at "go"
      refine ⟨L, b, rfl, ⟨as, hL, hA⟩, ok, by omega, by omega, fun H1 s1 => ?_⟩
      walk_at "go"
      show Q (V.int (1 + (wtL b : Int))) H1
      rw [show 1 + (wtL b : Int) = ((wtL b + 1 : Nat) : Int) by omega]
      exact qq _ s1
    | .ti c b, hD, ok, hw, hd, qq =>
      rw [DtAt] at hD
      obtain ⟨L, as, hD, hL, hA⟩ := hD
      have hT : SqT K H a _ := SqT.of hD
      rw [wt] at hw qq
      rw [dp] at hd
      rw [Ok] at ok
      have h4 : wtL b ≤ wtL b * (if c < 1 then 1 else c) := Nat.le_mul_of_pos_right _ (by split <;> omega)
      walk_at "go"
      refine ⟨L, b, rfl, ⟨as, hL, hA⟩, ok.2, by omega, by omega, fun H1 s1 => ?_⟩
      obtain ⟨z, hz⟩ : ∃ z : Nat, z = if c < 1 then 1 else c := ⟨_, rfl⟩
      have hz2 : (if (c : Int) > 1 then (c : Int) else 1) = (z : Int) := by
        rw [hz]
        by_cases c1 : c < 1
        · rw [if_pos c1, if_neg (by omega)]
          rfl
        · rw [if_neg c1]
          by_cases c2 : (c : Int) > 1
          · rw [if_pos c2]
          · rw [if_neg c2]
            omega
      have zl : z ≤ 100 := by rw [hz]; split <;> omega
      rw [hz2]
      rw [← hz] at qq
      refine ⟨_, _, rfl, rfl, .inl ⟨by omega, by omega⟩, ?_⟩
      walk_at "go"
      show Q (V.int (1 + (z : Int) * (wtL b : Int))) H1
      rw [show 1 + (z : Int) * (wtL b : Int) = ((wtL b * z + 1 : Nat) : Int) by rw [Nat.mul_comm]; push_cast; omega]
      exact qq _ s1
def spCut (d : Nat) : Sp := fun vs H Q _ => ∃ (L : Addr) (l : List Pt) (n : Nat), vs = [.ref L, .int (n : Int)] ∧ DaAt H l L ∧ OkL l ∧ wtL l ≤ 1000000 ∧ dpL l + 1 ≤ d ∧ ∀ (D : Addr) (m : List Pt) (bs : List Addr) H', Same H H' → H D = none → H' D = some (.lst (bs.map V.ref)) → DtsAt H m bs → OkL m → wtL m ≤ n → dpL m ≤ dpL l → m.length ≤ l.length → (∀ p ∈ m, p ∈ l) → Q (.ref D) H'
theorem ok_cut {d : Nat} (F : FnP K "_law_cut" s_cut f fd) (c_weight : Cal P w K mg base (2 * d + 6) "_law_weight" (spWl d)) (c_part_weight : Cal P w K mg base (2 * d + 7) "_law_part_weight" (spWp d)) : FnOk P w K mg base CX0 (2 * d + 8) f fd P_cut (spCut d) := by
  refine F.ok sc_cut (fun vs H Q E h => ?_) (fun cdv A outer s H vs Q E hr h => ?_)
  · obtain ⟨L, l, n, rfl, _⟩ := h
    rfl
  · obtain ⟨L, l, n, rfl, ⟨as, hL, hD⟩, ok, hw, hd, qq⟩ := h
    refine ⟨_, PSs.nox (pss_cons (ps_set (i := 2) sc_cut.nd rfl (by first | exact .inl rfl | exact .inr rfl) (pe_lst pa_nil))
      (pss_cons (ps_for PassesOwn.never rfl (pi_list (pv 0)) (pg_name (i := 3) sc_cut.nd rfl (by first | exact .inl rfl | exact .inr rfl))
        (pss_one (ps_if (pt_cmpR op_le (pe_op op_add (pe_cl c_weight hr (by omega) (by rfl) (pa_cons (pv 2) pa_nil)) (pe_cl c_part_weight hr (by omega) (by rfl) (pa_cons (pv 3) pa_nil))) (pv 1) (nomark _)) (pss_one (ps_expr (pe_bm PySem.F.plainAttrs_list PySem.F.slot_list_append PySem.F.type_list_append mt_append (pv 2) (pa_cons (pv 3) pa_nil)))) pss_nil)))
      (pss_one (ps_ret (pv 2))))), ?_⟩
    have lw := len_wt l
    have lb := DtsAt.len _ _ hD
    walk_at "go"
    intro D nD
    walk_at "go"
    refine ⟨⟨_, SqL.of (same_new nD _ _ hL)⟩, ?_⟩
    refine for_vs (SqL.of hL) (fun i σ J => Same H J ∧ ∃ (m : List Pt) (bs : List Addr) (v : Option V), J D = some (.lst (bs.map V.ref)) ∧ DtsAt H m bs ∧ OkL m ∧ (0 < m.length → wtL m ≤ n) ∧ wtL m ≤ wtL (l.take i) ∧ dpL m ≤ dpL l ∧ m.length ≤ i ∧ (∀ p ∈ m, p ∈ l) ∧ σ = [some (.ref L), some (.int (n : Int)), some (.ref D), v]) ⟨same_new nD, [], [], none, upd_same, by rw [DtsAt], by rw [OkL]; trivial, fun h => absurd h (Nat.lt_irrefl _), Nat.zero_le _, Nat.zero_le _, Nat.le_refl _, (fun p hp => absurd hp List.not_mem_nil), rfl⟩ (fun i σ J h => h.1) (fun i x σ J ex h => ?_) (fun σ J h => ?_)
    · obtain ⟨s1, m, bs, v, eD, hm, okm, hwm, hwm2, hdm, lm, hml, rfl⟩ := h
      obtain ⟨y, p, rfl, ep, hp⟩ := DtsAt.gets _ _ hD i x ex
      have pm := List.mem_of_getElem? ep
      have wp := wtL_mem pm
      have dpp := dpL_mem pm
      have okp := okL_iff.mp ok p pm
      have li := (List.getElem?_eq_some_iff.mp ep).1
      have et : wtL (l.take (i + 1)) = wtL (l.take i) + wt p := by
        rw [List.take_add_one, ep, wtL_app]
        show _ + wtL [p] = _
        rw [wtL, wtL, Nat.add_zero]
      have tl : wtL (l.take i) + wt p ≤ wtL l := by
        have : wtL l = wtL (l.take (i + 1)) + wtL (l.drop (i + 1)) := by rw [← wtL_app, List.take_append_drop]
        omega
      walk_at "go"
      refine ⟨D, m, rfl, ⟨bs, eD, hm.mono s1⟩, okm, by omega, by omega, fun J2 s2 => ?_⟩
      walk_at "go"
      refine ⟨y, p, rfl, hp.mono (s1.trans s2), okp, by omega, by omega, fun J3 s3 => ?_⟩
      walk_at "go"
      have s123 := (s1.trans s2).trans s3
      have eD3 := s3 _ _ (s2 _ _ eD)
      refine ite2 (fun e => ?_) (fun e => ?_)
      · have e := of_decide_eq_true e
        walk_at "go"
        refine ⟨.inl ⟨rfl, _, SqL.of eD3⟩, ?_⟩
        walk_at "go"
        refine ⟨D, _, _, rfl, rfl, eD3, Nat.lt_of_le_of_lt (show (bs.map V.ref).length ≤ 1000000 by rw [List.length_map, DtsAt.len _ _ hm]; omega) (by decide), ?_⟩
        refine ⟨Z.Same.mut s123 nD, m ++ [p], bs ++ [y], _, by rw [upd_same, List.map_append]; rfl, dtsAt_app _ _ _ _ hm (dtsAt_one hp), okL_iff.mpr fun q hq => ?_, fun _ => ?_, ?_, ?_, ?_, ?_, rfl⟩
        · rcases List.mem_append.mp hq with hq | hq
          · exact okL_iff.mp okm q hq
          · rw [List.mem_singleton.mp hq]
            exact okp
        · rw [wtL_app, wtL, wtL]
          omega
        · rw [wtL_app, wtL, wtL]
          omega
        · rw [dpL_app, dpL, dpL]
          omega
        · rw [List.length_append, List.length_cons, List.length_nil]
          omega
        · intro q hq
          rcases List.mem_append.mp hq with hq | hq
          · exact hml q hq
          · rw [List.mem_singleton.mp hq]
            exact pm
      · exact ⟨s123, m, bs, _, eD3, hm, okm, hwm, by omega, hdm, by omega, hml, rfl⟩
    · obtain ⟨s1, m, bs, v, eD, hm, okm, hwm, hwm2, hdm, lm, hml, rfl⟩ := h
      walk_at "go"
      refine qq D m bs J s1 nD eD hm okm ?_ hdm (by rw [List.length_map, lb] at lm; exact lm) hml
      match m, hwm with
      | [], _ => exact Nat.zero_le _
      | p :: m, h => exact h (Nat.succ_pos _)
end
end Z
set_option linter.all false
set_option maxRecDepth 100000
namespace Pk
/-! ### plays as data -/
/-- a member of the row: a part and how many rounds are left at most -/
abbrev Mb := Pt × Option Nat
abbrev Pu := List (Nat × Nat)
def cn (pu : Pu) (c : Nat) : Option Nat := (pu.find? fun x => decide (x.1 = c)).map (·.2)
def sc (pu : Pu) (c n : Nat) : Pu := pu.map fun x => if x.1 = c then (x.1, n) else x
def mbs (l : List Pt) : List Mb := l.map fun p => (p, none)
inductive Ou where
  | go | done | cut
  | fail (c : Nat)
structure Pst where
  pu : Pu
  row : List Mb
  hap : List Pt
mutual
/-- how many steps a part may take -/
def ms : Pt → Nat
  | .tr _ _ _ => 1
  | .ev _ => 1
  | .ch _ _ => 1
  | .rd _ _ => 1
  | .en _ => 1
  | .ti c b => 1 + c * (1 + msL b)
def msL : List Pt → Nat
  | [] => 0
  | p :: l => ms p + msL l
end
def mu : List Mb → Nat
  | [] => 0
  | (p, _) :: r => ms p + mu r
theorem ms_pos (p : Pt) : 1 ≤ ms p := by cases p <;> rw [ms] <;> omega
theorem mu_app : ∀ r s : List Mb, mu (r ++ s) = mu r + mu s
  | [], s => by rw [List.nil_append, mu, Nat.zero_add]
  | (p, o) :: r, s => by rw [List.cons_append, mu, mu, mu_app r s, Nat.add_assoc]
theorem mu_mbs : ∀ l : List Pt, mu (mbs l) = msL l
  | [] => by rw [msL]; rfl
  | p :: l => by
    rw [msL, ← mu_mbs l]
    show mu ((p, none) :: mbs l) = _
    rw [mu]
theorem mu_len : ∀ r : List Mb, r.length ≤ mu r
  | [] => Nat.zero_le _
  | (p, o) :: r => by
    have := mu_len r
    have := ms_pos p
    rw [mu, List.length_cons]
    omega
mutual
theorem ms_wt : ∀ p : Pt, Ok p → ms p ≤ 102 * wt p
  | .tr _ _ _, _ => by rw [ms, wt]; omega
  | .ev _, _ => by rw [ms, wt]; omega
  | .ch _ _, _ => by rw [ms, wt]; omega
  | .rd _ _, _ => by rw [ms, wt]; omega
  | .en _, _ => by rw [ms, wt]; omega
  | .ti c b, h => by
    rw [Ok] at h
    have ih := msL_wt b h.2
    rw [ms, wt]
    by_cases z : c < 1
    · rw [if_pos z, show c = 0 by omega, Nat.zero_mul]
      omega
    · rw [if_neg z, Nat.mul_add, Nat.mul_one, Nat.mul_add]
      have h1 := Nat.mul_le_mul_left c ih
      have h2 : c * (102 * wtL b) = 102 * (wtL b * c) := by
        rw [Nat.mul_left_comm, Nat.mul_comm c]
      omega
theorem msL_wt : ∀ l : List Pt, OkL l → msL l ≤ 102 * wtL l
  | [], _ => by rw [msL]; exact Nat.zero_le _
  | p :: l, h => by
    rw [OkL] at h
    have h1 := ms_wt p h.1
    have h2 := msL_wt l h.2
    rw [msL, wtL]
    omega
end
/-- who makes a move at a part -/
def mover : Pt → Option (List Nat)
  | .ch o _ => some [o]
  | .rd o _ => some [o]
  | .en _ => some [119, 111, 114, 108, 100]
  | _ => none
/-- what replaces a part which needs no move -/
def opn : Pt → List Mb
  | .ti 0 _ => []
  | .ti 1 b => mbs b
  | .ti (c + 2) b => mbs b ++ [(.ti (c + 1) b, none)]
  | _ => []
def isEn : Pt → Bool
  | .en _ => true
  | _ => false
/-- members are carried out until a move is needed or the play is over -/
inductive Stl : Pst → Pst → Ou → Prop
  | done {pu h} : Stl ⟨pu, [], h⟩ ⟨pu, [], h⟩ .done
  | cut {pu b r h} : Stl ⟨pu, (.en b, some 0) :: r, h⟩ ⟨pu, (.en b, some 0) :: r, h⟩ .cut
  | last {pu p r h s o} : isEn p = false → Stl ⟨pu, r, h⟩ s o → Stl ⟨pu, (p, some 0) :: r, h⟩ s o
  | wait {pu p l r h} : (mover p).isSome = true → l ≠ some 0 → Stl ⟨pu, (p, l) :: r, h⟩ ⟨pu, (p, l) :: r, h⟩ .go
  | fail {pu p q m l r h n} : l ≠ some 0 → cn pu p = some n → n < m → Stl ⟨pu, (.tr p q m, l) :: r, h⟩ ⟨pu, (.tr p q m, l) :: r, h⟩ (.fail p)
  | tr {pu p q m l r h n n' s o} : l ≠ some 0 → cn pu p = some n → m ≤ n → cn (sc pu p (n - m)) q = some n' → Stl ⟨sc (sc pu p (n - m)) q (n' + m), r, h ++ [.tr p q m]⟩ s o → Stl ⟨pu, (.tr p q m, l) :: r, h⟩ s o
  | ev {pu c l r h s o} : l ≠ some 0 → Stl ⟨pu, r, h ++ [.ev c]⟩ s o → Stl ⟨pu, (.ev c, l) :: r, h⟩ s o
  | ti {pu c b l r h s o} : l ≠ some 0 → Stl ⟨pu, opn (.ti c b) ++ r, h⟩ s o → Stl ⟨pu, (.ti c b, l) :: r, h⟩ s o
theorem opn_mu (c : Nat) (b : List Pt) : mu (opn (.ti c b)) < ms (.ti c b) := by
  match c with
  | 0 => rw [opn, mu, ms]; omega
  | 1 => rw [opn, mu_mbs, ms]; omega
  | c + 2 =>
    rw [opn, mu_app, mu_mbs, mu, mu, ms, ms]
    have : (c + 2) * (1 + msL b) = (c + 1) * (1 + msL b) + (1 + msL b) := Nat.succ_mul _ _
    omega
/-- what stands in a row -/
def MOk (m : Mb) : Prop := Ok m.1 ∧ wt m.1 ≤ 400 ∧ dp m.1 ≤ 30 ∧ (∀ n, m.2 = some n → (mover m.1).isSome = true ∧ ∀ o os, m.1 ≠ .ch o os)
def ROk (r : List Mb) : Prop := ∀ m ∈ r, MOk m
theorem okL_mem {l : List Pt} (h : OkL l) {p : Pt} (hp : p ∈ l) : Ok p := okL_iff.mp h p hp
theorem rok_mbs {l : List Pt} (h : OkL l) (hw : wtL l ≤ 400) (hd : dpL l ≤ 30) : ROk (mbs l) := fun m hm => by
  obtain ⟨p, hp, rfl⟩ := List.mem_map.mp hm
  have := wtL_mem hp
  have := dpL_mem hp
  exact ⟨okL_mem h hp, by show wt p ≤ 400; omega, by show dp p ≤ 30; omega, fun n z => by cases z⟩
theorem rok_app {r s : List Mb} (h : ROk r) (g : ROk s) : ROk (r ++ s) := fun m hm => (List.mem_append.mp hm).elim (h m) (g m)
theorem rok_tl {m : Mb} {r : List Mb} (h : ROk (m :: r)) : ROk r := fun x hx => h x (List.mem_cons_of_mem _ hx)
theorem rok_hd {m : Mb} {r : List Mb} (h : ROk (m :: r)) : MOk m := h m List.mem_cons_self
theorem rok_one {m : Mb} (h : MOk m) : ROk [m] := fun x hx => by rw [List.mem_singleton.mp hx]; exact h
theorem ti_body {c : Nat} {b : List Pt} (h : Ok (.ti c b)) (hw : wt (.ti c b) ≤ 400) (hd : dp (.ti c b) ≤ 30) : OkL b ∧ wtL b ≤ 400 ∧ dpL b ≤ 30 := by
  rw [Ok] at h
  rw [wt] at hw
  rw [dp] at hd
  have h4 : wtL b ≤ wtL b * (if c < 1 then 1 else c) := Nat.le_mul_of_pos_right _ (by split <;> omega)
  exact ⟨h.2, by omega, by omega⟩
theorem ti_less {c d : Nat} {b : List Pt} (h : Ok (.ti c b)) (hw : wt (.ti c b) ≤ 400) (hd : dp (.ti c b) ≤ 30) (hdc : d ≤ c) : Ok (.ti d b) ∧ wt (.ti d b) ≤ 400 ∧ dp (.ti d b) ≤ 30 := by
  rw [Ok] at h ⊢
  rw [wt] at hw ⊢
  rw [dp] at hd ⊢
  refine ⟨⟨by omega, h.2⟩, ?_, hd⟩
  have h4 : wtL b * (if d < 1 then 1 else d) ≤ wtL b * (if c < 1 then 1 else c) := Nat.mul_le_mul_left _ (by split <;> split <;> omega)
  omega
theorem rok_opn {c : Nat} {b : List Pt} (h : Ok (.ti c b)) (hw : wt (.ti c b) ≤ 400) (hd : dp (.ti c b) ≤ 30) : ROk (opn (.ti c b)) := by
  obtain ⟨h1, h2, h3⟩ := ti_body h hw hd
  match c, h, hw, hd with
  | 0, _, _, _ => rw [opn]; exact fun m hm => absurd hm List.not_mem_nil
  | 1, _, _, _ => rw [opn]; exact rok_mbs h1 h2 h3
  | c + 2, h, hw, hd =>
    rw [opn]
    obtain ⟨g1, g2, g3⟩ := ti_less (d := c + 1) h hw hd (by omega)
    exact rok_app (rok_mbs h1 h2 h3) (rok_one ⟨g1, g2, g3, fun n z => by cases z⟩)
/-- what replaces a part after a move with a number -/
def chs : Pt → Nat → List Mb
  | .ch _ os, n => mbs (os.getD n [])
  | .rd o b, n + 1 => mbs b ++ [(.rd o b, some n)]
  | .en b, n + 1 => mbs b ++ [(.en b, some n)]
  | _, _ => []
end Pk
set_option linter.all false
set_option maxRecDepth 100000
namespace Pk
/-! ### what a part names; good states -/
mutual
def NmP (ks : List Nat) : Pt → Prop
  | .tr p q _ => p ∈ ks ∧ q ∈ ks
  | .ev _ => True
  | .ch _ os => NmLL ks os
  | .rd _ b => NmL ks b
  | .en b => NmL ks b
  | .ti _ b => NmL ks b
def NmL (ks : List Nat) : List Pt → Prop
  | [] => True
  | p :: l => NmP ks p ∧ NmL ks l
def NmLL (ks : List Nat) : List (List Pt) → Prop
  | [] => True
  | b :: l => NmL ks b ∧ NmLL ks l
end
theorem nmL_iff {ks : List Nat} : ∀ {l : List Pt}, NmL ks l ↔ ∀ p ∈ l, NmP ks p
  | [] => ⟨fun _ p h => absurd h List.not_mem_nil, fun _ => by rw [NmL]; trivial⟩
  | q :: l => by
    rw [NmL, nmL_iff (l := l)]
    exact ⟨fun ⟨a, b⟩ p h => by
      rcases List.mem_cons.mp h with h | h
      · rw [h]; exact a
      · exact b p h, fun h => ⟨h q List.mem_cons_self, fun p hp => h p (List.mem_cons_of_mem _ hp)⟩⟩
theorem nmLL_iff {ks : List Nat} : ∀ {l : List (List Pt)}, NmLL ks l ↔ ∀ p ∈ l, NmL ks p
  | [] => ⟨fun _ p h => absurd h List.not_mem_nil, fun _ => by rw [NmLL]; trivial⟩
  | q :: l => by
    rw [NmLL, nmLL_iff (l := l)]
    exact ⟨fun ⟨a, b⟩ p h => by
      rcases List.mem_cons.mp h with h | h
      · rw [h]; exact a
      · exact b p h, fun h => ⟨h q List.mem_cons_self, fun p hp => h p (List.mem_cons_of_mem _ hp)⟩⟩
def NmR (ks : List Nat) (r : List Mb) : Prop := ∀ m ∈ r, NmP ks m.1
theorem nmR_mbs {ks : List Nat} {l : List Pt} (h : NmL ks l) : NmR ks (mbs l) := fun m hm => by
  obtain ⟨p, hp, rfl⟩ := List.mem_map.mp hm
  exact nmL_iff.mp h p hp
theorem nmR_app {ks : List Nat} {r s : List Mb} (h : NmR ks r) (g : NmR ks s) : NmR ks (r ++ s) := fun m hm => (List.mem_append.mp hm).elim (h m) (g m)
theorem nmR_one {ks : List Nat} {m : Mb} (h : NmP ks m.1) : NmR ks [m] := fun x hx => by rw [List.mem_singleton.mp hx]; exact h
theorem nmR_opn {ks : List Nat} {c : Nat} {b : List Pt} (h : NmP ks (.ti c b)) : NmR ks (opn (.ti c b)) := by
  have h0 := h
  rw [NmP] at h
  match c with
  | 0 => rw [opn]; exact fun m hm => absurd hm List.not_mem_nil
  | 1 => rw [opn]; exact nmR_mbs h
  | c + 2 =>
    rw [opn]
    exact nmR_app (nmR_mbs h) (nmR_one (show NmP ks (.ti (c + 1) b) by rw [NmP]; exact h))
structure GSt (ks : List Nat) (N : Nat) (st : Pst) : Prop where
  rok : ROk st.row
  nm : NmR ks st.row
  sz : mu st.row + st.hap.length ≤ N
  ky : st.pu.map (·.1) = ks
theorem sc_ky (pu : Pu) (c n : Nat) : (sc pu c n).map (·.1) = pu.map (·.1) := by
  unfold sc
  rw [List.map_map]
  refine List.map_congr_left fun x _ => ?_
  simp only [Function.comp_apply]
  split <;> rfl
theorem cn_ky {pu : Pu} {c : Nat} (h : c ∈ pu.map (·.1)) : (cn pu c).isSome = true := by
  unfold cn
  rw [Option.isSome_map, List.find?_isSome]
  obtain ⟨x, hx, e⟩ := List.mem_map.mp h
  exact ⟨x, hx, decide_eq_true e⟩
theorem cn_ky2 {pu : Pu} {c n : Nat} (h : cn pu c = some n) : c ∈ pu.map (·.1) := by
  unfold cn at h
  cases e : pu.find? fun x => decide (x.1 = c) with
  | none => rw [e] at h; cases h
  | some x =>
    have h1 := List.find?_some e
    exact List.mem_map.mpr ⟨x, List.mem_of_find?_eq_some e, of_decide_eq_true h1⟩
/-- what carrying out a part at the front does -/
def car (pu : Pu) (h : List Pt) (p : Pt) (l : Option Nat) (r : List Mb) : Pst × Ou := match p with
  | .tr a b m => match cn pu a with
    | none => (⟨pu, (p, l) :: r, h⟩, .fail a)
    | some n => if n < m then (⟨pu, (p, l) :: r, h⟩, .fail a) else match cn (sc pu a (n - m)) b with
      | none => (⟨pu, (p, l) :: r, h⟩, .fail a)
      | some n' => (⟨sc (sc pu a (n - m)) b (n' + m), r, h ++ [p]⟩, .go)
  | .ev _ => (⟨pu, r, h ++ [p]⟩, .go)
  | p => (⟨pu, opn p ++ r, h⟩, .go)
/-- one more part is carried out, or the play is over -/
theorem car_stl {ks : List Nat} {N : Nat} {pu : Pu} {h : List Pt} {p : Pt} {l : Option Nat} {r : List Mb} (g : GSt ks N ⟨pu, (p, l) :: r, h⟩) (hm : mover p = none) (hl : l ≠ some 0) :
    ((car pu h p l r).2 = .go ∧ GSt ks N (car pu h p l r).1 ∧ mu (car pu h p l r).1.row < mu ((p, l) :: r) ∧ ∀ s o, Stl (car pu h p l r).1 s o → Stl ⟨pu, (p, l) :: r, h⟩ s o) ∨
    ((car pu h p l r).2 ≠ .go ∧ GSt ks N (car pu h p l r).1 ∧ Stl ⟨pu, (p, l) :: r, h⟩ (car pu h p l r).1 (car pu h p l r).2) := by
  obtain ⟨g1, g2, g3, g4⟩ := g
  have g1t := rok_tl g1
  have g2t : NmR ks r := fun m hm => g2 m (List.mem_cons_of_mem _ hm)
  have g1h := rok_hd g1
  have g2h := g2 _ List.mem_cons_self
  dsimp only at g1 g2 g3 g4 g2h
  have hpos := ms_pos p
  have emu : mu ((p, l) :: r) = ms p + mu r := by rw [mu]
  cases p with
  | ch o os => cases hm
  | rd o b => cases hm
  | en b => cases hm
  | ev c =>
    left
    refine ⟨rfl, ⟨g1t, g2t, ?_, g4⟩, by show mu r < _; omega, fun s o z => .ev hl z⟩
    show mu r + (h ++ [_]).length ≤ N
    rw [List.length_append]
    show mu r + (h.length + 1) ≤ N
    omega
  | ti c b =>
    left
    have hmu := opn_mu c b
    obtain ⟨k1, k2, k3, _⟩ := g1h
    refine ⟨rfl, ⟨rok_app (rok_opn k1 k2 k3) g1t, nmR_app (nmR_opn g2h) g2t, ?_, g4⟩, ?_, fun s o z => .ti hl z⟩
    · show mu (opn _ ++ r) + h.length ≤ N
      rw [mu_app]
      omega
    · show mu (opn _ ++ r) < _
      rw [mu_app]
      omega
  | tr a b m =>
    rw [NmP] at g2h
    obtain ⟨n, e1⟩ := Option.isSome_iff_exists.mp (cn_ky (pu := pu) (by rw [g4]; exact g2h.1))
    obtain ⟨n', e2⟩ := Option.isSome_iff_exists.mp (cn_ky (pu := sc pu a (n - m)) (c := b) (by rw [sc_ky, g4]; exact g2h.2))
    by_cases lt : n < m
    · right
      have e : car pu h (.tr a b m) l r = (⟨pu, (.tr a b m, l) :: r, h⟩, .fail a) := by
        unfold car
        dsimp only
        rw [e1]
        dsimp only
        rw [if_pos lt]
      rw [e]
      exact ⟨nofun, ⟨g1, g2, g3, g4⟩, .fail hl e1 lt⟩
    · left
      have e : car pu h (.tr a b m) l r = (⟨sc (sc pu a (n - m)) b (n' + m), r, h ++ [.tr a b m]⟩, .go) := by
        unfold car
        dsimp only
        rw [e1]
        dsimp only
        rw [if_neg lt, e2]
      rw [e]
      refine ⟨rfl, ⟨g1t, g2t, ?_, ?_⟩, by show mu r < _; omega, fun s o z => .tr hl e1 (by omega) e2 z⟩
      · show mu r + (h ++ [_]).length ≤ N
        rw [List.length_append]
        show mu r + (h.length + 1) ≤ N
        omega
      · show (sc (sc pu a (n - m)) b (n' + m)).map (·.1) = ks
        rw [sc_ky, sc_ky, g4]
def erO (st : Pst) (p : Pt) (l : Option Nat) (r : List Mb) : Pst × Ou := if isEn p = true then (⟨st.pu, (p, l) :: r, st.hap⟩, .cut) else (⟨st.pu, r, st.hap⟩, .go)
def isCh : Pt → Bool
  | .ch _ _ => true
  | _ => false
/-- what a move does before all settles -/
def mvd (pu : Pu) (h : List Pt) (p : Pt) (l : Option Nat) (r : List Mb) (n : Nat) : Pst × Ou := if isCh p = false ∧ n = 0 then erO ⟨pu, [], h⟩ p l r else (⟨pu, chs p n ++ r, h⟩, .go)
def NOk (p : Pt) (l : Option Nat) (n : Nat) : Prop := (∀ o os, p = .ch o os → n < os.length) ∧ ((∀ o os, p ≠ .ch o os) → ∀ L, l = some L → n ≤ L)
theorem mvd_ok {ks : List Nat} {N : Nat} {pu : Pu} {h : List Pt} {p : Pt} {l : Option Nat} {r : List Mb} {n : Nat} (g : GSt ks N ⟨pu, (p, l) :: r, h⟩) (hm : (mover p).isSome = true) (hn : NOk p l n) : GSt ks (N + 41000) (mvd pu h p l r n).1 := by
  obtain ⟨g1, g2, g3, g4⟩ := g
  have g1t := rok_tl g1
  have g2t : NmR ks r := fun m hm => g2 m (List.mem_cons_of_mem _ hm)
  obtain ⟨k1, k2, k3, _⟩ := rok_hd g1
  have g2h := g2 _ List.mem_cons_self
  dsimp only at g1 g2 g3 g4 g2h k1 k2 k3
  have hpos := ms_pos p
  have emu : mu ((p, l) :: r) = ms p + mu r := by rw [mu]
  unfold mvd
  split
  · unfold erO
    split
    · exact ⟨g1, g2, by show mu ((p, l) :: r) + h.length ≤ _; omega, g4⟩
    · exact ⟨g1t, g2t, by show mu r + h.length ≤ _; omega, g4⟩
  · rename_i c
    cases p with
    | tr a b m => cases hm
    | ev c => cases hm
    | ti c b => cases hm
    | ch o os =>
      have hl := hn.1 o os rfl
      have hp := List.getElem_mem hl
      rw [Ok] at k1
      rw [wt] at k2
      rw [dp] at k3
      rw [NmP] at g2h
      have o1 := okLL_iff.mp k1.2.2.2 _ hp
      have o2 := wtLL_mem hp
      have o3 := dpLL_mem hp
      have o4 := nmLL_iff.mp g2h _ hp
      have o5 := msL_wt _ o1
      have e : chs (.ch o os) n = mbs os[n] := by rw [chs, List.getD_eq_getElem?_getD, List.getElem?_eq_getElem hl]; rfl
      rw [e]
      refine ⟨rok_app (rok_mbs o1 (by omega) (by omega)) g1t, nmR_app (nmR_mbs o4) g2t, ?_, g4⟩
      show mu (mbs os[n] ++ r) + h.length ≤ _
      rw [mu_app, mu_mbs]
      omega
    | rd o b =>
      match n, c with
      | 0, c => exact absurd ⟨rfl, rfl⟩ c
      | n + 1, c =>
        have m1 : MOk (.rd o b, some n) := ⟨k1, k2, k3, fun _ _ => ⟨rfl, nofun⟩⟩
        rw [Ok] at k1
        rw [wt] at k2
        rw [dp] at k3
        have n1 : NmP ks (.rd o b) := g2h
        rw [NmP] at g2h
        have o5 := msL_wt _ k1.2
        refine ⟨rok_app (rok_app (rok_mbs k1.2 (by omega) (by omega)) (rok_one m1)) g1t, nmR_app (nmR_app (nmR_mbs g2h) (nmR_one n1)) g2t, ?_, g4⟩
        show mu ((mbs b ++ [(.rd o b, some n)]) ++ r) + h.length ≤ _
        rw [mu_app, mu_app, mu_mbs, mu, mu]
        omega
    | en b =>
      match n, c with
      | 0, c => exact absurd ⟨rfl, rfl⟩ c
      | n + 1, c =>
        have m1 : MOk (.en b, some n) := ⟨k1, k2, k3, fun _ _ => ⟨rfl, nofun⟩⟩
        rw [Ok] at k1
        rw [wt] at k2
        rw [dp] at k3
        have n1 : NmP ks (.en b) := g2h
        rw [NmP] at g2h
        have o5 := msL_wt _ k1
        refine ⟨rok_app (rok_app (rok_mbs k1 (by omega) (by omega)) (rok_one m1)) g1t, nmR_app (nmR_app (nmR_mbs g2h) (nmR_one n1)) g2t, ?_, g4⟩
        show mu ((mbs b ++ [(.en b, some n)]) ++ r) + h.length ≤ _
        rw [mu_app, mu_app, mu_mbs, mu, mu]
        omega
end Pk
set_option linter.all false
set_option maxRecDepth 100000
namespace Pk
/-! ### what may stand in a row of a play of a pact; how many parts one settling can meet -/
mutual
def fp : Pt → Nat
  | .tr _ _ _ => 1
  | .ev _ => 1
  | .ch _ os => 1 + fpLL os
  | .rd _ b => 1 + fpL b
  | .en b => 1 + fpL b
  | .ti c b => 1 + c * (1 + fpL b)
def fpL : List Pt → Nat
  | [] => 0
  | p :: l => fp p + fpL l
def fpLL : List (List Pt) → Nat
  | [] => 0
  | b :: l => fpL b + fpLL l
end
theorem fpL_app : ∀ l m : List Pt, fpL (l ++ m) = fpL l + fpL m
  | [], m => by rw [List.nil_append, fpL, Nat.zero_add]
  | p :: l, m => by rw [List.cons_append, fpL, fpL, fpL_app l m, Nat.add_assoc]
theorem fpLL_mem {b : List Pt} : ∀ {l : List (List Pt)}, b ∈ l → fpL b ≤ fpLL l
  | q :: l, h => by
    rw [fpLL]
    rcases List.mem_cons.mp h with h | h
    · rw [h]; omega
    · have := fpLL_mem h
      omega
mutual
theorem ms_fp : ∀ p : Pt, ms p ≤ fp p
  | .tr _ _ _ => by rw [ms, fp]; omega
  | .ev _ => by rw [ms, fp]; omega
  | .ch _ _ => by rw [ms, fp]; omega
  | .rd _ _ => by rw [ms, fp]; omega
  | .en _ => by rw [ms, fp]; omega
  | .ti c b => by
    rw [ms, fp]
    have := Nat.mul_le_mul_left c (Nat.add_le_add_left (msL_fp b) 1)
    omega
theorem msL_fp : ∀ l : List Pt, msL l ≤ fpL l
  | [] => by rw [msL]; exact Nat.zero_le _
  | p :: l => by
    rw [msL, fpL]
    exact Nat.add_le_add (ms_fp p) (msL_fp l)
end
mutual
inductive RsP : Pt → List Mb → Prop
  | start (p : Pt) (lim : Option Nat) : RsP p [(p, lim)]
  | nil (p : Pt) : RsP p []
  | ch {o : Nat} {os : List (List Pt)} {b : List Pt} {r : List Mb} : b ∈ os → RsL b r → RsP (.ch o os) r
  | rd {o : Nat} {b : List Pt} {r : List Mb} (lim : Option Nat) : RsL b r → RsP (.rd o b) (r ++ [(.rd o b, lim)])
  | en {b : List Pt} {r : List Mb} (lim : Option Nat) : RsL b r → RsP (.en b) (r ++ [(.en b, lim)])
  | ti0 {c : Nat} {b : List Pt} {r : List Mb} : 0 < c → RsL b r → RsP (.ti c b) r
  | ti {c k : Nat} {b : List Pt} {r : List Mb} (lim : Option Nat) : k < c → RsL b r → RsP (.ti c b) (r ++ [(.ti k b, lim)])
inductive RsL : List Pt → List Mb → Prop
  | nil (l : List Pt) : RsL l []
  | here {p : Pt} {r : List Mb} (l1 l2 : List Pt) : RsP p r → RsL (l1 ++ p :: l2) (r ++ mbs l2)
end
theorem rsL_mbs : ∀ l : List Pt, RsL l (mbs l)
  | [] => .nil []
  | p :: l => by
    have z := RsL.here [] l (RsP.start p none)
    exact z
mutual
theorem RsP.mu {p : Pt} {r : List Mb} : RsP p r → mu r ≤ fp p
  | .start p lim => by
    have := ms_fp p
    rw [Pk.mu, Pk.mu]
    omega
  | .nil p => by rw [Pk.mu]; exact Nat.zero_le _
  | .ch hb h => by
    have := RsL.mu h
    have := fpLL_mem hb
    rw [fp]
    omega
  | .rd lim h => by
    have := RsL.mu h
    rw [mu_app, Pk.mu, Pk.mu, ms, fp]
    omega
  | .en lim h => by
    have := RsL.mu h
    rw [mu_app, Pk.mu, Pk.mu, ms, fp]
    omega
  | .ti0 (c := c) (b := b) hc h => by
    have := RsL.mu h
    rw [fp]
    have : 1 * (1 + fpL b) ≤ c * (1 + fpL b) := Nat.mul_le_mul_right _ hc
    omega
  | .ti (c := c) (k := k) (b := b) lim hk h => by
    have h1 := RsL.mu h
    rw [mu_app, Pk.mu, Pk.mu, ms, fp]
    have h2 : (k + 1) * (1 + fpL b) ≤ c * (1 + fpL b) := Nat.mul_le_mul_right _ hk
    have h3 := Nat.mul_le_mul_left k (Nat.add_le_add_left (msL_fp b) 1)
    rw [Nat.add_mul] at h2
    omega
theorem RsL.mu {l : List Pt} {r : List Mb} : RsL l r → mu r ≤ fpL l
  | .nil l => by rw [Pk.mu]; exact Nat.zero_le _
  | .here l1 l2 h => by
    have := RsP.mu h
    have := msL_fp l2
    rw [mu_app, mu_mbs, fpL_app, fpL]
    omega
end
/-- fewer times -/
theorem RsP.less {k c : Nat} {b : List Pt} {s : List Mb} (h : RsP (.ti k b) s) (hk : k < c) : RsP (.ti c b) s := by
  cases h with
  | start _ lim => exact RsP.ti (r := []) lim hk (.nil b)
  | nil => exact .nil _
  | ti0 h0 h => exact .ti0 (by omega) h
  | ti lim h0 h => exact .ti lim (by omega) h
theorem app_front {r0 t r : List Mb} {m : Mb} (e : r0 ++ t = m :: r) : (r0 = [] ∧ t = m :: r) ∨ ∃ r1, r0 = m :: r1 ∧ r = r1 ++ t := by
  cases r0 with
  | nil => exact .inl ⟨rfl, e⟩
  | cons x r0 =>
    injection e with e1 e2
    exact .inr ⟨r0, by rw [e1], e2.symm⟩
theorem one_front {p q : Pt} {l lim : Option Nat} {r s : List Mb} {o : Pt} (e : [(q, l)] = (p, lim) :: r) (h : RsP q s → RsP o s) (hs : RsP p s) : RsP o (s ++ r) := by
  injection e with e1 e2
  injection e1 with e1 _
  rw [← e2, List.append_nil]
  exact h (e1 ▸ hs)
mutual
/-- the front of a row may be replaced by what may stand there -/
theorem RsP.front {q : Pt} {row : List Mb} : RsP q row → ∀ {p : Pt} {lim : Option Nat} {r s : List Mb}, row = (p, lim) :: r → RsP p s → RsP q (s ++ r)
  | .start q l, p, lim, r, s, e, hs => one_front e id hs
  | .nil q, p, lim, r, s, e, hs => by cases e
  | .ch hb h, p, lim, r, s, e, hs => .ch hb (RsL.front h e hs)
  | .rd l h, p, lim, r, s, e, hs => by
    rcases app_front e with ⟨_, e2⟩ | ⟨r1, e1, e2⟩
    · exact one_front e2 id hs
    · rw [e2, ← List.append_assoc]
      exact .rd l (RsL.front h e1 hs)
  | .en l h, p, lim, r, s, e, hs => by
    rcases app_front e with ⟨_, e2⟩ | ⟨r1, e1, e2⟩
    · exact one_front e2 id hs
    · rw [e2, ← List.append_assoc]
      exact .en l (RsL.front h e1 hs)
  | .ti0 hc h, p, lim, r, s, e, hs => .ti0 hc (RsL.front h e hs)
  | .ti l hk h, p, lim, r, s, e, hs => by
    rcases app_front e with ⟨_, e2⟩ | ⟨r1, e1, e2⟩
    · exact one_front e2 (fun z => z.less hk) hs
    · rw [e2, ← List.append_assoc]
      exact .ti l hk (RsL.front h e1 hs)
theorem RsL.front {l : List Pt} {row : List Mb} : RsL l row → ∀ {p : Pt} {lim : Option Nat} {r s : List Mb}, row = (p, lim) :: r → RsP p s → RsL l (s ++ r)
  | .nil l, p, lim, r, s, e, hs => by cases e
  | .here (p := q) l1 l2 h, p, lim, r, s, e, hs => by
    rcases app_front e with ⟨_, e2⟩ | ⟨r1, e1, e2⟩
    · cases l2 with
      | nil => cases e2
      | cons q2 l2 =>
        have e2 : (q2, none) :: mbs l2 = (p, lim) :: r := e2
        injection e2 with e1 e2
        injection e1 with e1 _
        rw [← e2]
        have z := RsL.here (l1 ++ [q]) l2 (e1 ▸ hs)
        rw [List.append_assoc] at z
        exact z
    · rw [e2, ← List.append_assoc]
      exact .here l1 l2 (RsP.front h e1 hs)
end
theorem rs_opn (c : Nat) (b : List Pt) : RsP (.ti c b) (opn (.ti c b)) := by
  match c with
  | 0 => exact .nil _
  | 1 => exact .ti0 (by decide) (rsL_mbs b)
  | c + 2 => exact .ti none (by omega) (rsL_mbs b)
theorem rs_chs (p : Pt) (n : Nat) : RsP p (chs p n) := by
  cases p with
  | tr a b c => cases n <;> exact .nil _
  | ev c => cases n <;> exact .nil _
  | ti c b => cases n <;> exact .nil _
  | ch o os =>
    rw [chs]
    by_cases h : n < os.length
    · rw [List.getD_eq_getElem?_getD, List.getElem?_eq_getElem h]
      exact .ch (List.getElem_mem h) (rsL_mbs _)
    · rw [List.getD_eq_getElem?_getD, List.getElem?_eq_none (by omega)]
      exact .nil _
  | rd o b =>
    cases n with
    | zero => exact .nil _
    | succ n => exact .rd (some n) (rsL_mbs b)
  | en b =>
    cases n with
    | zero => exact .nil _
    | succ n => exact .en (some n) (rsL_mbs b)
theorem RsL.tl {l : List Pt} {m : Mb} {r : List Mb} (h : RsL l (m :: r)) : RsL l r := RsL.front (s := []) h rfl (.nil _)
theorem stl_rs {l : List Pt} {st st' : Pst} {o : Ou} (h : Stl st st' o) : RsL l st.row → RsL l st'.row := by
  induction h with
  | done => exact id
  | cut => exact id
  | last _ _ ih => exact fun h => ih h.tl
  | wait _ _ => exact id
  | fail _ _ _ => exact id
  | tr _ _ _ _ _ ih => exact fun h => ih h.tl
  | ev _ _ ih => exact fun h => ih h.tl
  | ti _ _ ih => exact fun h => ih (RsL.front h rfl (rs_opn _ _))
end Pk
set_option linter.all false
set_option maxRecDepth 100000
namespace Pk
/-! ### the parties that a pact uses -/
mutual
def Us (ps : List Nat) : Pt → Prop
  | .tr p q _ => p ∈ ps ∧ q ∈ ps
  | .ev _ => True
  | .ch o os => o ∈ ps ∧ UsLL ps os
  | .rd o b => o ∈ ps ∧ UsL ps b
  | .en b => UsL ps b
  | .ti _ b => UsL ps b
def UsL (ps : List Nat) : List Pt → Prop
  | [] => True
  | p :: l => Us ps p ∧ UsL ps l
def UsLL (ps : List Nat) : List (List Pt) → Prop
  | [] => True
  | b :: l => UsL ps b ∧ UsLL ps l
end
theorem usL_iff {ps : List Nat} : ∀ {l : List Pt}, UsL ps l ↔ ∀ p ∈ l, Us ps p
  | [] => ⟨fun _ p h => absurd h List.not_mem_nil, fun _ => by rw [UsL]; trivial⟩
  | q :: l => by
    rw [UsL, usL_iff (l := l)]
    exact ⟨fun ⟨a, b⟩ p h => by
      rcases List.mem_cons.mp h with h | h
      · rw [h]; exact a
      · exact b p h, fun h => ⟨h q List.mem_cons_self, fun p hp => h p (List.mem_cons_of_mem _ hp)⟩⟩
mutual
theorem us_nm {ps ks : List Nat} (s : ∀ c ∈ ps, c ∈ ks) : ∀ p, Us ps p → NmP ks p
  | .tr p q _, h => by rw [Us] at h; rw [NmP]; exact ⟨s _ h.1, s _ h.2⟩
  | .ev _, h => by rw [NmP]; trivial
  | .ch o os, h => by rw [Us] at h; rw [NmP]; exact usLL_nm s os h.2
  | .rd o b, h => by rw [Us] at h; rw [NmP]; exact usL_nm s b h.2
  | .en b, h => by rw [Us] at h; rw [NmP]; exact usL_nm s b h
  | .ti _ b, h => by rw [Us] at h; rw [NmP]; exact usL_nm s b h
theorem usL_nm {ps ks : List Nat} (s : ∀ c ∈ ps, c ∈ ks) : ∀ l, UsL ps l → NmL ks l
  | [], h => by rw [NmL]; trivial
  | p :: l, h => by rw [UsL] at h; rw [NmL]; exact ⟨us_nm s p h.1, usL_nm s l h.2⟩
theorem usLL_nm {ps ks : List Nat} (s : ∀ c ∈ ps, c ∈ ks) : ∀ l, UsLL ps l → NmLL ks l
  | [], h => by rw [NmLL]; trivial
  | b :: l, h => by rw [UsLL] at h; rw [NmLL]; exact ⟨usL_nm s b h.1, usLL_nm s l h.2⟩
end
/-- a sign of a pact's text: a used party, or no party -/
def SgC (ps : List Nat) (c : Nat) : Prop := c ∈ PAR → c ∈ ps
theorem k_sg {ps : List Nat} {c : Nat} (h : c ∉ PAR) : SgC ps c := fun z => absurd z h
theorem dig_sg (ps : List Nat) (n : Nat) : ∀ c ∈ dig n, SgC ps c := fun c hc => by
  unfold dig at hc
  obtain ⟨d, hd, rfl⟩ := List.mem_map.mp hc
  have h := Nat.isDigit_of_mem_toDigits (by decide) (by decide) hd
  unfold Char.isDigit at h
  simp only [Bool.and_eq_true, decide_eq_true_eq] at h
  have h1 := UInt32.le_iff_toNat_le.mp h.1
  have h2 := UInt32.le_iff_toNat_le.mp h.2
  have h2 : d.toNat ≤ 57 := h2
  intro z
  simp only [PAR, List.mem_cons, List.not_mem_nil, or_false] at z
  omega
theorem jn_sg {ps : List Nat} (s : List Nat) (hs : ∀ c ∈ s, SgC ps c) : ∀ ts : List (List Nat), (∀ t ∈ ts, ∀ c ∈ t, SgC ps c) → ∀ c ∈ jn s ts, SgC ps c
  | [], _, c, hc => by cases hc
  | [a], h, c, hc => h a List.mem_cons_self c hc
  | a :: b :: r, h, c, hc => by
    have hc : c ∈ a ++ s ++ jn s (b :: r) := hc
    rcases List.mem_append.mp hc with hc | hc
    · rcases List.mem_append.mp hc with hc | hc
      · exact h a List.mem_cons_self c hc
      · exact hs c hc
    · exact jn_sg s hs (b :: r) (fun t ht => h t (List.mem_cons_of_mem _ ht)) c hc
mutual
theorem tx_sg {ps : List Nat} : ∀ p : Pt, Us ps p → Ok p → ∀ c ∈ tx p, SgC ps c
  | .tr p q m, h, ok, c, hc => by
    rw [Us] at h
    rw [tx] at hc
    simp only [List.mem_append, List.mem_singleton] at hc
    rcases hc with (rfl | rfl) | hc
    · exact fun _ => h.1
    · exact fun _ => h.2
    · exact dig_sg ps m c hc
  | .ev k, h, ok, c, hc => by
    rw [tx] at hc
    rw [Ok] at ok
    rw [List.mem_singleton.mp hc]
    refine k_sg fun z => ?_
    unfold MRK at ok
    obtain ⟨i, hi, rfl⟩ := List.mem_map.mp ok
    have := List.mem_range.mp hi
    simp only [PAR, List.mem_cons, List.not_mem_nil, or_false] at z
    omega
  | .ch o os, h, ok, c, hc => by
    rw [Us] at h
    rw [Ok] at ok
    rw [tx] at hc
    simp only [List.mem_append, List.mem_singleton] at hc
    rcases hc with ((rfl | rfl) | hc) | rfl
    · exact fun _ => h.1
    · exact k_sg (by decide)
    · refine jn_sg _ (fun c hc => ?_) _ (txLL_sg os h.2 ok.2.2.2) c hc
      simp only [List.mem_cons, List.not_mem_nil, or_false] at hc
      rcases hc with rfl | rfl | rfl <;> exact k_sg (by decide)
    · exact k_sg (by decide)
  | .rd o b, h, ok, c, hc => by
    rw [Us] at h
    rw [Ok] at ok
    rw [tx] at hc
    simp only [List.mem_append, List.mem_singleton] at hc
    rcases hc with ((rfl | rfl) | hc) | rfl
    · exact fun _ => h.1
    · exact k_sg (by decide)
    · exact txB_sg b h.2 ok.2 c hc
    · exact k_sg (by decide)
  | .en b, h, ok, c, hc => by
    rw [Us] at h
    rw [Ok] at ok
    rw [tx] at hc
    simp only [List.mem_append, List.mem_singleton] at hc
    rcases hc with (rfl | hc) | rfl
    · exact k_sg (by decide)
    · exact txB_sg b h ok c hc
    · exact k_sg (by decide)
  | .ti n b, h, ok, c, hc => by
    rw [Us] at h
    rw [Ok] at ok
    rw [tx] at hc
    simp only [List.mem_append, List.mem_singleton] at hc
    rcases hc with ((hc | rfl) | hc) | rfl
    · exact dig_sg ps n c hc
    · exact k_sg (by decide)
    · exact txB_sg b h ok.2 c hc
    · exact k_sg (by decide)
theorem txs_sg {ps : List Nat} : ∀ l : List Pt, UsL ps l → OkL l → ∀ t ∈ txs l, ∀ c ∈ t, SgC ps c
  | [], h, ok, t, ht, c, hc => by rw [txs] at ht; cases ht
  | p :: l, h, ok, t, ht, c, hc => by
    rw [UsL] at h
    rw [OkL] at ok
    rw [txs] at ht
    rcases List.mem_cons.mp ht with rfl | ht
    · exact tx_sg p h.1 ok.1 c hc
    · exact txs_sg l h.2 ok.2 t ht c hc
theorem txB_sg {ps : List Nat} : ∀ l : List Pt, UsL ps l → OkL l → ∀ c ∈ txB l, SgC ps c
  | [], h, ok, c, hc => by
    rw [txB] at hc
    rw [List.mem_singleton.mp hc]
    exact k_sg (by decide)
  | p :: l, h, ok, c, hc => by
    rw [UsL] at h
    rw [OkL] at ok
    rw [txB] at hc
    refine jn_sg _ (fun c hc => ?_) _ (fun t ht => ?_) c hc
    · simp only [List.mem_cons, List.not_mem_nil, or_false] at hc
      rcases hc with rfl | rfl <;> exact k_sg (by decide)
    · rcases List.mem_cons.mp ht with rfl | ht
      · exact tx_sg p h.1 ok.1
      · exact txs_sg l h.2 ok.2 t ht
theorem txLL_sg {ps : List Nat} : ∀ l : List (List Pt), UsLL ps l → OkLL l → ∀ t ∈ txLL l, ∀ c ∈ t, SgC ps c
  | [], h, ok, t, ht, c, hc => by rw [txLL] at ht; cases ht
  | b :: l, h, ok, t, ht, c, hc => by
    rw [UsLL] at h
    rw [OkLL] at ok
    rw [txLL] at ht
    rcases List.mem_cons.mp ht with rfl | ht
    · exact txB_sg b h.1 ok.1 c hc
    · exact txLL_sg l h.2 ok.2 t ht c hc
end
end Pk
set_option linter.all false
set_option maxRecDepth 100000
namespace Pk
/-! ### drawn pacts: counts up to three -/
mutual
def Vs (ps : List Nat) : Pt → Prop
  | .tr p q _ => p ∈ ps ∧ q ∈ ps
  | .ev _ => True
  | .ch o os => o ∈ ps ∧ VsLL ps os
  | .rd o b => o ∈ ps ∧ VsL ps b
  | .en b => VsL ps b
  | .ti c b => c ≤ 3 ∧ VsL ps b
def VsL (ps : List Nat) : List Pt → Prop
  | [] => True
  | p :: l => Vs ps p ∧ VsL ps l
def VsLL (ps : List Nat) : List (List Pt) → Prop
  | [] => True
  | b :: l => VsL ps b ∧ VsLL ps l
end
theorem vsL_iff {ps : List Nat} : ∀ {l : List Pt}, VsL ps l ↔ ∀ p ∈ l, Vs ps p
  | [] => ⟨fun _ p h => absurd h List.not_mem_nil, fun _ => by rw [VsL]; trivial⟩
  | q :: l => by
    rw [VsL, vsL_iff (l := l)]
    exact ⟨fun ⟨a, b⟩ p h => by
      rcases List.mem_cons.mp h with h | h
      · rw [h]; exact a
      · exact b p h, fun h => ⟨h q List.mem_cons_self, fun p hp => h p (List.mem_cons_of_mem _ hp)⟩⟩
mutual
theorem vs_us {ps : List Nat} : ∀ p, Vs ps p → Us ps p
  | .tr p q m, h => by rw [Vs] at h; rw [Us]; exact h
  | .ev c, h => by rw [Us]; trivial
  | .ch o os, h => by rw [Vs] at h; rw [Us]; exact ⟨h.1, vsLL_us os h.2⟩
  | .rd o b, h => by rw [Vs] at h; rw [Us]; exact ⟨h.1, vsL_us b h.2⟩
  | .en b, h => by rw [Vs] at h; rw [Us]; exact vsL_us b h
  | .ti c b, h => by rw [Vs] at h; rw [Us]; exact vsL_us b h.2
theorem vsL_us {ps : List Nat} : ∀ l, VsL ps l → UsL ps l
  | [], h => by rw [UsL]; trivial
  | p :: l, h => by rw [VsL] at h; rw [UsL]; exact ⟨vs_us p h.1, vsL_us l h.2⟩
theorem vsLL_us {ps : List Nat} : ∀ l, VsLL ps l → UsLL ps l
  | [], h => by rw [UsLL]; trivial
  | b :: l, h => by rw [VsLL] at h; rw [UsLL]; exact ⟨vsL_us b h.1, vsLL_us l h.2⟩
end
mutual
theorem vs_fp {ps : List Nat} : ∀ p, Vs ps p → fp p ≤ 4 * wt p
  | .tr p q m, h => by rw [fp, wt]; omega
  | .ev c, h => by rw [fp, wt]; omega
  | .ch o os, h => by
    rw [Vs] at h
    have := vsLL_fp os h.2
    rw [fp, wt]
    omega
  | .rd o b, h => by
    rw [Vs] at h
    have := vsL_fp b h.2
    rw [fp, wt]
    omega
  | .en b, h => by
    rw [Vs] at h
    have := vsL_fp b h
    rw [fp, wt]
    omega
  | .ti c b, h => by
    rw [Vs] at h
    have ih := vsL_fp b h.2
    rw [fp, wt]
    match c, h.1 with
    | 0, _ => rw [if_pos (by decide)]; omega
    | 1, _ => rw [if_neg (by decide)]; omega
    | 2, _ => rw [if_neg (by decide)]; omega
    | 3, _ => rw [if_neg (by decide)]; omega
theorem vsL_fp {ps : List Nat} : ∀ l, VsL ps l → fpL l ≤ 4 * wtL l
  | [], h => by rw [fpL, wtL]; omega
  | p :: l, h => by
    rw [VsL] at h
    have := vs_fp p h.1
    have := vsL_fp l h.2
    rw [fpL, wtL]
    omega
theorem vsLL_fp {ps : List Nat} : ∀ l, VsLL ps l → fpLL l ≤ 4 * wtLL l
  | [], h => by rw [fpLL, wtLL]; omega
  | b :: l, h => by
    rw [VsLL] at h
    have := vsL_fp b h.1
    have := vsLL_fp l h.2
    rw [fpLL, wtLL]
    omega
end
end Pk
set_option linter.all false
set_option maxRecDepth 100000
namespace Pk
/-! ### how much heavier a pact may become by one change -/
mutual
def gn : Pt → Nat
  | .tr _ _ _ => 0
  | .ev _ => 0
  | .ch _ os => gnLL os
  | .rd _ b => gnL b
  | .en b => gnL b
  | .ti c b => max (wtL b) ((if c < 1 then 1 else c) * gnL b)
def gnL : List Pt → Nat
  | [] => 1
  | p :: l => max (gn p) (gnL l)
def gnLL : List (List Pt) → Nat
  | [] => 1
  | b :: l => max (gnL b) (gnLL l)
end
/-- of a part: at most 100, or three times its weight -/
def GnO (p : Pt) : Prop := gn p ≤ max 100 (3 * wt p)
theorem gnL_mem {p : Pt} : ∀ {l : List Pt}, p ∈ l → gn p ≤ gnL l
  | [], h => absurd h List.not_mem_nil
  | q :: l, h => by
    rw [gnL]
    rcases List.mem_cons.mp h with rfl | h
    · omega
    · have := gnL_mem h
      omega
theorem gnLL_mem {b : List Pt} : ∀ {l : List (List Pt)}, b ∈ l → gnL b ≤ gnLL l
  | [], h => absurd h List.not_mem_nil
  | q :: l, h => by
    rw [gnLL]
    rcases List.mem_cons.mp h with rfl | h
    · omega
    · have := gnLL_mem h
      omega
theorem gnL_le {n : Nat} : ∀ {l : List Pt}, 1 ≤ n → (∀ p ∈ l, gn p ≤ n) → gnL l ≤ n
  | [], h1, _ => by rw [gnL]; exact h1
  | p :: l, h1, h => by
    have a := h p List.mem_cons_self
    have b := gnL_le (l := l) h1 fun q hq => h q (List.mem_cons_of_mem _ hq)
    rw [gnL]
    omega
theorem gnLL_le {n : Nat} : ∀ {l : List (List Pt)}, 1 ≤ n → (∀ p ∈ l, gnL p ≤ n) → gnLL l ≤ n
  | [], h1, _ => by rw [gnLL]; exact h1
  | p :: l, h1, h => by
    have a := h p List.mem_cons_self
    have b := gnLL_le (l := l) h1 fun q hq => h q (List.mem_cons_of_mem _ hq)
    rw [gnLL]
    omega
theorem gnL_all {l : List Pt} (h : ∀ p ∈ l, GnO p) : gnL l ≤ max 100 (3 * wtL l) := gnL_le (by omega) fun p hp => by
  have := h p hp
  have := wtL_mem hp
  unfold GnO at *
  omega
mutual
theorem gn_vs {ps : List Nat} : ∀ p : Pt, Ok p → Vs ps p → gn p ≤ 3 * wt p
  | .tr _ _ _, _, _ => by rw [gn]; exact Nat.zero_le _
  | .ev _, _, _ => by rw [gn]; exact Nat.zero_le _
  | .ch o os, k, h => by
    rw [Ok] at k
    rw [Vs] at h
    have := gnLL_vs os k.2.2.2 h.2
    rw [gn, wt]
    omega
  | .rd o b, k, h => by
    rw [Ok] at k
    rw [Vs] at h
    have := gnL_vs b k.2 h.2
    rw [gn, wt]
    omega
  | .en b, k, h => by
    rw [Ok] at k
    rw [Vs] at h
    have := gnL_vs b k h
    rw [gn, wt]
    omega
  | .ti c b, k, h => by
    rw [Ok] at k
    rw [Vs] at h
    have := gnL_vs b k.2 h.2
    have h2 : (if c < 1 then 1 else c) ≤ 3 := by split <;> omega
    have h3 : 1 ≤ (if c < 1 then 1 else c) := by split <;> omega
    rw [gn, wt]
    generalize (if c < 1 then 1 else c) = m at h2 h3
    have e : m = 1 ∨ m = 2 ∨ m = 3 := by omega
    rcases e with rfl | rfl | rfl <;> omega
theorem gnL_vs {ps : List Nat} : ∀ l : List Pt, OkL l → VsL ps l → gnL l ≤ max 1 (3 * wtL l)
  | [], _, _ => by rw [gnL]; omega
  | p :: l, k, h => by
    rw [OkL] at k
    rw [VsL] at h
    have h1 := gn_vs p k.1 h.1
    have h2 := gnL_vs l k.2 h.2
    rw [gnL, wtL]
    omega
theorem gnLL_vs {ps : List Nat} : ∀ l : List (List Pt), OkLL l → VsLL ps l → gnLL l ≤ max 1 (3 * wtLL l)
  | [], _, _ => by rw [gnLL]; omega
  | p :: l, k, h => by
    rw [OkLL] at k
    rw [VsLL] at h
    have h1 := gnL_vs p k.1 h.1
    have h2 := gnLL_vs l k.2 h.2
    rw [gnLL, wtLL]
    omega
end
theorem GnO.vs {ps : List Nat} {p : Pt} (k : Ok p) (h : Vs ps p) : GnO p := by
  have := gn_vs p k h
  unfold GnO
  omega
theorem GnO.tr {a b m : Nat} : GnO (.tr a b m) := by unfold GnO; rw [gn]; exact Nat.zero_le _
theorem GnO.ev {c : Nat} : GnO (.ev c) := by unfold GnO; rw [gn]; exact Nat.zero_le _
theorem GnO.ti {ps : List Nat} {z : Nat} {b : List Pt} (k : OkL b) (hz : z ≤ 100) (h : VsL ps b) : GnO (.ti z b) := by
  unfold GnO
  rw [gn, wt]
  have h1 := gnL_vs b k h
  have h3 : 1 ≤ (if z < 1 then 1 else z) := by split <;> omega
  have h4 : (if z < 1 then 1 else z) ≤ 100 := by split <;> omega
  generalize (if z < 1 then 1 else z) = m at h3 h4
  have h5 : wtL b ≤ wtL b * m := Nat.le_mul_of_pos_right _ (by omega)
  have h6 : m * gnL b ≤ m * max 1 (3 * wtL b) := Nat.mul_le_mul_left _ h1
  rcases Nat.lt_or_ge (3 * wtL b) 1 with c | c
  · rw [show max 1 (3 * wtL b) = 1 by omega] at h6
    omega
  · rw [show max 1 (3 * wtL b) = 3 * wtL b by omega] at h6
    have h7 : m * (3 * wtL b) = 3 * (wtL b * m) := by rw [Nat.mul_left_comm, Nat.mul_comm m]
    omega
theorem GnO.en {b : List Pt} (h : ∀ p ∈ b, GnO p) : GnO (.en b) := by
  have := gnL_all h
  unfold GnO
  rw [gn, wt]
  omega
theorem GnO.rd {o : Nat} {b : List Pt} (h : ∀ p ∈ b, GnO p) : GnO (.rd o b) := by
  have := gnL_all h
  unfold GnO
  rw [gn, wt]
  omega
theorem GnO.t1 {c : Nat} {b : List Pt} (hc : c ≤ 1) (h : ∀ p ∈ b, GnO p) : GnO (.ti c b) := by
  have := gnL_all h
  unfold GnO
  rw [gn, wt, show (if c < 1 then 1 else c) = 1 by split <;> omega]
  omega
theorem GnO.ch {o : Nat} {os : List (List Pt)} (h : ∀ b ∈ os, ∀ p ∈ b, GnO p) : GnO (.ch o os) := by
  have : gnLL os ≤ max 100 (3 * wtLL os) := gnLL_le (by omega) fun b hb => by
    have := gnL_all (h b hb)
    have := wtLL_mem hb
    omega
  unfold GnO
  rw [gn, wt]
  omega
end Pk
set_option pp.maxSteps 700
set_option Elab.async false
set_option linter.all false
set_option maxRecDepth 100000
set_option maxHeartbeats 4000000
open SX (S S_inj S_len S_cat)
namespace Z
open Pk NdefX
open PySem PySem.Spec PyProof.Rows L2
open C8 (pss_cut tCut)
local macro_rules | `(tactic| walk_at "num") => `(tactic| first | rfl | omega | decide | exact Nat.le_of_lt (small1000 (by simp)) | exact ⟨by omega, by omega⟩ | exact ⟨by omega, by omega, by omega⟩ | exact ⟨by decide, by decide, by decide⟩ | exact Or.inl ⟨by omega, by omega⟩ | exact Or.inr ⟨by omega, by omega⟩)
local macro_rules | `(tactic| walk_at "go") => `(tactic| repeat (first | refine ⟨_, rfl, ?_⟩ | refine ⟨_, _, rfl, rfl, ?_⟩ | refine ⟨_, _, rfl, ?_⟩ | (refine ⟨_, _, rfl, rfl, ?_, ?_⟩; focus walk_at "num") | refine Or.inl ⟨_, rfl, ?_⟩ | refine ⟨_, _, _, _, rfl, rfl, (by assumption), (by rfl), ?_⟩ | refine ⟨_, _, _, _, _, rfl, (by assumption), (by assumption), (by assumption), (by rfl), ?_⟩ | refine ⟨rfl, ?_⟩ | (refine And.intro ?_ ?_; focus walk_at "num")))
abbrev s_amount : Stmt := topS 50
abbrev N_amount : List Str := ["_law_draw", "_law_value", "_law_k"]
abbrev P_amount : List Str := ["_law_draw"]
theorem sc_amount : FnScope N_amount P_amount (defScope s_amount) := ⟨rfl, rfl, rfl, by decide +kernel, rfl, by decide +kernel, by decide +kernel⟩
abbrev s_pact : Stmt := topS 51
abbrev N_pact : List Str := ["_law_draws_here", "_law_place", "_law_depth_here", "_law_parties", "_law_marks_here", "_law_size", "_law_k"]
abbrev P_pact : List Str := ["_law_draws_here", "_law_place", "_law_depth_here", "_law_parties", "_law_marks_here"]
theorem sc_pact : FnScope N_pact P_pact (defScope s_pact) := ⟨rfl, rfl, rfl, by decide +kernel, rfl, by decide +kernel, by decide +kernel⟩
abbrev s_part : Stmt := topS 52
abbrev N_part : List Str := ["_law_draws_here", "_law_place", "_law_depth_here", "_law_parties", "_law_marks_here", "_law_kind", "_law_draw", "_law_many", "_law_owner", "_law_payee", "_law_size", "_law_k", "_law_body"]
abbrev P_part : List Str := ["_law_draws_here", "_law_place", "_law_depth_here", "_law_parties", "_law_marks_here"]
theorem sc_part : FnScope N_part P_part (defScope s_part) := ⟨rfl, rfl, rfl, by decide +kernel, rfl, by decide +kernel, by decide +kernel⟩
section
variable {P : Program} {w : World} {K : PySem.W.Frag} {mg : Str → Option Value} {base : Heap} {f : Addr} {k : Cs} {fd : FuncData}
def spAm : Sp := fun vs H Q _ => ∃ d : Int, vs = [.int d] ∧ 0 ≤ d ∧ d < 1000000 ∧ ∀ m : Nat, m ≤ 10 ^ 57 → Q (.int (m : Int)) H
theorem ok_amount (F : FnP K "_law_amount" s_amount f fd) (m_int : mg "int" = none) (m_range : mg "range" = none) : FnOk P w K mg base CX0 1 f fd P_amount spAm := by
  refine F.ok sc_amount (fun vs H Q E h => ?_) (fun cdv A outer s H vs Q E hr h => ?_)
  · obtain ⟨d, rfl, _⟩ := h
    rfl
  · obtain ⟨d, rfl, d0, d1, q⟩ := h
    refine ⟨_, PSs.nox (pss_cons (ps_if (pt_cmpR op_ne (pe_op op_mod (pe_callTy call_int1 (by rfl) m_int (by decide +kernel) (pa_cons (pv 0) pa_nil)) pe_int) pe_int (nomark _)) (pss_one (ps_ret (pe_op op_mod (pe_callTy call_int1 (by rfl) m_int (by decide +kernel) (pa_cons (pe_op op_fdiv (pv 0) pe_int) pa_nil)) pe_int))) pss_nil)
      (pss_cons (ps_set (i := 1) sc_amount.nd rfl (by first | exact .inl rfl | exact .inr rfl) (pe_op op_add (pe_op op_mod (pe_callTy call_int1 (by rfl) m_int (by decide +kernel) (pa_cons (pe_op op_fdiv (pv 0) pe_int) pa_nil)) pe_int) pe_int))
      (pss_cons (ps_for PassesOwn.never rfl (pi_range1 (by rfl) m_range (pa_cons (pe_op op_mod (pe_callTy call_int1 (by rfl) m_int (by decide +kernel) (pa_cons (pe_op op_fdiv (pv 0) pe_int) pa_nil)) pe_int) pa_nil)) (pg_name (i := 2) sc_amount.nd rfl (by first | exact .inl rfl | exact .inr rfl))
        (pss_one (ps_set (i := 1) sc_amount.nd rfl (by first | exact .inl rfl | exact .inr rfl) (pe_op op_mul (pv 1) pe_int))))
      (pss_one (ps_ret (pv 1)))))), ?_⟩
    walk_at "go"
    refine ite2 (fun e => ?_) (fun e => ?_)
    · walk_at "go"
      have := q (d / 9 % 12).toNat (Nat.le_trans (show _ ≤ 12 by omega) (by decide +kernel))
      rw [Int.toNat_of_nonneg (by omega)] at this
      exact this
    · walk_at "go"
      obtain ⟨c, ec, hc⟩ : ∃ c : Nat, d / 9000 % 55 = (c : Int) ∧ c ≤ 54 := ⟨(d / 9000 % 55).toNat, by omega, by omega⟩
      obtain ⟨b, eb, hb⟩ : ∃ b : Nat, d / 9 % 1000 + 1 = (b : Int) ∧ b ≤ 1000 := ⟨(d / 9 % 1000 + 1).toNat, by omega, by omega⟩
      refine for_gen (n := c) (fun k σ J => J = H ∧ ∃ v : Option V, σ = [some (.int d), some (.int ((b * 10 ^ k : Nat) : Int)), v]) ⟨rfl, none, ?_⟩ ?_ ?_ ?_ ?_
      · rw [Nat.pow_zero, Nat.mul_one, ← eb]
        rfl
      · intro k σ J hk _
        show k < (d / 9000 % 55).toNat
        omega
      · intro σ J _
        show (d / 9000 % 55).toNat ≤ c
        omega
      · rintro k σ J x J' hk ⟨rfl, v, rfl⟩ ⟨rfl, rfl⟩
        walk_at "go"
        refine ⟨some (.int (0 + (k : Int))), ?_⟩
        rw [Nat.pow_succ, ← Nat.mul_assoc]
        rfl
      · rintro σ J ⟨rfl, v, rfl⟩
        walk_at "go"
        refine q _ (Nat.le_trans (Nat.mul_le_mul hb (Nat.pow_le_pow_right (by decide) hc)) (by decide +kernel))
/-- the weight of a drawn part -/
def mxw : Nat → Nat
  | 0 => 1
  | e + 1 => 1 + 18 * mxw e
theorem mxw_pos : ∀ e, 1 ≤ mxw e
  | 0 => Nat.le_refl _
  | e + 1 => Nat.le_add_right _ _
structure PM (ps ms : List Nat) : Prop where
  nd : ps.Nodup
  l2 : 2 ≤ ps.length
  l6 : ps.length ≤ 6
  par : ∀ c ∈ ps, c ∈ PAR
  mk0 : 0 < ms.length
  mk1 : ms.length ≤ 100
  mrk : ∀ c ∈ ms, c ∈ MRK
/-- the drawn values as a list -/
theorem drawn_l {X : Hp} {W D : Nat} {ps : List Nat} : ∀ ys : List V, (∀ (k : Nat) y, ys[k]? = some y → ∃ b x, y = .ref b ∧ DtAt X x b ∧ Ok x ∧ wt x ≤ W ∧ dp x ≤ D ∧ Vs ps x) → ∃ (l : List Pt) (bs : List Addr), ys = bs.map V.ref ∧ DtsAt X l bs ∧ OkL l ∧ wtL l ≤ ys.length * W ∧ dpL l ≤ D ∧ l.length = ys.length ∧ VsL ps l
  | [], _ => ⟨[], [], rfl, by rw [DtsAt], by rw [OkL]; trivial, Nat.zero_le _, Nat.zero_le _, rfl, by rw [VsL]; trivial⟩
  | y :: ys, h => by
    obtain ⟨l, bs, e, h1, h2, h3, h4, h5, h6⟩ := drawn_l ys fun k z hz => h (k + 1) z hz
    obtain ⟨b, x, rfl, g1, g2, g3, g4, g5⟩ := h 0 y rfl
    refine ⟨x :: l, b :: bs, by rw [e]; rfl, by rw [DtsAt]; exact ⟨b, bs, rfl, g1, h1⟩, by rw [OkL]; exact ⟨g2, h2⟩, ?_, ?_, by rw [List.length_cons, List.length_cons, h5], by rw [VsL]; exact ⟨g5, h6⟩⟩
    · rw [wtL, List.length_cons, Nat.succ_mul]
      omega
    · rw [dpL]
      omega
theorem drawn_ll {X : Hp} {W D : Nat} {ps : List Nat} : ∀ ys : List V, (∀ (k : Nat) y, ys[k]? = some y → ∃ b x, y = .ref b ∧ DaAt X x b ∧ OkL x ∧ wtL x ≤ W ∧ dpL x ≤ D ∧ VsL ps x) → ∃ (l : List (List Pt)) (bs : List Addr), ys = bs.map V.ref ∧ DasAt X l bs ∧ OkLL l ∧ wtLL l ≤ ys.length * W ∧ dpLL l ≤ D ∧ l.length = ys.length ∧ VsLL ps l
  | [], _ => ⟨[], [], rfl, by rw [DasAt], by rw [OkLL]; trivial, Nat.zero_le _, Nat.zero_le _, rfl, by rw [VsLL]; trivial⟩
  | y :: ys, h => by
    obtain ⟨l, bs, e, h1, h2, h3, h4, h5, h6⟩ := drawn_ll ys fun k z hz => h (k + 1) z hz
    obtain ⟨b, x, rfl, g1, g2, g3, g4, g5⟩ := h 0 y rfl
    refine ⟨x :: l, b :: bs, by rw [e]; rfl, by rw [DasAt]; exact ⟨b, bs, rfl, g1, h1⟩, by rw [OkLL]; exact ⟨g2, h2⟩, ?_, ?_, by rw [List.length_cons, List.length_cons, h5], by rw [VsLL]; exact ⟨g5, h6⟩⟩
    · rw [wtLL, List.length_cons, Nat.succ_mul]
      omega
    · rw [dpLL]
      omega
def spPc (K : PySem.W.Frag) (d : Nat) : Sp := fun vs H Q _ => ∃ (a p : Addr) (n e : Nat) (ds : List Int) (ps ms : List Nat), vs = [.ref a, .ref p, .int (e : Int), .str (S ps), .str (S ms)] ∧ Tk K a p ds n H H ∧ PM ps ms ∧ e + 1 ≤ d ∧ ∀ (D : Addr) (l : List Pt) H', Tk K a p ds n H H' → DaAt (nw H H') l D → OkL l → wtL l ≤ 3 * mxw e → dpL l ≤ e + 1 → l.length ≤ 3 → VsL ps l → Q (.ref D) H'
def spPp (K : PySem.W.Frag) (d : Nat) : Sp := fun vs H Q _ => ∃ (a p : Addr) (n e : Nat) (ds : List Int) (ps ms : List Nat), vs = [.ref a, .ref p, .int (e : Int), .str (S ps), .str (S ms)] ∧ Tk K a p ds n H H ∧ PM ps ms ∧ e ≤ d ∧ ∀ (y : Addr) (x : Pt) H', Tk K a p ds n H H' → DtAt (nw H H') x y → Ok x → wt x ≤ mxw e → dp x ≤ e + 1 → Vs ps x → Q (.ref y) H'
theorem ok_pact {d : Nat} (F : FnP K "_law_pact" s_pact f fd) (m_int : mg "int" = none) (m_range : mg "range" = none) (c_take : Cal P w K mg base 1 "_law_take" (spTake K)) (c_part : Cal P w K mg base (2 * d + 7) "_law_part" (spPp K d)) : FnOk P w K mg base CX0 (2 * d + 8) f fd P_pact (spPc K (d + 1)) := by
  refine F.ok sc_pact (fun vs H Q E h => ?_) (fun cdv A outer s H vs Q E hr h => ?_)
  · obtain ⟨a, p, n, e, ds, ps, ms, rfl, _⟩ := h
    rfl
  · obtain ⟨a, p, n, e, ds, ps, ms, rfl, hT, pm, he, qq⟩ := h
    refine ⟨_, PSs.nox (pss_cons (ps_set (i := 5) sc_pact.nd rfl (by first | exact .inl rfl | exact .inr rfl) (pe_op op_mod (pe_callTy call_int1 (by rfl) m_int (by decide +kernel) (pa_cons (pe_cl c_take hr (by omega) (by rfl) (pa_cons (pv 0) (pa_cons (pv 1) pa_nil))) pa_nil)) pe_int))
      (pss_one (ps_ret (pe_lc (own := [("_law_k", 6)]) (g := (gName 6)) (tt := tYes) (by rfl) sc_pact.nd (pi_range1 (by rfl) m_range (pa_cons (pv 5) pa_nil)) (blkOk_by (own := [("_law_k", 6)]) (N := N_pact) (sc := defScope s_pact) (by decide +kernel)) (fun _ _ _ _ _ => (pg_name (i := 6) sc_pact.nd rfl (by first | exact .inl rfl | exact .inr rfl))) (fun _ _ _ _ _ => pts_nil) (fun _ _ _ _ _ => (pe_cl c_part hr (by omega) (by rfl) (pa_cons (pv 0) (pa_cons (pv 1) (pa_cons (pv 2) (pa_cons (pv 3) (pa_cons (pv 4) pa_nil))))))))))), ?_⟩
    obtain ⟨mm, em⟩ := hT.pl
    walk_at "go"
    refine ⟨a, p, n, mm, ds, rfl, SqL.of hT.hA, hT.hd, em, hT.ne, fun r r0 r1 => ?_⟩
    obtain ⟨hT1, _⟩ := hT.next em
    generalize upd H p (.lst [.int ((mm + 1 : Nat) : Int)]) = H1 at hT1
    obtain ⟨c, ec, hc⟩ : ∃ c : Nat, r % 4 = (c : Int) ∧ c ≤ 3 := ⟨(r % 4).toNat, by omega, by omega⟩
    walk_at "go"
    intro D nD
    refine lc_nw (G := fun i X y => ∃ b x, y = .ref b ∧ DtAt X x b ∧ Ok x ∧ wt x ≤ mxw e ∧ dp x ≤ e + 1 ∧ Vs ps x) (n := c) (fun i X Y y s h => ?_) hT1.slf nD (by omega) (fun k J' hk => ?_) (fun J' => ?_) (fun k J1 x J2 hk h => ?_) (fun x => rfl) (fun k x J1 Q1 hk h hT2 q1 => ?_) (fun J1 ys hT2 eD ly hG => ?_)
    · obtain ⟨b, x, h1, h2, h3⟩ := h
      exact ⟨b, x, h1, h2.mono s, h3⟩
    · show k < (r % 4).toNat
      omega
    · show (r % 4).toNat ≤ c
      omega
    · exact h.1
    · walk_at "go"
      refine ⟨a, p, n, e, ds, ps, ms, rfl, hT2.slf, pm, by omega, fun y x H' hT3 hx okx hwx hdx ux => q1 _ _ hT3 ⟨y, x, rfl, hx, okx, hwx, hdx, ux⟩⟩
    · obtain ⟨l, bs, rfl, h1, h2, h3, h4, h5, h6⟩ := drawn_l ys hG
      rw [ly] at h3 h5
      have := Nat.mul_le_mul_right (mxw e) hc
      exact qq D l J1 (hT1.tr hT2) ⟨bs, nw_of (hT1.nn nD) eD, h1.mono (fun a o h => nw_trans (fun _ h => hT1.nn h) _ _ (nwD_nw _ _ h)) _ _⟩ h2 (by omega) (by omega) (by omega) h6
theorem at_S {ps : List Nat} {j : Nat} (h : j < ps.length) : atI (S ps).cps.toList (j : Int) = some ps[j] := atI_nat (show ps.toArray.toList[j]? = some ps[j] by rw [List.getElem?_eq_getElem h])
theorem modNd (r : Int) {n : Nat} (h : 0 < n) : ∃ c : Nat, r % (n : Int) = (c : Int) ∧ c < n := modN r h
theorem ok_part_ {d : Nat} (F : FnP K "_law_part" s_part f fd) (m_int : mg "int" = none) (m_len : mg "len" = none) (m_range : mg "range" = none) (c_take : Cal P w K mg base 1 "_law_take" (spTake K)) (c_amount : Cal P w K mg base 1 "_law_amount" spAm) (c_pact : Cal P w K mg base (2 * d + 6) "_law_pact" (spPc K d)) : FnOk P w K mg base CX0 (2 * d + 7) f fd P_part (spPp K d) := by
  refine F.ok sc_part (fun vs H Q E h => ?_) (fun cdv A outer s H vs Q E hr h => ?_)
  · obtain ⟨a, p, n, e, ds, ps, ms, rfl, _⟩ := h
    rfl
  · obtain ⟨a, p, n, e, ds, ps, ms, rfl, hT, pm, he, qq⟩ := h
    refine ⟨_, PSs.nox (pss_cons (ps_set (i := 5) sc_part.nd rfl (by first | exact .inl rfl | exact .inr rfl) (pe_op op_mod (pe_callTy call_int1 (by rfl) m_int (by decide +kernel) (pa_cons (pe_cl c_take hr (by omega) (by rfl) (pa_cons (pv 0) (pa_cons (pv 1) pa_nil))) pa_nil)) pe_int))
      (pss_cons (ps_set (i := 6) sc_part.nd rfl (by first | exact .inl rfl | exact .inr rfl) (pe_cl c_take hr (by omega) (by rfl) (pa_cons (pv 0) (pa_cons (pv 1) pa_nil))))
      (pss_cons (ps_set (i := 7) sc_part.nd rfl (by first | exact .inl rfl | exact .inr rfl) (pe_callB call_len_str (by rfl) m_len PySem.boot_len (pa_cons (pv 3) pa_nil)))
      (pss_cons (ps_set (i := 8) sc_part.nd rfl (by first | exact .inl rfl | exact .inr rfl) (pe_ix ix_str (pv 3) (pe_op op_mod (pe_callTy call_int1 (by rfl) m_int (by decide +kernel) (pa_cons (pv 6) pa_nil)) (pv 7)) (fun _ _ => rfl)))
      (pss_cons (ps_if (PW.pt (pw_or (pt_cmpR op_eq (pv 5) pe_int (nomark _)) (pw_or (pt_cmpR op_eq (pv 5) pe_int (nomark _)) (pw_or1 (PW.pt (pw_and (pt_cmpR op_eq (pv 2) pe_int (nomark _)) (pw_and1 (pt_cmpR op_eq (pe_op op_mod (pe_callTy call_int1 (by rfl) m_int (by decide +kernel) (pa_cons (pv 5) pa_nil)) pe_int) pe_int (nomark _))))))))) (pss_one (ps_ret (pe_tup (pa_cons pe_str (pa_cons (pe_ix ix_str (pv 4) (pe_op op_mod (pe_callTy call_int1 (by rfl) m_int (by decide +kernel) (pa_cons (pv 6) pa_nil)) (pe_callB call_len_str (by rfl) m_len PySem.boot_len (pa_cons (pv 4) pa_nil))) (fun _ _ => rfl)) pa_nil))))) pss_nil)
      (pss_cons (ps_if (PW.pt (pw_or (pt_cmpR op_lt (pv 5) pe_int (nomark _)) (pw_or1 (pt_cmpR op_eq (pv 2) pe_int (nomark _))))) (pss_cons (ps_set (i := 9) sc_part.nd rfl (by first | exact .inl rfl | exact .inr rfl) (pe_ix ix_str (pv 3) (pe_op op_mod (pe_callTy call_int1 (by rfl) m_int (by decide +kernel) (pa_cons (pe_op op_add (pe_op op_add (pe_op op_mod (pe_callTy call_int1 (by rfl) m_int (by decide +kernel) (pa_cons (pv 6) pa_nil)) (pv 7)) pe_int) (pe_op op_mod (pe_callTy call_int1 (by rfl) m_int (by decide +kernel) (pa_cons (pe_op op_fdiv (pv 6) (pv 7)) pa_nil)) (pe_op op_sub (pv 7) pe_int))) pa_nil)) (pv 7)) (fun _ _ => rfl)))
      (pss_one (ps_ret (pe_tup (pa_cons pe_str (pa_cons (pv 8) (pa_cons (pv 9) (pa_cons (pe_cl c_amount hr (by omega) (by rfl) (pa_cons (pe_cl c_take hr (by omega) (by rfl) (pa_cons (pv 0) (pa_cons (pv 1) pa_nil))) pa_nil)) pa_nil)))))))) pss_nil)
      (pss_cons (ps_if (pt_cmpR op_lt (pv 5) pe_int (nomark _)) (pss_cons (ps_set (i := 10) sc_part.nd rfl (by first | exact .inl rfl | exact .inr rfl) (pe_op op_add pe_int (pe_op op_mod (pe_callTy call_int1 (by rfl) m_int (by decide +kernel) (pa_cons (pe_op op_fdiv (pv 6) pe_int) pa_nil)) pe_int)))
      (pss_cut (ps_if (pt_cmpR op_eq (pe_op op_mod (pe_callTy call_int1 (by rfl) m_int (by decide +kernel) (pa_cons (pe_op op_fdiv (pv 6) pe_int) pa_nil)) pe_int) pe_int (nomark _)) (pss_one (ps_set (i := 10) sc_part.nd rfl (by first | exact .inl rfl | exact .inr rfl) (pe_op op_add pe_int (pe_op op_mod (pe_callTy call_int1 (by rfl) m_int (by decide +kernel) (pa_cons (pe_op op_fdiv (pv 6) pe_int) pa_nil)) pe_int)))) pss_nil)
      (pss_one (ps_ret (pe_tup (pa_cons pe_str (pa_cons (pv 8) (pa_cons (pe_lc (own := [("_law_k", 11)]) (g := (gName 11)) (tt := tYes) (by rfl) sc_part.nd (pi_range1 (by rfl) m_range (pa_cons (pv 10) pa_nil)) (blkOk_by (own := [("_law_k", 11)]) (N := N_part) (sc := defScope s_part) (by decide +kernel)) (fun _ _ _ _ _ => (pg_name (i := 11) sc_part.nd rfl (by first | exact .inl rfl | exact .inr rfl))) (fun _ _ _ _ _ => pts_nil) (fun _ _ _ _ _ => (pe_cl c_pact hr (by omega) (by rfl) (pa_cons (pv 0) (pa_cons (pv 1) (pa_cons (pe_op op_sub (pv 2) pe_int) (pa_cons (pv 3) (pa_cons (pv 4) pa_nil)))))))) pa_nil)))))))) pss_nil)
      (pss_cons (ps_set (i := 12) sc_part.nd rfl (by first | exact .inl rfl | exact .inr rfl) (pe_cl c_pact hr (by omega) (by rfl) (pa_cons (pv 0) (pa_cons (pv 1) (pa_cons (pe_op op_sub (pv 2) pe_int) (pa_cons (pv 3) (pa_cons (pv 4) pa_nil)))))))
      (pss_cons (ps_if (pt_cmpR op_eq (pv 5) pe_int (nomark _)) (pss_one (ps_ret (pe_tup (pa_cons pe_str (pa_cons (pe_op op_mod (pe_callTy call_int1 (by rfl) m_int (by decide +kernel) (pa_cons (pe_op op_fdiv (pv 6) pe_int) pa_nil)) pe_int) (pa_cons (pv 12) pa_nil)))))) pss_nil)
      (pss_cons (ps_if (PW.pt (pw_and (pt_cmpR op_eq (pv 5) pe_int (nomark _)) (pw_and1 (pt_cmpR op_eq (pe_op op_mod (pe_callTy call_int1 (by rfl) m_int (by decide +kernel) (pa_cons (pv 6) pa_nil)) pe_int) pe_int (nomark _))))) (pss_one (ps_ret (pe_tup (pa_cons pe_str (pa_cons (pv 12) pa_nil))))) pss_nil)
      (pss_one (ps_ret (pe_tup (pa_cons pe_str (pa_cons (pv 8) (pa_cons (pv 12) pa_nil)))))))))))))))), ?_⟩
    have lps : (S ps).length = ps.length := S_len _
    have lms : (S ms).length = ms.length := S_len _
    have l2 := pm.l2
    have l6 := pm.l6
    have mk0 := pm.mk0
    have mk1 := pm.mk1
    obtain ⟨mm, em⟩ := hT.pl
    walk_at "go"
    refine ⟨a, p, n, mm, ds, rfl, SqL.of hT.hA, hT.hd, em, hT.ne, fun r r0 r1 => ?_⟩
    obtain ⟨hT1, _⟩ := hT.next em
    generalize upd H p (.lst [.int ((mm + 1 : Nat) : Int)]) = H1 at hT1
    obtain ⟨m1, em1⟩ := hT1.pl
    walk_at "go"
    refine ⟨a, p, n, m1, ds, rfl, SqL.of hT1.hA, hT1.hd, em1, hT1.ne, fun r2 r20 r21 => ?_⟩
    obtain ⟨hT2, _⟩ := hT1.next em1
    generalize upd H1 p (.lst [.int ((m1 + 1 : Nat) : Int)]) = H2 at hT2
    have sps : (S ps).length ≤ sizeLine := by rw [lps]; exact szl (by omega)
    have sms : (S ms).length ≤ sizeLine := by rw [lms]; exact szl (by omega)
    obtain ⟨kd, ekd, hkd⟩ : ∃ kd : Int, r % 12 = kd ∧ 0 ≤ kd ∧ kd < 12 := ⟨_, rfl, by omega, by omega⟩
    walk_at "go"
    obtain ⟨io, eio, hio⟩ := modN r2 (show 0 < ps.length by omega)
    rw [lps]
    refine ⟨S ps, (io : Int), ps[io], rfl, (show V.int (r2 % (ps.length : Int)) = V.int (io : Int) from congrArg V.int eio), sps, at_S hio, ?_⟩
    have hpo := pm.par _ (List.getElem_mem hio)
    have hpu := List.getElem_mem hio
    rw [show L2.start N_part [V.ref a, V.ref p, V.int (e : Int), V.str (S ps), V.str (S ms)] = [some (V.ref a), some (V.ref p), some (V.int (e : Int)), some (V.str (S ps)), some (V.str (S ms)), none, none, none, none, none, none, none, none] from rfl]
    dsimp only [List.set]
    rw [ekd]
    clear ekd em em1 hT1
    -- leaves
    have fE : ∀ (y : Addr) (c : Nat), H2 y = none → c ∈ MRK → Q (.ref y) (upd H2 y (.tup [.str "event", .str (S [c])])) := fun y c ny hc => by
      have := mxw_pos e
      refine qq y (.ev c) _ (hT2.more (same_new ny)) ?_ ?_ ?_ ?_ ?_
      · rw [DtAt]
        exact nw_of (hT2.nn ny) upd_same
      · rw [Ok]
        exact hc
      · rw [wt]
        exact this
      · rw [dp]
        omega
      · rw [Vs]
        trivial
    have ixm : ∃ im, ∃ h : im < ms.length, r2 % (ms.length : Int) = (im : Int) ∧ ms[im] ∈ MRK := by
      obtain ⟨im, e1, h1⟩ := modN r2 mk0
      exact ⟨im, h1, e1, pm.mrk _ (List.getElem_mem h1)⟩
    obtain ⟨im, him, eim, hmm⟩ := ixm
    have ixp : ∃ j, ∃ h : j < ps.length, (r2 % (ps.length : Int) + 1 + r2 / (ps.length : Int) % ((ps.length : Int) - 1)) % (ps.length : Int) = (j : Int) ∧ ps[io] ≠ ps[j] ∧ ps[j] ∈ PAR := by
      obtain ⟨t, e1, h1⟩ := modN (r2 / (ps.length : Int)) (show 0 < ps.length - 1 by omega)
      rw [eio, show ((ps.length : Int) - 1) = ((ps.length - 1 : Nat) : Int) by omega, e1]
      obtain ⟨j, e2, h2⟩ := modN ((io : Int) + 1 + (t : Int)) (show 0 < ps.length by omega)
      refine ⟨j, h2, e2, fun z => ?_, pm.par _ (List.getElem_mem h2)⟩
      have := (List.getElem_inj pm.nd).mp z
      subst this
      by_cases c : io + 1 + t < ps.length
      · rw [Int.emod_eq_of_lt (by omega) (by omega)] at e2
        omega
      · rw [show ((io : Int) + 1 + (t : Int)) = ((io : Int) + 1 + (t : Int) - (ps.length : Int)) + (ps.length : Int) by omega, Int.add_emod_right, Int.emod_eq_of_lt (by omega) (by omega)] at e2
        omega
    obtain ⟨ip, hip, eip, npp, hpp⟩ := ixp
    have fT : ∀ (y : Addr) (q m : Nat) H3, Tk K a p ds n H H3 → H3 y = none → ps[io] ≠ q → q ∈ PAR → q ∈ ps → m ≤ 10 ^ 57 → Q (.ref y) (upd H3 y (.tup [.str "transfer", .str (S [ps[io]]), .str (S [q]), .int (m : Int)])) := fun y q m H3 hT3 ny nq hq hqu hm => by
      have := mxw_pos e
      refine qq y (.tr ps[io] q m) _ (hT3.more (same_new ny)) ?_ ?_ ?_ ?_ ?_
      · rw [DtAt]
        exact nw_of (hT3.nn ny) upd_same
      · rw [Ok]
        exact ⟨hpo, hq, nq, Nat.le_trans hm (by decide +kernel)⟩
      · rw [wt]
        exact this
      · rw [dp]
        omega
      · rw [Vs]
        exact ⟨hpu, hqu⟩
    generalize hpoe : ps[io] = po at hpo hpu npp fT
    -- a drawn pact
    have hdm : e = 0 ∨ 1 ≤ e := by omega
    rcases hdm with rfl | he1
    · have hz : decide (V.int ((0 : Nat) : Int) = V.int 0) = true := decide_eq_true rfl
      rcases (show kd = 0 ∨ kd = 1 ∨ kd = 2 ∨ kd = 3 ∨ kd = 4 ∨ kd = 5 ∨ kd = 6 ∨ kd = 7 ∨ kd = 8 ∨ kd = 9 ∨ kd = 10 ∨ kd = 11 by omega) with rfl | rfl | rfl | rfl | rfl | rfl | rfl | rfl | rfl | rfl | rfl | rfl
      · walk_at "go"
        refine ⟨S ps, (ip : Int), ps[ip], rfl, (show V.int _ = V.int (ip : Int) from congrArg V.int eip), sps, at_S hip, ?_⟩
        walk_at "go"
        obtain ⟨m2, em2⟩ := hT2.pl
        refine ⟨a, p, n, m2, ds, rfl, SqL.of hT2.hA, hT2.hd, em2, hT2.ne, fun r3 r30 r31 => ?_⟩
        obtain ⟨hT3, _⟩ := hT2.next em2
        generalize upd H2 p (.lst [.int ((m2 + 1 : Nat) : Int)]) = H3 at hT3
        walk_at "go"
        first | refine ⟨r3, rfl, r30, r31, fun m hm => ?_⟩ | intro m hm
        walk_at "go"
        intro y ny
        exact fT y _ m H3 hT3 ny npp hpp (List.getElem_mem hip) hm
      · walk_at "go"
        refine ⟨S ms, (im : Int), ms[im], rfl, (show V.int (r2 % ((S ms).length : Int)) = V.int (im : Int) by rw [lms, eim]), sms, at_S him, ?_⟩
        walk_at "go"
        intro y ny
        exact fE y _ ny hmm
      · walk_at "go"
        refine ⟨S ps, (ip : Int), ps[ip], rfl, (show V.int _ = V.int (ip : Int) from congrArg V.int eip), sps, at_S hip, ?_⟩
        walk_at "go"
        obtain ⟨m2, em2⟩ := hT2.pl
        refine ⟨a, p, n, m2, ds, rfl, SqL.of hT2.hA, hT2.hd, em2, hT2.ne, fun r3 r30 r31 => ?_⟩
        obtain ⟨hT3, _⟩ := hT2.next em2
        generalize upd H2 p (.lst [.int ((m2 + 1 : Nat) : Int)]) = H3 at hT3
        walk_at "go"
        first | refine ⟨r3, rfl, r30, r31, fun m hm => ?_⟩ | intro m hm
        walk_at "go"
        intro y ny
        exact fT y _ m H3 hT3 ny npp hpp (List.getElem_mem hip) hm
      · walk_at "go"
        refine ⟨S ms, (im : Int), ms[im], rfl, (show V.int (r2 % ((S ms).length : Int)) = V.int (im : Int) by rw [lms, eim]), sms, at_S him, ?_⟩
        walk_at "go"
        intro y ny
        exact fE y _ ny hmm
      · walk_at "go"
        refine ⟨S ps, (ip : Int), ps[ip], rfl, (show V.int _ = V.int (ip : Int) from congrArg V.int eip), sps, at_S hip, ?_⟩
        walk_at "go"
        obtain ⟨m2, em2⟩ := hT2.pl
        refine ⟨a, p, n, m2, ds, rfl, SqL.of hT2.hA, hT2.hd, em2, hT2.ne, fun r3 r30 r31 => ?_⟩
        obtain ⟨hT3, _⟩ := hT2.next em2
        generalize upd H2 p (.lst [.int ((m2 + 1 : Nat) : Int)]) = H3 at hT3
        walk_at "go"
        first | refine ⟨r3, rfl, r30, r31, fun m hm => ?_⟩ | intro m hm
        walk_at "go"
        intro y ny
        exact fT y _ m H3 hT3 ny npp hpp (List.getElem_mem hip) hm
      · walk_at "go"
        refine ⟨S ms, (im : Int), ms[im], rfl, (show V.int (r2 % ((S ms).length : Int)) = V.int (im : Int) by rw [lms, eim]), sms, at_S him, ?_⟩
        walk_at "go"
        intro y ny
        exact fE y _ ny hmm
      · walk_at "go"
        refine ⟨S ms, (im : Int), ms[im], rfl, (show V.int (r2 % ((S ms).length : Int)) = V.int (im : Int) by rw [lms, eim]), sms, at_S him, ?_⟩
        walk_at "go"
        intro y ny
        exact fE y _ ny hmm
      · walk_at "go"
        refine ⟨S ms, (im : Int), ms[im], rfl, (show V.int (r2 % ((S ms).length : Int)) = V.int (im : Int) by rw [lms, eim]), sms, at_S him, ?_⟩
        walk_at "go"
        intro y ny
        exact fE y _ ny hmm
      · walk_at "go"
        refine ⟨S ps, (ip : Int), ps[ip], rfl, (show V.int _ = V.int (ip : Int) from congrArg V.int eip), sps, at_S hip, ?_⟩
        walk_at "go"
        obtain ⟨m2, em2⟩ := hT2.pl
        refine ⟨a, p, n, m2, ds, rfl, SqL.of hT2.hA, hT2.hd, em2, hT2.ne, fun r3 r30 r31 => ?_⟩
        obtain ⟨hT3, _⟩ := hT2.next em2
        generalize upd H2 p (.lst [.int ((m2 + 1 : Nat) : Int)]) = H3 at hT3
        walk_at "go"
        first | refine ⟨r3, rfl, r30, r31, fun m hm => ?_⟩ | intro m hm
        walk_at "go"
        intro y ny
        exact fT y _ m H3 hT3 ny npp hpp (List.getElem_mem hip) hm
      · walk_at "go"
        refine ⟨S ms, (im : Int), ms[im], rfl, (show V.int (r2 % ((S ms).length : Int)) = V.int (im : Int) by rw [lms, eim]), sms, at_S him, ?_⟩
        walk_at "go"
        intro y ny
        exact fE y _ ny hmm
      · walk_at "go"
        refine ⟨S ps, (ip : Int), ps[ip], rfl, (show V.int _ = V.int (ip : Int) from congrArg V.int eip), sps, at_S hip, ?_⟩
        walk_at "go"
        obtain ⟨m2, em2⟩ := hT2.pl
        refine ⟨a, p, n, m2, ds, rfl, SqL.of hT2.hA, hT2.hd, em2, hT2.ne, fun r3 r30 r31 => ?_⟩
        obtain ⟨hT3, _⟩ := hT2.next em2
        generalize upd H2 p (.lst [.int ((m2 + 1 : Nat) : Int)]) = H3 at hT3
        walk_at "go"
        first | refine ⟨r3, rfl, r30, r31, fun m hm => ?_⟩ | intro m hm
        walk_at "go"
        intro y ny
        exact fT y _ m H3 hT3 ny npp hpp (List.getElem_mem hip) hm
      · walk_at "go"
        refine ⟨S ms, (im : Int), ms[im], rfl, (show V.int (r2 % ((S ms).length : Int)) = V.int (im : Int) by rw [lms, eim]), sms, at_S him, ?_⟩
        walk_at "go"
        intro y ny
        exact fE y _ ny hmm
    · have hz : decide (V.int (e : Int) = V.int 0) = false := decide_eq_false (fun z => by injection z with z; omega)
      rcases (show kd = 0 ∨ kd = 1 ∨ kd = 2 ∨ kd = 3 ∨ kd = 4 ∨ kd = 5 ∨ kd = 6 ∨ kd = 7 ∨ kd = 8 ∨ kd = 9 ∨ kd = 10 ∨ kd = 11 by omega) with rfl | rfl | rfl | rfl | rfl | rfl | rfl | rfl | rfl | rfl | rfl | rfl
      · walk_at "go"
        rw [hz]
        walk_at "go"
        refine ⟨S ps, (ip : Int), ps[ip], rfl, (show V.int _ = V.int (ip : Int) from congrArg V.int eip), sps, at_S hip, ?_⟩
        walk_at "go"
        obtain ⟨m2, em2⟩ := hT2.pl
        refine ⟨a, p, n, m2, ds, rfl, SqL.of hT2.hA, hT2.hd, em2, hT2.ne, fun r3 r30 r31 => ?_⟩
        obtain ⟨hT3, _⟩ := hT2.next em2
        generalize upd H2 p (.lst [.int ((m2 + 1 : Nat) : Int)]) = H3 at hT3
        walk_at "go"
        first | refine ⟨r3, rfl, r30, r31, fun m hm => ?_⟩ | intro m hm
        walk_at "go"
        intro y ny
        exact fT y _ m H3 hT3 ny npp hpp (List.getElem_mem hip) hm
      · walk_at "go"
        rw [hz]
        walk_at "go"
        refine ⟨S ps, (ip : Int), ps[ip], rfl, (show V.int _ = V.int (ip : Int) from congrArg V.int eip), sps, at_S hip, ?_⟩
        walk_at "go"
        obtain ⟨m2, em2⟩ := hT2.pl
        refine ⟨a, p, n, m2, ds, rfl, SqL.of hT2.hA, hT2.hd, em2, hT2.ne, fun r3 r30 r31 => ?_⟩
        obtain ⟨hT3, _⟩ := hT2.next em2
        generalize upd H2 p (.lst [.int ((m2 + 1 : Nat) : Int)]) = H3 at hT3
        walk_at "go"
        first | refine ⟨r3, rfl, r30, r31, fun m hm => ?_⟩ | intro m hm
        walk_at "go"
        intro y ny
        exact fT y _ m H3 hT3 ny npp hpp (List.getElem_mem hip) hm
      · walk_at "go"
        rw [hz]
        walk_at "go"
        refine ⟨S ps, (ip : Int), ps[ip], rfl, (show V.int _ = V.int (ip : Int) from congrArg V.int eip), sps, at_S hip, ?_⟩
        walk_at "go"
        obtain ⟨m2, em2⟩ := hT2.pl
        refine ⟨a, p, n, m2, ds, rfl, SqL.of hT2.hA, hT2.hd, em2, hT2.ne, fun r3 r30 r31 => ?_⟩
        obtain ⟨hT3, _⟩ := hT2.next em2
        generalize upd H2 p (.lst [.int ((m2 + 1 : Nat) : Int)]) = H3 at hT3
        walk_at "go"
        first | refine ⟨r3, rfl, r30, r31, fun m hm => ?_⟩ | intro m hm
        walk_at "go"
        intro y ny
        exact fT y _ m H3 hT3 ny npp hpp (List.getElem_mem hip) hm
      · walk_at "go"
        rw [hz]
        walk_at "go"
        refine ⟨S ps, (ip : Int), ps[ip], rfl, (show V.int _ = V.int (ip : Int) from congrArg V.int eip), sps, at_S hip, ?_⟩
        walk_at "go"
        obtain ⟨m2, em2⟩ := hT2.pl
        refine ⟨a, p, n, m2, ds, rfl, SqL.of hT2.hA, hT2.hd, em2, hT2.ne, fun r3 r30 r31 => ?_⟩
        obtain ⟨hT3, _⟩ := hT2.next em2
        generalize upd H2 p (.lst [.int ((m2 + 1 : Nat) : Int)]) = H3 at hT3
        walk_at "go"
        first | refine ⟨r3, rfl, r30, r31, fun m hm => ?_⟩ | intro m hm
        walk_at "go"
        intro y ny
        exact fT y _ m H3 hT3 ny npp hpp (List.getElem_mem hip) hm
      · walk_at "go"
        rw [hz]
        walk_at "go"
        refine ⟨S ps, (ip : Int), ps[ip], rfl, (show V.int _ = V.int (ip : Int) from congrArg V.int eip), sps, at_S hip, ?_⟩
        walk_at "go"
        obtain ⟨m2, em2⟩ := hT2.pl
        refine ⟨a, p, n, m2, ds, rfl, SqL.of hT2.hA, hT2.hd, em2, hT2.ne, fun r3 r30 r31 => ?_⟩
        obtain ⟨hT3, _⟩ := hT2.next em2
        generalize upd H2 p (.lst [.int ((m2 + 1 : Nat) : Int)]) = H3 at hT3
        walk_at "go"
        first | refine ⟨r3, rfl, r30, r31, fun m hm => ?_⟩ | intro m hm
        walk_at "go"
        intro y ny
        exact fT y _ m H3 hT3 ny npp hpp (List.getElem_mem hip) hm
      · walk_at "go"
        refine ⟨S ms, (im : Int), ms[im], rfl, (show V.int (r2 % ((S ms).length : Int)) = V.int (im : Int) by rw [lms, eim]), sms, at_S him, ?_⟩
        walk_at "go"
        intro y ny
        exact fE y _ ny hmm
      · walk_at "go"
        refine ⟨S ms, (im : Int), ms[im], rfl, (show V.int (r2 % ((S ms).length : Int)) = V.int (im : Int) by rw [lms, eim]), sms, at_S him, ?_⟩
        walk_at "go"
        intro y ny
        exact fE y _ ny hmm
      · walk_at "go"
        rw [hz]
        walk_at "go"
        have hmx : mxw e = 1 + 18 * mxw (e - 1) := by
          obtain ⟨e2, rfl⟩ : ∃ e2, e = e2 + 1 := ⟨e - 1, by omega⟩
          rfl
        rw [hz]
        walk_at "go"
        refine ⟨fun σ J => J = H2 ∧ ∃ (c : Nat) (v5 : Option V), 2 ≤ c ∧ c ≤ 6 ∧ σ = [some (V.ref a), some (V.ref p), some (V.int (e : Int)), some (V.str (S ps)), some (V.str (S ms)), v5, some (V.int r2), some (V.int (ps.length : Int)), some (V.str (S [po])), none, some (V.int (c : Int)), none, none], ?_, ?_⟩
        · walk_at "go"
          refine ite2 (fun _ => ?_) (fun _ => ?_)
          · walk_at "go"
            exact ⟨(2 + r2 / 96 % 5).toNat, _, by omega, by omega, by rw [Int.toNat_of_nonneg (by omega)]; rfl⟩
          · exact ⟨rfl, (2 + r2 / 6 % 2).toNat, _, by omega, by omega, by rw [Int.toNat_of_nonneg (by omega)]; rfl⟩
        rintro σ J ⟨rfl, c, v5, c2, c6, rfl⟩
        walk_at "go"
        intro D nD
        refine lc_nw (G := fun i X y => ∃ b x, y = .ref b ∧ DaAt X x b ∧ OkL x ∧ wtL x ≤ 3 * mxw (e - 1) ∧ dpL x ≤ e ∧ VsL ps x) (n := c) (fun i X Y y s h => ?_) hT2.slf nD (by omega) (fun k J' hk => ?_) (fun J' => ?_) (fun k J1 x J2 hk h => ?_) (fun x => rfl) (fun k x J1 Q1 hk h hT3 q1 => ?_) (fun J1 ys hT3 eD ly hG => ?_)
        · obtain ⟨b, x, h1, h2, h3⟩ := h
          exact ⟨b, x, h1, h2.mono s, h3⟩
        · show k < ((c : Int)).toNat
          omega
        · show ((c : Int)).toNat ≤ c
          omega
        · exact h.1
        · walk_at "go"
          refine ⟨a, p, n, e - 1, ds, ps, ms, by show [V.ref a, V.ref p, V.int ((e : Int) - 1), V.str (S ps), V.str (S ms)] = _; rw [show ((e : Int) - 1) = ((e - 1 : Nat) : Int) by omega], hT3.slf, pm, by omega, fun y x H' hT4 hx okx hwx hdx lx ux => q1 _ _ hT4 ⟨y, x, rfl, hx, okx, hwx, by omega, ux⟩⟩
        · obtain ⟨os, bs, rfl, h1, h2, h3, h4, h5, h6⟩ := drawn_ll ys hG
          rw [ly] at h3 h5
          have := Nat.mul_le_mul_right (3 * mxw (e - 1)) c6
          walk_at "go"
          intro y ny
          have sy := same_new (o := .tup [.str "choice", .str (S [po]), .ref D]) ny
          refine qq y (.ch po os) _ ((hT2.tr hT3).more sy) ?_ ?_ ?_ ?_ ?_
          · rw [DtAt]
            refine ⟨D, bs, nw_of (hT2.nn (hT3.nn ny)) upd_same, nw_of (hT2.nn nD) (sy _ _ eD), h1.mono (fun b o h => nw_of (hT2.nn (nwD_some h).2.1) (sy _ _ (nwD_some h).2.2)) _ _⟩
          · rw [Ok]
            exact ⟨hpo, by omega, by omega, h2⟩
          · rw [wt, hmx]
            omega
          · rw [dp]
            omega
          · rw [Vs]
            exact ⟨hpu, h6⟩
      · walk_at "go"
        rw [hz]
        walk_at "go"
        have hmx : mxw e = 1 + 18 * mxw (e - 1) := by
          obtain ⟨e2, rfl⟩ : ∃ e2, e = e2 + 1 := ⟨e - 1, by omega⟩
          rfl
        rw [hz]
        walk_at "go"
        refine ⟨fun σ J => J = H2 ∧ ∃ (c : Nat) (v5 : Option V), 2 ≤ c ∧ c ≤ 6 ∧ σ = [some (V.ref a), some (V.ref p), some (V.int (e : Int)), some (V.str (S ps)), some (V.str (S ms)), v5, some (V.int r2), some (V.int (ps.length : Int)), some (V.str (S [po])), none, some (V.int (c : Int)), none, none], ?_, ?_⟩
        · walk_at "go"
          refine ite2 (fun _ => ?_) (fun _ => ?_)
          · walk_at "go"
            exact ⟨(2 + r2 / 96 % 5).toNat, _, by omega, by omega, by rw [Int.toNat_of_nonneg (by omega)]; rfl⟩
          · exact ⟨rfl, (2 + r2 / 6 % 2).toNat, _, by omega, by omega, by rw [Int.toNat_of_nonneg (by omega)]; rfl⟩
        rintro σ J ⟨rfl, c, v5, c2, c6, rfl⟩
        walk_at "go"
        intro D nD
        refine lc_nw (G := fun i X y => ∃ b x, y = .ref b ∧ DaAt X x b ∧ OkL x ∧ wtL x ≤ 3 * mxw (e - 1) ∧ dpL x ≤ e ∧ VsL ps x) (n := c) (fun i X Y y s h => ?_) hT2.slf nD (by omega) (fun k J' hk => ?_) (fun J' => ?_) (fun k J1 x J2 hk h => ?_) (fun x => rfl) (fun k x J1 Q1 hk h hT3 q1 => ?_) (fun J1 ys hT3 eD ly hG => ?_)
        · obtain ⟨b, x, h1, h2, h3⟩ := h
          exact ⟨b, x, h1, h2.mono s, h3⟩
        · show k < ((c : Int)).toNat
          omega
        · show ((c : Int)).toNat ≤ c
          omega
        · exact h.1
        · walk_at "go"
          refine ⟨a, p, n, e - 1, ds, ps, ms, by show [V.ref a, V.ref p, V.int ((e : Int) - 1), V.str (S ps), V.str (S ms)] = _; rw [show ((e : Int) - 1) = ((e - 1 : Nat) : Int) by omega], hT3.slf, pm, by omega, fun y x H' hT4 hx okx hwx hdx lx ux => q1 _ _ hT4 ⟨y, x, rfl, hx, okx, hwx, by omega, ux⟩⟩
        · obtain ⟨os, bs, rfl, h1, h2, h3, h4, h5, h6⟩ := drawn_ll ys hG
          rw [ly] at h3 h5
          have := Nat.mul_le_mul_right (3 * mxw (e - 1)) c6
          walk_at "go"
          intro y ny
          have sy := same_new (o := .tup [.str "choice", .str (S [po]), .ref D]) ny
          refine qq y (.ch po os) _ ((hT2.tr hT3).more sy) ?_ ?_ ?_ ?_ ?_
          · rw [DtAt]
            refine ⟨D, bs, nw_of (hT2.nn (hT3.nn ny)) upd_same, nw_of (hT2.nn nD) (sy _ _ eD), h1.mono (fun b o h => nw_of (hT2.nn (nwD_some h).2.1) (sy _ _ (nwD_some h).2.2)) _ _⟩
          · rw [Ok]
            exact ⟨hpo, by omega, by omega, h2⟩
          · rw [wt, hmx]
            omega
          · rw [dp]
            omega
          · rw [Vs]
            exact ⟨hpu, h6⟩
      · walk_at "go"
        rw [hz]
        walk_at "go"
        have hmx : mxw e = 1 + 18 * mxw (e - 1) := by
          obtain ⟨e2, rfl⟩ : ∃ e2, e = e2 + 1 := ⟨e - 1, by omega⟩
          rfl
        rw [hz]
        walk_at "go"
        refine ⟨a, p, n, e - 1, ds, ps, ms, by show [V.ref a, V.ref p, V.int ((e : Int) - 1), V.str (S ps), V.str (S ms)] = _; rw [show ((e : Int) - 1) = ((e - 1 : Nat) : Int) by omega], hT2.slf, pm, by omega, fun D l H3 hT3 hl okl hwl hdl ll ul => ?_⟩
        obtain ⟨bs, hD, hl⟩ := hl
        have nD := (nw_some hD).1
        have eD := (nw_some hD).2
        walk_at "go"
        intro y ny
        have sy := same_new (o := .tup [.str "rounds", .str (S [po]), .ref D]) ny
        refine qq y (.rd po l) _ ((hT2.tr hT3).more sy) ?_ ?_ ?_ ?_ ?_
        · rw [DtAt]
          refine ⟨D, bs, nw_of (hT2.nn (hT3.nn ny)) upd_same, nw_of (hT2.nn nD) (sy _ _ eD), hl.mono (fun b o h => nw_of (hT2.nn (nw_some h).1) (sy _ _ (nw_some h).2)) _ _⟩
        · rw [Ok]
          exact ⟨hpo, okl⟩
        · rw [wt, hmx]
          omega
        · rw [dp]
          omega
        · rw [Vs]
          exact ⟨hpu, ul⟩
      · walk_at "go"
        rw [hz]
        walk_at "go"
        have hmx : mxw e = 1 + 18 * mxw (e - 1) := by
          obtain ⟨e2, rfl⟩ : ∃ e2, e = e2 + 1 := ⟨e - 1, by omega⟩
          rfl
        rw [hz]
        walk_at "go"
        refine ⟨a, p, n, e - 1, ds, ps, ms, by show [V.ref a, V.ref p, V.int ((e : Int) - 1), V.str (S ps), V.str (S ms)] = _; rw [show ((e : Int) - 1) = ((e - 1 : Nat) : Int) by omega], hT2.slf, pm, by omega, fun D l H3 hT3 hl okl hwl hdl ll ul => ?_⟩
        obtain ⟨bs, hD, hl⟩ := hl
        have nD := (nw_some hD).1
        have eD := (nw_some hD).2
        walk_at "go"
        obtain ⟨c, ec, hc⟩ : ∃ c : Nat, r2 / 6 % 4 = (c : Int) ∧ c ≤ 3 := ⟨(r2 / 6 % 4).toNat, by omega, by omega⟩
        show ∀ y, H3 y = none → Q (.ref y) (upd H3 y (.tup [.str "times", .int (r2 / 6 % 4), .ref D]))
        rw [ec]
        intro y ny
        have sy := same_new (o := .tup [.str "times", .int (c : Int), .ref D]) ny
        refine qq y (.ti c l) _ ((hT2.tr hT3).more sy) ?_ ?_ ?_ ?_ ?_
        · rw [DtAt]
          refine ⟨D, bs, nw_of (hT2.nn (hT3.nn ny)) upd_same, nw_of (hT2.nn nD) (sy _ _ eD), hl.mono (fun b o h => nw_of (hT2.nn (nw_some h).1) (sy _ _ (nw_some h).2)) _ _⟩
        · rw [Ok]
          exact ⟨by omega, okl⟩
        · have : wtL l * (if c < 1 then 1 else c) ≤ wtL l * 3 := Nat.mul_le_mul_left _ (by split <;> omega)
          rw [wt, hmx]
          omega
        · rw [dp]
          omega
        · rw [Vs]
          exact ⟨hc, ul⟩
      · walk_at "go"
        rw [hz]
        walk_at "go"
        have hmx : mxw e = 1 + 18 * mxw (e - 1) := by
          obtain ⟨e2, rfl⟩ : ∃ e2, e = e2 + 1 := ⟨e - 1, by omega⟩
          rfl
        rw [hz]
        walk_at "go"
        refine ⟨a, p, n, e - 1, ds, ps, ms, by show [V.ref a, V.ref p, V.int ((e : Int) - 1), V.str (S ps), V.str (S ms)] = _; rw [show ((e : Int) - 1) = ((e - 1 : Nat) : Int) by omega], hT2.slf, pm, by omega, fun D l H3 hT3 hl okl hwl hdl ll ul => ?_⟩
        obtain ⟨bs, hD, hl⟩ := hl
        have nD := (nw_some hD).1
        have eD := (nw_some hD).2
        walk_at "go"
        refine ite2 (fun _ => ?_) (fun _ => ?_)
        · walk_at "go"
          intro y ny
          have sy := same_new (o := .tup [.str "endless", .ref D]) ny
          refine qq y (.en l) _ ((hT2.tr hT3).more sy) ?_ ?_ ?_ ?_ ?_
          · rw [DtAt]
            refine ⟨D, bs, nw_of (hT2.nn (hT3.nn ny)) upd_same, nw_of (hT2.nn nD) (sy _ _ eD), hl.mono (fun b o h => nw_of (hT2.nn (nw_some h).1) (sy _ _ (nw_some h).2)) _ _⟩
          · rw [Ok]
            exact okl
          · rw [wt, hmx]
            omega
          · rw [dp]
            omega
          · rw [Vs]
            exact ul
        · walk_at "go"
          intro y ny
          have sy := same_new (o := .tup [.str "rounds", .str (S [po]), .ref D]) ny
          refine qq y (.rd po l) _ ((hT2.tr hT3).more sy) ?_ ?_ ?_ ?_ ?_
          · rw [DtAt]
            refine ⟨D, bs, nw_of (hT2.nn (hT3.nn ny)) upd_same, nw_of (hT2.nn nD) (sy _ _ eD), hl.mono (fun b o h => nw_of (hT2.nn (nw_some h).1) (sy _ _ (nw_some h).2)) _ _⟩
          · rw [Ok]
            exact ⟨hpo, okl⟩
          · rw [wt, hmx]
            omega
          · rw [dp]
            omega
          · rw [Vs]
            exact ⟨hpu, ul⟩
end
end Z
set_option Elab.async false
set_option linter.all false
set_option maxRecDepth 100000
set_option maxHeartbeats 4000000
open SX (S S_inj S_len S_cat)
namespace Z
open PySem PySem.Spec PyProof.Rows L2
open Pk
/-! ### the places change, the described pacts stay -/
/-- all but the places stands as before -/
def SmD (H H' : Hp) : Prop := ∀ a o, H a = some o → (∀ m : Int, o ≠ .lst [.int m]) → H' a = some o
section
variable {H H' : Hp}
theorem smD_of (s : Same H H') : SmD H H' := fun a o h _ => s a o h
theorem SmD.trans {H2 : Hp} (s : SmD H H') (t : SmD H' H2) : SmD H H2 := fun a o h n => t a o (s a o h n) n
theorem refs_ne {as : List Addr} {m : Int} : HO.lst (as.map V.ref) ≠ .lst [.int m] := fun z => by
  injection z with z
  match as, z with
  | [], z => cases z
  | [a], z => injection z with z _; cases z
  | a :: b :: r, z => injection z with _ z; cases z
theorem SmD.l (s : SmD H H') {L : Addr} {as : List Addr} (h : H L = some (.lst (as.map V.ref))) : H' L = some (.lst (as.map V.ref)) := s _ _ h fun _ => refs_ne
theorem SmD.t (s : SmD H H') {a : Addr} {xs : List V} (h : H a = some (.tup xs)) : H' a = some (.tup xs) := s _ _ h fun _ z => by cases z
mutual
theorem DtAt.monoD (s : SmD H H') : ∀ (p : Pt) (a : Addr), DtAt H p a → DtAt H' p a
  | .tr p q m, a, h => by
    rw [DtAt] at h ⊢
    exact s.t h
  | .ev k, a, h => by
    rw [DtAt] at h ⊢
    exact s.t h
  | .ch o os, a, h => by
    rw [DtAt] at h ⊢
    obtain ⟨t, as, h1, h2, h3⟩ := h
    exact ⟨t, as, s.t h1, s.l h2, DasAt.monoD s os as h3⟩
  | .rd o b, a, h => by
    rw [DtAt] at h ⊢
    obtain ⟨t, as, h1, h2, h3⟩ := h
    exact ⟨t, as, s.t h1, s.l h2, DtsAt.monoD s b as h3⟩
  | .en b, a, h => by
    rw [DtAt] at h ⊢
    obtain ⟨t, as, h1, h2, h3⟩ := h
    exact ⟨t, as, s.t h1, s.l h2, DtsAt.monoD s b as h3⟩
  | .ti n b, a, h => by
    rw [DtAt] at h ⊢
    obtain ⟨t, as, h1, h2, h3⟩ := h
    exact ⟨t, as, s.t h1, s.l h2, DtsAt.monoD s b as h3⟩
theorem DtsAt.monoD (s : SmD H H') : ∀ (l : List Pt) (as : List Addr), DtsAt H l as → DtsAt H' l as
  | [], as, h => by
    rw [DtsAt] at h ⊢
    exact h
  | p :: l, as, h => by
    rw [DtsAt] at h ⊢
    obtain ⟨a, r, h1, h2, h3⟩ := h
    exact ⟨a, r, h1, DtAt.monoD s p a h2, DtsAt.monoD s l r h3⟩
theorem DasAt.monoD (s : SmD H H') : ∀ (l : List (List Pt)) (as : List Addr), DasAt H l as → DasAt H' l as
  | [], as, h => by
    rw [DasAt] at h ⊢
    exact h
  | b :: l, as, h => by
    rw [DasAt] at h ⊢
    obtain ⟨x, r, h1, ⟨bs, h3, h4⟩, h5⟩ := h
    exact ⟨x, r, h1, ⟨bs, s.l h3, DtsAt.monoD s b bs h4⟩, DasAt.monoD s l r h5⟩
end
theorem DaAt.monoD (s : SmD H H') {b : List Pt} {x : Addr} (h : DaAt H b x) : DaAt H' b x := by
  obtain ⟨bs, h3, h4⟩ := h
  exact ⟨bs, s.l h3, DtsAt.monoD s b bs h4⟩
theorem Tk.smD {K : PySem.W.Frag} {a p : Addr} {ds : List Int} {n : Nat} (t : Tk K a p ds n H H') (hp : ∃ m : Nat, H p = some (.lst [.int (m : Int)])) : SmD H H' := fun b o h hn => t.sb _ _ (fun e => by
  obtain ⟨m, em⟩ := hp
  rw [e, em] at h
  cases h
  exact hn _ rfl) h
end
end Z
set_option pp.maxSteps 700
set_option Elab.async false
set_option linter.all false
set_option maxRecDepth 100000
set_option maxHeartbeats 4000000
open SX (S S_inj S_len S_cat)
namespace Z
open Pk NdefX
open PySem PySem.Spec PyProof.Rows L2
open C8 (pss_cut tCut)
local macro_rules | `(tactic| walk_at "num") => `(tactic| first | rfl | omega | decide | exact Nat.le_of_lt (small1000 (by simp)) | exact ⟨by omega, by omega⟩ | exact ⟨by omega, by omega, by omega⟩ | exact ⟨by decide, by decide, by decide⟩ | exact Or.inl ⟨by omega, by omega⟩ | exact Or.inr ⟨by omega, by omega⟩)
local macro_rules | `(tactic| walk_at "go") => `(tactic| repeat (first | refine ⟨_, rfl, ?_⟩ | refine ⟨_, _, rfl, rfl, ?_⟩ | refine ⟨_, _, rfl, ?_⟩ | (refine ⟨_, _, rfl, rfl, ?_, ?_⟩; focus walk_at "num") | refine Or.inl ⟨_, rfl, ?_⟩ | refine ⟨_, _, _, _, rfl, rfl, (by assumption), (by rfl), ?_⟩ | refine ⟨_, _, _, _, _, rfl, (by assumption), (by assumption), (by assumption), (by rfl), ?_⟩ | refine ⟨rfl, ?_⟩ | (refine And.intro ?_ ?_; focus walk_at "num")))
abbrev s_marks : Stmt := topS 49
abbrev N_marks : List Str := []
abbrev P_marks : List Str := []
theorem sc_marks : FnScope N_marks P_marks (defScope s_marks) := ⟨rfl, rfl, rfl, by decide +kernel, rfl, by decide +kernel, by decide +kernel⟩
abbrev s_is : Stmt := topS 62
abbrev N_is : List Str := ["_law_actual", "_law_number"]
abbrev P_is : List Str := ["_law_actual", "_law_number"]
theorem sc_is : FnScope N_is P_is (defScope s_is) := ⟨rfl, rfl, rfl, by decide +kernel, rfl, by decide +kernel, by decide +kernel⟩
abbrev s_says : Stmt := topS 63
abbrev N_says : List Str := ["_law_actual", "_law_text_here"]
abbrev P_says : List Str := ["_law_actual", "_law_text_here"]
theorem sc_says : FnScope N_says P_says (defScope s_says) := ⟨rfl, rfl, rfl, by decide +kernel, rfl, by decide +kernel, by decide +kernel⟩
theorem cutS_lo {l : List Nat} {c : Nat} (h : c ≤ l.length) : cutS (S l) none (some (c : Int)) = S (l.take c) := by
  have e : (S l).length = l.length := S_len _
  unfold cutS
  rw [e, HT.sIx_nat, Nat.min_eq_left h, show HT.sIx l.length 0 none = 0 from rfl, List.drop_zero, Nat.sub_zero]
theorem cutS_hi {l : List Nat} {c : Nat} (h : c ≤ l.length) : cutS (S l) (some (c : Int)) none = S (l.drop c) := by
  have e : (S l).length = l.length := S_len _
  unfold cutS
  rw [e, HT.sIx_nat, Nat.min_eq_left h, show HT.sIx l.length l.length none = l.length from rfl, List.take_of_length_le (by rw [List.length_drop]; exact Nat.le_refl _)]
section
variable {P : Program} {w : World} {K : PySem.W.Frag} {mg : Str → Option Value} {base : Heap} {f C CP CY : Addr} {k : Cs} {fd : FuncData}
def spMk_ : Sp := fun vs H Q _ => vs = [] ∧ Q (.str (S MRK)) H
theorem ok_marks (F : FnP K "_law_marks" s_marks f fd) : FnOk P w K mg base CX0 1 f fd P_marks spMk_ := by
  refine F.ok sc_marks (fun vs H Q E h => ?_) (fun cdv A outer s H vs Q E hr h => ?_)
  · obtain ⟨rfl, _⟩ := h
    rfl
  · obtain ⟨rfl, q⟩ := h
    refine ⟨_, PSs.nox (pss_one (ps_ret pe_str)), ?_⟩
    rw [show Str.ofString "ABCDEFGHIJKLMNOPQRSTUVWXYZ" = S MRK by decide +kernel]
    walk_at "go"
    exact q
def spIs : Sp := fun vs H Q _ => ∃ n : Int, vs = [.int n, .int n] ∧ Q (.bl true) H
theorem ok_is (F : FnP K "_law_is" s_is f fd) (m_isinstance : mg "isinstance" = none) (m_int : mg "int" = none) (m_bool : mg "bool" = none) : FnOk P w K mg base CX0 1 f fd P_is spIs := by
  refine F.ok sc_is (fun vs H Q E h => ?_) (fun cdv A outer s H vs Q E hr h => ?_)
  · obtain ⟨n, rfl, _⟩ := h
    rfl
  · obtain ⟨n, rfl, q⟩ := h
    refine ⟨_, PSs.nox (pss_one (ps_ret (pe_and (pe_callB call_isi (by rfl) m_isinstance (by decide +kernel) (pa_cons (pv 0) (pa_cons (pe_bltn (v := .ty "int") (by rfl) m_int (by decide +kernel) rfl) pa_nil))) (pe_and (pe_not (pe_callB call_isi (by rfl) m_isinstance (by decide +kernel) (pa_cons (pv 0) (pa_cons (pe_bltn (v := .ty "bool") (by rfl) m_bool (by decide +kernel) rfl) pa_nil)))) (pe_one (pe_cmpR op_eq (pv 0) (pv 1) (nomark _))))))), ?_⟩
    walk_at "go"
    refine isi (c := "int") (b := true) (.int _) (by decide +kernel) ?_
    walk_at "go"
    refine isi (c := "bool") (b := false) (.int _) (by decide +kernel) ?_
    walk_at "go"
    rw [decide_eq_true rfl]
    exact q
def spSays : Sp := fun vs H Q _ => ∃ t : Str, vs = [.str t, .str t] ∧ Q (.bl true) H
theorem ok_says (F : FnP K "_law_says" s_says f fd) (m_isinstance : mg "isinstance" = none) (m_str : mg "str" = none) : FnOk P w K mg base CX0 1 f fd P_says spSays := by
  refine F.ok sc_says (fun vs H Q E h => ?_) (fun cdv A outer s H vs Q E hr h => ?_)
  · obtain ⟨n, rfl, _⟩ := h
    rfl
  · obtain ⟨n, rfl, q⟩ := h
    refine ⟨_, PSs.nox (pss_one (ps_ret (pe_and (pe_callB call_isi (by rfl) m_isinstance (by decide +kernel) (pa_cons (pv 0) (pa_cons (pe_bltn (v := .ty "str") (by rfl) m_str (by decide +kernel) rfl) pa_nil))) (pe_one (pe_cmpR op_eq (pv 0) (pv 1) (nomark _)))))), ?_⟩
    walk_at "go"
    refine isi (c := "str") (b := true) (.str _) (by decide +kernel) ?_
    walk_at "go"
    rw [decide_eq_true rfl]
    exact q
end
end Z
set_option pp.maxSteps 700
set_option Elab.async false
set_option linter.all false
set_option maxRecDepth 100000
set_option maxHeartbeats 4000000
open SX (S S_inj S_len S_cat)
namespace Z
open Pk NdefX
open PySem PySem.Spec PyProof.Rows L2
open C8 (pss_cut tCut)
local macro_rules | `(tactic| walk_at "num") => `(tactic| first | rfl | omega | decide | exact Nat.le_of_lt (small1000 (by simp)) | exact ⟨by omega, by omega⟩ | exact ⟨by omega, by omega, by omega⟩ | exact ⟨by decide, by decide, by decide⟩ | exact Or.inl ⟨by omega, by omega⟩ | exact Or.inr ⟨by omega, by omega⟩)
local macro_rules | `(tactic| walk_at "go") => `(tactic| repeat (first | refine ⟨_, rfl, ?_⟩ | refine ⟨_, _, rfl, rfl, ?_⟩ | refine ⟨_, _, rfl, ?_⟩ | (refine ⟨_, _, rfl, rfl, ?_, ?_⟩; focus walk_at "num") | refine Or.inl ⟨_, rfl, ?_⟩ | refine ⟨_, _, _, _, rfl, rfl, (by assumption), (by rfl), ?_⟩ | refine ⟨_, _, _, _, _, rfl, (by assumption), (by assumption), (by assumption), (by rfl), ?_⟩ | refine ⟨rfl, ?_⟩ | (refine And.intro ?_ ?_; focus walk_at "num")))
abbrev s_text : Stmt := topS 58
abbrev N_text : List Str := ["_law_pact_here", "_law_part_here"]
abbrev P_text : List Str := ["_law_pact_here"]
theorem sc_text : FnScope N_text P_text (defScope s_text) := ⟨rfl, rfl, rfl, by decide +kernel, rfl, by decide +kernel, by decide +kernel⟩
abbrev s_part_text : Stmt := topS 59
abbrev N_part_text : List Str := ["_law_part_here", "_law_option"]
abbrev P_part_text : List Str := ["_law_part_here"]
theorem sc_part_text : FnScope N_part_text P_part_text (defScope s_part_text) := ⟨rfl, rfl, rfl, by decide +kernel, rfl, by decide +kernel, by decide +kernel⟩
section
variable {P : Program} {w : World} {K : PySem.W.Frag} {mg : Str → Option Value} {base : Heap} {f f2 C CP CY : Addr} {k : Cs} {fd fd2 : FuncData}
def spTl (d : Nat) : Sp := fun vs H Q _ => ∃ (L : Addr) (l : List Pt), vs = [.ref L] ∧ DaAt H l L ∧ OkL l ∧ wtL l ≤ 1000 ∧ dpL l + 1 ≤ d ∧ ∀ H', Same H H' → Q (.str (S (txB l))) H'
def spTp (d : Nat) : Sp := fun vs H Q _ => ∃ (a : Addr) (p : Pt), vs = [.ref a] ∧ DtAt H p a ∧ Ok p ∧ wt p ≤ 1000 ∧ dp p ≤ d ∧ ∀ H', Same H H' → Q (.str (S (tx p))) H'
theorem ok_text {d : Nat} (F : FnP K "_law_text" s_text f fd) (m_len : mg "len" = none) (c_part_text : Cal P w K mg base (2 * d + 7) "_law_part_text" (spTp d)) : FnOk P w K mg base CX0 (2 * d + 8) f fd P_text (spTl (d + 1)) := by
  refine F.ok sc_text (fun vs H Q E h => ?_) (fun cdv A outer s H vs Q E hr h => ?_)
  · obtain ⟨L, l, rfl, _⟩ := h
    rfl
  · obtain ⟨L, l, rfl, ⟨bs, hL, hD⟩, ok, hw, hd, qq⟩ := h
    refine ⟨_, PSs.nox (pss_cons (ps_if (pt_cmpR op_eq (pe_callB call_len_seq (by rfl) m_len PySem.boot_len (pa_cons (pv 0) pa_nil)) pe_int (nomark _)) (pss_one (ps_ret pe_str)) pss_nil)
      (pss_one (ps_ret (pe_join pe_str (pe_lc (own := [("_law_part_here", 1)]) (g := (gName 1)) (tt := tYes) (by rfl) sc_text.nd (pi_list (pv 0)) (blkOk_by (own := [("_law_part_here", 1)]) (N := N_text) (sc := defScope s_text) (by decide +kernel)) (fun _ _ _ _ _ => (pg_name (i := 1) sc_text.nd rfl (by first | exact .inl rfl | exact .inr rfl))) (fun _ _ _ _ _ => pts_nil) (fun _ _ _ _ _ => (pe_cl c_part_text hr (by omega) (by rfl) (pa_cons (pv 1) pa_nil)))))))), ?_⟩
    have lw := len_wt l
    have lb := DtsAt.len _ _ hD
    walk_at "go"
    refine ⟨L, _, rfl, .inl (SqL.of hL), ?_⟩
    rw [List.length_map, lb]
    cases l with
    | nil =>
      walk_at "go"
      rw [txB] at qq
      exact qq _ (Same.refl _)
    | cons p0 l0 =>
      walk_at "go"
      refine ite2 (fun e => absurd e (by rw [List.length_cons]; exact fun z => (by injection z))) (fun _ => ?_)
      walk_at "go"
      refine ⟨⟨_, rfl⟩, ?_⟩
      walk_at "go"
      refine ⟨⟨_, SqL.of hL⟩, ?_⟩
      intro D nD
      refine lc_vsL (SqL.of hL) ((p0 :: l0).map fun p => .str (S (tx p))) (by rw [List.length_map, List.length_map, lb]) (by rw [List.length_map]; omega) nD (fun x => rfl) (fun i x y J Q4 ex ey s4 q4 => ?_) (fun J s4 eD => ?_)
      · obtain ⟨y2, p, rfl, ep, hp⟩ := DtsAt.gets _ _ hD i x ex
        rw [List.getElem?_map, ep] at ey
        cases ey
        have pm := List.mem_of_getElem? ep
        have := wtL_mem pm
        have := dpL_mem pm
        walk_at "go"
        exact ⟨y2, p, rfl, hp.mono s4, okL_iff.mp ok p pm, by omega, by omega, fun J2 s2 => q4 _ s2⟩
      have lt := txs_len (p0 :: l0) ok
      walk_at "go"
      refine ⟨S [44, 32], D, (txs (p0 :: l0)).map S, rfl, rfl, .inl (SqL.of (by rw [txs_map, List.map_map, List.map_map]; exact eD)), ?_, ?_⟩
      · rw [show (S [44, 32]).length = 2 from S_len _, len2]
        omega
      rw [SX.join_S, jn_eq, ← txB_cons]
      exact qq _ s4
theorem ok_part_text {d : Nat} (F : FnP K "_law_part_text" s_part_text f fd) (m_str : mg "str" = none) (c_text : Cal P w K mg base (2 * d + 6) "_law_text" (spTl d)) : FnOk P w K mg base CX0 (2 * d + 7) f fd P_part_text (spTp d) := by
  refine F.ok sc_part_text (fun vs H Q E h => ?_) (fun cdv A outer s H vs Q E hr h => ?_)
  · obtain ⟨a, p, rfl, _⟩ := h
    rfl
  · obtain ⟨a, p, rfl, hD, ok, hw, hd, q⟩ := h
    refine ⟨_, PSs.nox (pss_cons (ps_if (pt_cmpR op_eq (pe_ix ix_tup (pv 0) pe_int (fun _ _ => rfl)) pe_str (nomark _)) (pss_one (ps_ret (pe_op op_add_str (pe_op op_add_str (pe_ix ix_tup (pv 0) pe_int (fun _ _ => rfl)) (pe_ix ix_tup (pv 0) pe_int (fun _ _ => rfl))) (pe_callTy call_str_int (by rfl) m_str (by decide +kernel) (pa_cons (pe_ix ix_tup (pv 0) pe_int (fun _ _ => rfl)) pa_nil))))) pss_nil)
      (pss_cons (ps_if (pt_cmpR op_eq (pe_ix ix_tup (pv 0) pe_int (fun _ _ => rfl)) pe_str (nomark _)) (pss_one (ps_ret (pe_ix ix_tup (pv 0) pe_int (fun _ _ => rfl)))) pss_nil)
      (pss_cons (ps_if (pt_cmpR op_eq (pe_ix ix_tup (pv 0) pe_int (fun _ _ => rfl)) pe_str (nomark _)) (pss_one (ps_ret (pe_op op_add_str (pe_op op_add_str (pe_op op_add_str (pe_ix ix_tup (pv 0) pe_int (fun _ _ => rfl)) pe_str) (pe_join pe_str (pe_lc (own := [("_law_option", 1)]) (g := (gName 1)) (tt := tYes) (by rfl) sc_part_text.nd (pi_list (pe_ix ix_tup (pv 0) pe_int (fun _ _ => rfl))) (blkOk_by (own := [("_law_option", 1)]) (N := N_part_text) (sc := defScope s_part_text) (by decide +kernel)) (fun _ _ _ _ _ => (pg_name (i := 1) sc_part_text.nd rfl (by first | exact .inl rfl | exact .inr rfl))) (fun _ _ _ _ _ => pts_nil) (fun _ _ _ _ _ => (pe_cl c_text hr (by omega) (by rfl) (pa_cons (pv 1) pa_nil)))))) pe_str))) pss_nil)
      (pss_cons (ps_if (pt_cmpR op_eq (pe_ix ix_tup (pv 0) pe_int (fun _ _ => rfl)) pe_str (nomark _)) (pss_one (ps_ret (pe_op op_add_str (pe_op op_add_str (pe_op op_add_str (pe_ix ix_tup (pv 0) pe_int (fun _ _ => rfl)) pe_str) (pe_cl c_text hr (by omega) (by rfl) (pa_cons (pe_ix ix_tup (pv 0) pe_int (fun _ _ => rfl)) pa_nil))) pe_str))) pss_nil)
      (pss_cons (ps_if (pt_cmpR op_eq (pe_ix ix_tup (pv 0) pe_int (fun _ _ => rfl)) pe_str (nomark _)) (pss_one (ps_ret (pe_op op_add_str (pe_op op_add_str pe_str (pe_cl c_text hr (by omega) (by rfl) (pa_cons (pe_ix ix_tup (pv 0) pe_int (fun _ _ => rfl)) pa_nil))) pe_str))) pss_nil)
      (pss_one (ps_ret (pe_op op_add_str (pe_op op_add_str (pe_op op_add_str (pe_callTy call_str_int (by rfl) m_str (by decide +kernel) (pa_cons (pe_ix ix_tup (pv 0) pe_int (fun _ _ => rfl)) pa_nil)) pe_str) (pe_cl c_text hr (by omega) (by rfl) (pa_cons (pe_ix ix_tup (pv 0) pe_int (fun _ _ => rfl)) pa_nil))) pe_str)))))))), ?_⟩
    have tl := tx_len p ok
    match p, hD, ok, hw, hd, q, tl with
    | .tr b c m, hD, ok, hw, hd, q, tl =>
      rw [DtAt] at hD
      have hT : SqT K H a _ := SqT.of hD
      rw [Ok] at ok
      have hm := ok.2.2.2
      have ld := dig_len hm
      walk_at "go"
      refine ⟨by rw [S_len, S_len]; exact szl (show 1 + 1 ≤ 100000 by decide), ?_⟩
      rw [S_cat]
      walk_at "go"
      refine ⟨lg60 hm, ?_⟩
      rw [str_dig]
      refine ⟨_, _, rfl, rfl, by rw [S_len, S_len]; exact szl (show 2 + (dig m).length ≤ 100000 by omega), ?_⟩
      rw [S_cat]
      rw [tx] at q
      exact q _ (Same.refl _)
    | .ev c, hD, ok, hw, hd, q, tl =>
      rw [DtAt] at hD
      have hT : SqT K H a _ := SqT.of hD
      walk_at "go"
      exact q _ (Same.refl _)
    | .ch o os, hD, ok, hw, hd, q, tl =>
      rw [DtAt] at hD
      obtain ⟨L, as, hD, hL, hA⟩ := hD
      have hT : SqT K H a _ := SqT.of hD
      rw [wt] at hw
      rw [dp] at hd
      have la := DasAt.len _ _ hA
      rw [Ok] at ok
      have hjl := txLL_len os ok.2.2.2
      have ljn2 := jn_len [32, 124, 32] (txLL os)
      walk_at "go"
      refine ⟨by rw [show Str.ofString "(" = S [40] from rfl, S_len, S_len]; exact szl (show 1 + 1 ≤ 100000 by decide), ?_⟩
      rw [show Str.ofString "(" = S [40] from rfl, S_cat]
      walk_at "go"
      refine ⟨⟨_, rfl⟩, ?_⟩
      walk_at "go"
      refine ⟨⟨_, SqL.of hL⟩, ?_⟩
      intro D nD
      refine lc_vsL (SqL.of hL) (os.map fun p => .str (S (txB p))) (by rw [List.length_map, List.length_map, la]) (by rw [List.length_map]; omega) nD (fun x => rfl) (fun i x y J Q4 ex ey s4 q4 => ?_) (fun J s4 eD => ?_)
      · obtain ⟨y2, p, rfl, ep, hp⟩ := DasAt.gets _ _ hA i x ex
        rw [List.getElem?_map, ep] at ey
        cases ey
        have pm := List.mem_of_getElem? ep
        have := wtLL_mem pm
        have := dpLL_mem pm
        walk_at "go"
        exact ⟨y2, p, rfl, hp.mono s4, okLL_iff.mp ok.2.2.2 p pm, by omega, by omega, fun J2 s2 => q4 _ s2⟩
      walk_at "go"
      refine ⟨S [32, 124, 32], D, (txLL os).map S, rfl, rfl, .inl (SqL.of (by rw [txLL_map, List.map_map, List.map_map]; exact eD)), ?_, ?_⟩
      · rw [show (S [32, 124, 32]).length = 3 from S_len _, len3]
        omega
      rw [SX.join_S, jn_eq]
      have ljn3 : (jn [32, 124, 32] (txLL os)).length ≤ ((txLL os).map fun t => t.length + 3).sum := ljn2
      rw [tx] at q
      generalize jn [32, 124, 32] (txLL os) = inner at ljn3 q ⊢
      refine ⟨_, _, rfl, rfl, by rw [S_len, S_len]; exact szl (by simp only [List.length_append, List.length_cons, List.length_nil]; omega), ?_⟩
      rw [S_cat]
      refine ⟨_, _, rfl, rfl, by rw [show Str.ofString ")" = S [41] from rfl, S_len, S_len]; exact szl (by simp only [List.length_append, List.length_cons, List.length_nil]; omega), ?_⟩
      rw [show Str.ofString ")" = S [41] from rfl, S_cat]
      exact q _ s4
    | .rd o b, hD, ok, hw, hd, q, tl =>
      rw [DtAt] at hD
      obtain ⟨L, as, hD, hL, hA⟩ := hD
      have hT : SqT K H a _ := SqT.of hD
      rw [wt] at hw
      rw [dp] at hd
      rw [Ok] at ok
      rw [tx] at q tl
      walk_at "go"
      refine ⟨by rw [show Str.ofString "[" = S [91] from rfl, S_len, S_len]; exact szl (show 1 + 1 ≤ 100000 by decide), ?_⟩
      rw [show Str.ofString "[" = S [91] from rfl, S_cat]
      walk_at "go"
      refine ⟨L, b, rfl, ⟨as, hL, hA⟩, ok.2, by omega, by omega, fun H1 s1 => ?_⟩
      have lb := txB_len b ok.2
      refine ⟨_, _, rfl, rfl, by rw [S_len, S_len]; exact szl (by simp only [List.length_append, List.length_cons, List.length_nil]; omega), ?_⟩
      rw [S_cat]
      refine ⟨_, _, rfl, rfl, by rw [show Str.ofString "]" = S [93] from rfl, S_len, S_len]; exact szl (by simp only [List.length_append, List.length_cons, List.length_nil]; omega), ?_⟩
      rw [show Str.ofString "]" = S [93] from rfl, S_cat]
      exact q _ s1
    | .en b, hD, ok, hw, hd, q, tl =>
      rw [DtAt] at hD
      obtain ⟨L, as, hD, hL, hA⟩ := hD
      have hT : SqT K H a _ := SqT.of hD
      rw [wt] at hw
      rw [dp] at hd
      rw [Ok] at ok
      rw [tx] at q tl
      walk_at "go"
      refine ⟨L, b, rfl, ⟨as, hL, hA⟩, ok, by omega, by omega, fun H1 s1 => ?_⟩
      have lb := txB_len b ok
      rw [show Str.ofString "[" = S [91] from rfl]
      refine ⟨_, _, rfl, rfl, by rw [S_len, S_len]; exact szl (by simp only [List.length_append, List.length_cons, List.length_nil]; omega), ?_⟩
      rw [S_cat]
      refine ⟨_, _, rfl, rfl, by rw [show Str.ofString "]" = S [93] from rfl, S_len, S_len]; exact szl (by simp only [List.length_append, List.length_cons, List.length_nil]; omega), ?_⟩
      rw [show Str.ofString "]" = S [93] from rfl, S_cat]
      exact q _ s1
    | .ti c b, hD, ok, hw, hd, q, tl =>
      rw [DtAt] at hD
      obtain ⟨L, as, hD, hL, hA⟩ := hD
      have hT : SqT K H a _ := SqT.of hD
      rw [wt] at hw
      rw [dp] at hd
      rw [Ok] at ok
      have h4 : wtL b ≤ wtL b * (if c < 1 then 1 else c) := Nat.le_mul_of_pos_right _ (by split <;> omega)
      rw [tx] at q tl
      walk_at "go"
      refine ⟨lg60 (show c ≤ 10 ^ 60 by have := ok.1; omega), ?_⟩
      rw [str_dig]
      have ld := dig_len3 ok.1
      refine ⟨_, _, rfl, rfl, by rw [show Str.ofString "(" = S [40] from rfl, S_len, S_len]; exact szl (by simp only [List.length_append, List.length_cons, List.length_nil]; omega), ?_⟩
      rw [show Str.ofString "(" = S [40] from rfl, S_cat]
      walk_at "go"
      refine ⟨L, b, rfl, ⟨as, hL, hA⟩, ok.2, by omega, by omega, fun H1 s1 => ?_⟩
      have lb := txB_len b ok.2
      refine ⟨_, _, rfl, rfl, by rw [S_len, S_len]; exact szl (by simp only [List.length_append, List.length_cons, List.length_nil]; omega), ?_⟩
      rw [S_cat]
      refine ⟨_, _, rfl, rfl, by rw [show Str.ofString ")" = S [41] from rfl, S_len, S_len]; exact szl (by simp only [List.length_append, List.length_cons, List.length_nil]; omega), ?_⟩
      rw [show Str.ofString ")" = S [41] from rfl, S_cat]
      exact q _ s1
/-- the texts of all parts -/
theorem all_text (F : FnP K "_law_text" s_text f fd) (g : mg "_law_text" = some (.ref f)) (b : Binds K fd P_text []) (F2 : FnP K "_law_part_text" s_part_text f2 fd2) (g2 : mg "_law_part_text" = some (.ref f2)) (b2 : Binds K fd2 P_part_text []) (m_len : mg "len" = none) (m_str : mg "str" = none) : ∀ d, Cal P w K mg base (2 * d + 6) "_law_text" (spTl d)
  | 0 => cal_of F g b (no_fn fun vs H Q E h => by obtain ⟨L, l, _, _, _, _, z, _⟩ := h; omega)
  | d + 1 => by
    have c_text := all_text F g b F2 g2 b2 m_len m_str d
    have c_part := cal_of F2 g2 b2 (ok_part_text F2 m_str c_text)
    rw [show 2 * (d + 1) + 6 = 2 * d + 8 by omega]
    exact cal_of F g b (ok_text F m_len c_part)
end
end Z
set_option pp.maxSteps 700
set_option Elab.async false
set_option linter.all false
set_option maxRecDepth 100000
set_option maxHeartbeats 4000000
open SX (S S_inj S_len S_cat)
namespace Z
open Pk NdefX
open PySem PySem.Spec PyProof.Rows L2
open C8 (pss_cut tCut)
local macro_rules | `(tactic| walk_at "num") => `(tactic| first | rfl | omega | decide | exact Nat.le_of_lt (small1000 (by simp)) | exact ⟨by omega, by omega⟩ | exact ⟨by omega, by omega, by omega⟩ | exact ⟨by decide, by decide, by decide⟩ | exact Or.inl ⟨by omega, by omega⟩ | exact Or.inr ⟨by omega, by omega⟩)
local macro_rules | `(tactic| walk_at "go") => `(tactic| repeat (first | refine ⟨_, rfl, ?_⟩ | refine ⟨_, _, rfl, rfl, ?_⟩ | refine ⟨_, _, rfl, ?_⟩ | (refine ⟨_, _, rfl, rfl, ?_, ?_⟩; focus walk_at "num") | refine Or.inl ⟨_, rfl, ?_⟩ | refine ⟨_, _, _, _, rfl, rfl, (by assumption), (by rfl), ?_⟩ | refine ⟨_, _, _, _, _, rfl, (by assumption), (by assumption), (by assumption), (by rfl), ?_⟩ | refine ⟨rfl, ?_⟩ | (refine And.intro ?_ ?_; focus walk_at "num")))
abbrev s_depth : Stmt := topS 55
abbrev N_depth : List Str := ["_law_pact_here", "_law_part_here"]
abbrev P_depth : List Str := ["_law_pact_here"]
theorem sc_depth : FnScope N_depth P_depth (defScope s_depth) := ⟨rfl, rfl, rfl, by decide +kernel, rfl, by decide +kernel, by decide +kernel⟩
abbrev s_part_depth : Stmt := topS 56
abbrev N_part_depth : List Str := ["_law_part_here", "_law_option"]
abbrev P_part_depth : List Str := ["_law_part_here"]
theorem sc_part_depth : FnScope N_part_depth P_part_depth (defScope s_part_depth) := ⟨rfl, rfl, rfl, by decide +kernel, rfl, by decide +kernel, by decide +kernel⟩
theorem dp_hit : ∀ l : List Pt, dpL l = 0 ∨ ∃ p ∈ l, dp p = dpL l
  | [] => .inl (by rw [dpL])
  | p :: l => by
    rw [dpL]
    rcases dp_hit l with h | ⟨q, hq, e⟩
    · rcases Nat.le_total (dp p) (dpL l) with z | z
      · exact .inl (by omega)
      · exact .inr ⟨p, List.mem_cons_self, by omega⟩
    · rcases Nat.le_total (dp p) (dpL l) with z | z
      · exact .inr ⟨q, List.mem_cons_of_mem _ hq, by omega⟩
      · exact .inr ⟨p, List.mem_cons_self, by omega⟩
theorem dpLL_hit : ∀ l : List (List Pt), l ≠ [] → ∃ p ∈ l, dpL p = dpLL l
  | [], h => absurd rfl h
  | [b], _ => ⟨b, List.mem_cons_self, by rw [dpLL, dpLL]; omega⟩
  | b :: c :: l, _ => by
    obtain ⟨q, hq, e⟩ := dpLL_hit (c :: l) (by simp)
    rw [dpLL]
    rcases Nat.le_total (dpL b) (dpLL (c :: l)) with z | z
    · exact ⟨q, List.mem_cons_of_mem _ hq, by omega⟩
    · exact ⟨b, List.mem_cons_self, by omega⟩
theorem mx_dp {l : List Pt} {m : Int} (h1 : m ∈ (0 : Int) :: l.map fun p => (dp p : Int)) (h2 : ∀ y ∈ (0 : Int) :: l.map (fun p => (dp p : Int)), y ≤ m) : m = (dpL l : Int) := by
  have a : m ≤ (dpL l : Int) := by
    rcases List.mem_cons.mp h1 with h | h
    · omega
    · obtain ⟨p, hp, rfl⟩ := List.mem_map.mp h
      have := dpL_mem hp
      omega
  have b : (dpL l : Int) ≤ m := by
    rcases dp_hit l with h | ⟨q, hq, e⟩
    · rw [h]
      exact h2 0 List.mem_cons_self
    · rw [← e]
      exact h2 _ (List.mem_cons_of_mem _ (List.mem_map.mpr ⟨q, hq, rfl⟩))
  omega
theorem mx_dpL {l : List (List Pt)} {m : Int} (ne : l ≠ []) (h1 : m ∈ l.map fun p => (dpL p : Int)) (h2 : ∀ y ∈ l.map (fun p => (dpL p : Int)), y ≤ m) : m = (dpLL l : Int) := by
  have a : m ≤ (dpLL l : Int) := by
    obtain ⟨p, hp, rfl⟩ := List.mem_map.mp h1
    have := dpLL_mem hp
    omega
  have b : (dpLL l : Int) ≤ m := by
    obtain ⟨q, hq, e⟩ := dpLL_hit l ne
    rw [← e]
    exact h2 _ (List.mem_map.mpr ⟨q, hq, rfl⟩)
  omega
section
variable {P : Program} {w : World} {K : PySem.W.Frag} {mg : Str → Option Value} {base : Heap} {f f2 : Addr} {k : Cs} {fd fd2 : FuncData}
def spDl (d : Nat) : Sp := fun vs H Q _ => ∃ (L : Addr) (l : List Pt), vs = [.ref L] ∧ DaAt H l L ∧ OkL l ∧ wtL l ≤ 10000 ∧ dpL l + 1 ≤ d ∧ ∀ H', Same H H' → Q (.int (dpL l : Int)) H'
def spDp (d : Nat) : Sp := fun vs H Q _ => ∃ (a : Addr) (p : Pt), vs = [.ref a] ∧ DtAt H p a ∧ Ok p ∧ wt p ≤ 10000 ∧ dp p ≤ d ∧ ∀ H', Same H H' → Q (.int (dp p : Int)) H'
theorem ok_depth {d : Nat} (F : FnP K "_law_depth" s_depth f fd) (m_max : mg "max" = none) (c_part_depth : Cal P w K mg base (2 * d + 7) "_law_part_depth" (spDp d)) : FnOk P w K mg base CX0 (2 * d + 8) f fd P_depth (spDl (d + 1)) := by
  refine F.ok sc_depth (fun vs H Q E h => ?_) (fun cdv A outer s H vs Q E hr h => ?_)
  · obtain ⟨L, l, rfl, _⟩ := h
    rfl
  · obtain ⟨L, l, rfl, ⟨bs, hL, hD⟩, ok, hw, hd, qq⟩ := h
    refine ⟨_, PSs.nox (pss_one (ps_ret (pe_callB (cr_max rfl) (by rfl) m_max (by decide +kernel) (pa_cons (pe_op op_cat (pe_lst (pa_cons pe_int pa_nil)) (pe_lc (own := [("_law_part_here", 1)]) (g := (gName 1)) (tt := tYes) (by rfl) sc_depth.nd (pi_list (pv 0)) (blkOk_by (own := [("_law_part_here", 1)]) (N := N_depth) (sc := defScope s_depth) (by decide +kernel)) (fun _ _ _ _ _ => (pg_name (i := 1) sc_depth.nd rfl (by first | exact .inl rfl | exact .inr rfl))) (fun _ _ _ _ _ => pts_nil) (fun _ _ _ _ _ => (pe_cl c_part_depth hr (by omega) (by rfl) (pa_cons (pv 1) pa_nil))))) pa_nil)))), ?_⟩
    have lw := len_wt l
    have lb := DtsAt.len _ _ hD
    walk_at "go"
    intro Z0 nZ0
    generalize eH_ : upd H Z0 _ = J0
    have s0 : Same H J0 := by rw [← eH_]; exact same_new nZ0
    have eZ0 : J0 Z0 = some (.lst [.int 0]) := by rw [← eH_]; exact upd_same
    clear eH_
    walk_at "go"
    refine ⟨⟨_, SqL.of (s0 _ _ hL)⟩, ?_⟩
    intro D nD
    refine lc_vsL (SqL.of (s0 _ _ hL)) (l.map fun p => .int (dp p : Int)) (by rw [List.length_map, List.length_map, lb]) (by rw [List.length_map]; omega) nD (fun x => rfl) (fun i x y J Q4 ex ey s4 q4 => ?_) (fun J s4 eD => ?_)
    · obtain ⟨y2, p, rfl, ep, hp⟩ := DtsAt.gets _ _ hD i x ex
      rw [List.getElem?_map, ep] at ey
      cases ey
      have pm := List.mem_of_getElem? ep
      have := wtL_mem pm
      have := dpL_mem pm
      walk_at "go"
      exact ⟨y2, p, rfl, (hp.mono s0 _ _).mono s4 _ _, okL_iff.mp ok p pm, by omega, by omega, fun J2 s2 => q4 _ s2⟩
    walk_at "go"
    refine ⟨Z0, D, _, _, rfl, rfl, s4 _ _ eZ0, eD, szl (by rw [List.length_map]; show 1 + l.length ≤ 100000; omega), fun M nM => ?_⟩
    have s5 := same_new (o := .lst ([.int 0] ++ l.map fun p => V.int (dp p : Int))) nM
    have eM : (upd J M (.lst ([.int 0] ++ l.map fun p => V.int (dp p : Int)))) M = some (.lst (((0 : Int) :: l.map fun p => (dp p : Int)).map V.int)) := by
      rw [upd_same, List.map_cons, List.map_map]
      rfl
    generalize upd J M (.lst ([.int 0] ++ l.map fun p => V.int (dp p : Int))) = J5 at s5 eM ⊢
    walk_at "go"
    refine ⟨M, _, rfl, SqL.of eM, by simp, fun m h1 h2 => ?_⟩
    rw [mx_dp h1 h2]
    exact qq _ ((s0.trans s4).trans s5)
theorem ok_part_depth {d : Nat} (F : FnP K "_law_part_depth" s_part_depth f fd) (m_max : mg "max" = none) (c_depth : Cal P w K mg base (2 * d + 6) "_law_depth" (spDl d)) : FnOk P w K mg base CX0 (2 * d + 7) f fd P_part_depth (spDp d) := by
  refine F.ok sc_part_depth (fun vs H Q E h => ?_) (fun cdv A outer s H vs Q E hr h => ?_)
  · obtain ⟨a, p, rfl, _⟩ := h
    rfl
  · obtain ⟨a, p, rfl, hD, ok, hw, hd, qq⟩ := h
    refine ⟨_, PSs.nox (pss_cons (ps_if (PW.pt (pw_or (pt_cmpR op_eq (pe_ix ix_tup (pv 0) pe_int (fun _ _ => rfl)) pe_str (nomark _)) (pw_or1 (pt_cmpR op_eq (pe_ix ix_tup (pv 0) pe_int (fun _ _ => rfl)) pe_str (nomark _))))) (pss_one (ps_ret pe_int)) pss_nil)
      (pss_cons (ps_if (pt_cmpR op_eq (pe_ix ix_tup (pv 0) pe_int (fun _ _ => rfl)) pe_str (nomark _)) (pss_one (ps_ret (pe_op op_add pe_int (pe_callB (cr_max rfl) (by rfl) m_max (by decide +kernel) (pa_cons (pe_lc (own := [("_law_option", 1)]) (g := (gName 1)) (tt := tYes) (by rfl) sc_part_depth.nd (pi_list (pe_ix ix_tup (pv 0) pe_int (fun _ _ => rfl))) (blkOk_by (own := [("_law_option", 1)]) (N := N_part_depth) (sc := defScope s_part_depth) (by decide +kernel)) (fun _ _ _ _ _ => (pg_name (i := 1) sc_part_depth.nd rfl (by first | exact .inl rfl | exact .inr rfl))) (fun _ _ _ _ _ => pts_nil) (fun _ _ _ _ _ => (pe_cl c_depth hr (by omega) (by rfl) (pa_cons (pv 1) pa_nil)))) pa_nil))))) pss_nil)
      (pss_cons (ps_if (pt_cmpR op_eq (pe_ix ix_tup (pv 0) pe_int (fun _ _ => rfl)) pe_str (nomark _)) (pss_one (ps_ret (pe_op op_add pe_int (pe_cl c_depth hr (by omega) (by rfl) (pa_cons (pe_ix ix_tup (pv 0) pe_int (fun _ _ => rfl)) pa_nil))))) pss_nil)
      (pss_one (ps_ret (pe_op op_add pe_int (pe_cl c_depth hr (by omega) (by rfl) (pa_cons (pe_ix ix_tup (pv 0) pe_int (fun _ _ => rfl)) pa_nil)))))))), ?_⟩
    match p, hD, ok, hw, hd, qq with
    | .tr p q m, hD, ok, hw, hd, qq =>
      rw [DtAt] at hD
      have hT : SqT K H a _ := SqT.of hD
      rw [dp] at qq
      walk_at "go"
      exact qq _ (Same.refl _)
    | .ev c, hD, ok, hw, hd, qq =>
      rw [DtAt] at hD
      have hT : SqT K H a _ := SqT.of hD
      rw [dp] at qq
      walk_at "go"
      exact qq _ (Same.refl _)
    | .ch o os, hD, ok, hw, hd, qq =>
      rw [DtAt] at hD
      obtain ⟨L, as, hD, hL, hA⟩ := hD
      have hT : SqT K H a _ := SqT.of hD
      rw [wt] at hw
      rw [dp] at hd qq
      have la := DasAt.len _ _ hA
      rw [Ok] at ok
      walk_at "go"
      refine ⟨⟨_, SqL.of hL⟩, ?_⟩
      intro D nD
      refine lc_vsL (SqL.of hL) (os.map fun p => .int (dpL p : Int)) (by rw [List.length_map, List.length_map, la]) (by rw [List.length_map]; omega) nD (fun x => rfl) (fun i x y J Q4 ex ey s4 q4 => ?_) (fun J s4 eD => ?_)
      · obtain ⟨y2, p, rfl, ep, hp⟩ := DasAt.gets _ _ hA i x ex
        rw [List.getElem?_map, ep] at ey
        cases ey
        have pm := List.mem_of_getElem? ep
        have := wtLL_mem pm
        have := dpLL_mem pm
        walk_at "go"
        exact ⟨y2, p, rfl, hp.mono s4, okLL_iff.mp ok.2.2.2 p pm, by omega, by omega, fun J2 s2 => q4 _ s2⟩
      walk_at "go"
      have ne : os ≠ [] := fun e => by rw [e] at ok; exact absurd ok.2.1 (by decide)
      refine ⟨D, os.map fun p => (dpL p : Int), rfl, SqL.of (by rw [List.map_map]; exact eD), by rw [List.length_map]; exact List.length_pos_iff.mpr ne, fun m h1 h2 => ?_⟩
      rw [mx_dpL ne h1 h2]
      walk_at "go"
      show Q (V.int (1 + (dpLL os : Int))) J
      rw [show 1 + (dpLL os : Int) = ((1 + dpLL os : Nat) : Int) by omega]
      exact qq _ s4
    | .rd o b, hD, ok, hw, hd, qq =>
      rw [DtAt] at hD
      obtain ⟨L, as, hD, hL, hA⟩ := hD
      have hT : SqT K H a _ := SqT.of hD
      rw [wt] at hw
      rw [dp] at hd qq
      rw [Ok] at ok
      walk_at "go"
      refine ⟨L, b, rfl, ⟨as, hL, hA⟩, ok.2, by omega, by omega, fun H1 s1 => ?_⟩
      walk_at "go"
      show Q (V.int (1 + (dpL b : Int))) H1
      rw [show 1 + (dpL b : Int) = ((dpL b + 1 : Nat) : Int) by omega]
      exact qq _ s1
    | .en b, hD, ok, hw, hd, qq =>
      rw [DtAt] at hD
      obtain ⟨L, as, hD, hL, hA⟩ := hD
      have hT : SqT K H a _ := SqT.of hD
      rw [wt] at hw
      rw [dp] at hd qq
      rw [Ok] at ok
      walk_at "go"
      refine ⟨L, b, rfl, ⟨as, hL, hA⟩, ok, by omega, by omega, fun H1 s1 => ?_⟩
      walk_at "go"
      show Q (V.int (1 + (dpL b : Int))) H1
      rw [show 1 + (dpL b : Int) = ((dpL b + 1 : Nat) : Int) by omega]
      exact qq _ s1
    | .ti c b, hD, ok, hw, hd, qq =>
      rw [DtAt] at hD
      obtain ⟨L, as, hD, hL, hA⟩ := hD
      have hT : SqT K H a _ := SqT.of hD
      rw [wt] at hw
      rw [dp] at hd qq
      rw [Ok] at ok
      have h4 : wtL b ≤ wtL b * (if c < 1 then 1 else c) := Nat.le_mul_of_pos_right _ (by split <;> omega)
      walk_at "go"
      refine ⟨L, b, rfl, ⟨as, hL, hA⟩, ok.2, by omega, by omega, fun H1 s1 => ?_⟩
      walk_at "go"
      show Q (V.int (1 + (dpL b : Int))) H1
      rw [show 1 + (dpL b : Int) = ((dpL b + 1 : Nat) : Int) by omega]
      exact qq _ s1
/-- the depths of all parts -/
theorem all_depth (F : FnP K "_law_depth" s_depth f fd) (g : mg "_law_depth" = some (.ref f)) (b : Binds K fd P_depth []) (F2 : FnP K "_law_part_depth" s_part_depth f2 fd2) (g2 : mg "_law_part_depth" = some (.ref f2)) (b2 : Binds K fd2 P_part_depth []) (m_max : mg "max" = none) : ∀ d, Cal P w K mg base (2 * d + 6) "_law_depth" (spDl d)
  | 0 => cal_of F g b (no_fn fun vs H Q E h => by obtain ⟨L, l, _, _, _, _, z, _⟩ := h; omega)
  | d + 1 => by
    have c_depth := all_depth F g b F2 g2 b2 m_max d
    have c_part := cal_of F2 g2 b2 (ok_part_depth F2 m_max c_depth)
    rw [show 2 * (d + 1) + 6 = 2 * d + 8 by omega]
    exact cal_of F g b (ok_depth F m_max c_part)
end
end Z
set_option Elab.async false
set_option linter.all false
set_option maxRecDepth 100000
namespace Z
open PySem PySem.Spec PyProof.Rows L2
/-- a ** n of at most 2 ^ 27 bits -/
def CPowW (i j : Int) : Prop := 0 ≤ j ∧ (Builtin.Int.intBits i : Int) * j ≤ 2 ^ 27
theorem op_powW {X : Cx} : OpR X (binaryOp .Pow) (rI CPowW fun i j => .int (i ^ j.toNat)) := opI fun _ _ _ _ _ _ _ hc q => pow_int hc.1 hc.2 q
/-- f() -/
theorem pe_cl0 {X : Cx} {k j : Nat} {x : Str} {sp : Sp} {p pos : Pos} (c : Cal X.prog X.w X.K X.mg X.base k x sp) (hr : Room j X.A) (hk : k ≤ j) (hg : Gl X x) (hdb : (x == ("__debug__" : Str)) = false := by decide) : PE X (.Call (.Name x p) [] [] pos) (tCall sp [] E0 tNil) := by
  obtain ⟨f, fd, ps, F, hm, kp, b⟩ := c.ex
  exact pe_call0 F (hr.mono hk) hg hm kp b .nil pass0 hdb
end Z
set_option pp.maxSteps 700
set_option Elab.async false
set_option linter.all false
set_option maxRecDepth 100000
set_option maxHeartbeats 4000000
open SX (S S_inj S_len S_cat)
namespace Z
open Pk NdefX
open PySem PySem.Spec PyProof.Rows L2
open C8 (pss_cut tCut)
local macro_rules | `(tactic| walk_at "num") => `(tactic| first | rfl | omega | decide | exact Nat.le_of_lt (small1000 (by simp)) | exact ⟨by omega, by omega⟩ | exact ⟨by omega, by omega, by omega⟩ | exact ⟨by decide, by decide, by decide⟩ | exact Or.inl ⟨by omega, by omega⟩ | exact Or.inr ⟨by omega, by omega⟩)
local macro_rules | `(tactic| walk_at "go") => `(tactic| repeat (first | refine ⟨_, rfl, ?_⟩ | refine ⟨_, _, rfl, rfl, ?_⟩ | refine ⟨_, _, rfl, ?_⟩ | (refine ⟨_, _, rfl, rfl, ?_, ?_⟩; focus walk_at "num") | refine Or.inl ⟨_, rfl, ?_⟩ | refine ⟨_, _, _, _, rfl, rfl, (by assumption), (by rfl), ?_⟩ | refine ⟨_, _, _, _, _, rfl, (by assumption), (by assumption), (by assumption), (by rfl), ?_⟩ | refine ⟨rfl, ?_⟩ | (refine And.intro ?_ ?_; focus walk_at "num")))
abbrev s_most : Stmt := topS 67
abbrev N_most : List Str := ["_law_cell_here"]
abbrev P_most : List Str := ["_law_cell_here"]
theorem sc_most : FnScope N_most P_most (defScope s_most) := ⟨rfl, rfl, rfl, by decide +kernel, rfl, by decide +kernel, by decide +kernel⟩
abbrev s_padded : Stmt := topS 68
abbrev N_padded : List Str := ["_law_pact_here", "_law_weight_here", "_law_k"]
abbrev P_padded : List Str := ["_law_pact_here", "_law_weight_here"]
theorem sc_padded : FnScope N_padded P_padded (defScope s_padded) := ⟨rfl, rfl, rfl, by decide +kernel, rfl, by decide +kernel, by decide +kernel⟩
abbrev s_chain : Stmt := topS 69
abbrev N_chain : List Str := ["_law_draws_here", "_law_place", "_law_many", "_law_core", "_law_pact_here", "_law_k", "_law_draw", "_law_owner"]
abbrev P_chain : List Str := ["_law_draws_here", "_law_place", "_law_many", "_law_core"]
theorem sc_chain : FnScope N_chain P_chain (defScope s_chain) := ⟨rfl, rfl, rfl, by decide +kernel, rfl, by decide +kernel, by decide +kernel⟩
theorem dpL_all' {d : Nat} : ∀ {l : List Pt}, (∀ p ∈ l, dp p ≤ d) → dpL l ≤ d
  | [], _ => by rw [dpL]; exact Nat.zero_le _
  | p :: l, h => by
    have h1 := h p List.mem_cons_self
    have h2 := dpL_all' fun q hq => h q (List.mem_cons_of_mem _ hq)
    rw [dpL]
    omega
theorem par_in {j : Nat} (h : j < 6) : ∃ c, atI (Str.ofString "abcdef").cps.toList (j : Int) = some c ∧ c ∈ PAR := by
  rw [par_eq]
  exact ⟨PAR[j], atI_nat (List.getElem?_eq_getElem h), List.getElem_mem _⟩
section
variable {P : Program} {w : World} {K : PySem.W.Frag} {mg : Str → Option Value} {base : Heap} {f f2 : Addr} {k : Cs} {fd fd2 : FuncData}
def spMs : Sp := fun vs H Q _ => ∃ c : Int, vs = [.int c] ∧ ∀ (m : Nat) H', Same H H' → m ≤ 10 ^ 60 → Q (.int (m : Int)) H'
theorem ok_most (F : FnP K "_law_most" s_most f fd) (m_int : mg "int" = none) : FnOk P w K mg base CX0 1 f fd P_most spMs := by
  refine F.ok sc_most (fun vs H Q E h => ?_) (fun cdv A outer s H vs Q E hr h => ?_)
  · obtain ⟨c, rfl, _⟩ := h
    rfl
  · obtain ⟨c, rfl, q⟩ := h
    refine ⟨_, PSs.nox (pss_one (ps_ret (pe_ix ix_list (pe_lst (pa_cons pe_int (pa_cons (pe_op op_pow pe_int pe_int) (pa_cons (pe_op op_mod (pe_callTy call_int1 (by rfl) m_int (by decide +kernel) (pa_cons (pv 0) pa_nil)) (pe_op op_add (pe_op op_pow pe_int pe_int) pe_int)) (pa_cons (pe_op op_sub (pe_op op_pow pe_int pe_int) (pe_op op_mod (pe_callTy call_int1 (by rfl) m_int (by decide +kernel) (pa_cons (pv 0) pa_nil)) pe_int)) pa_nil))))) (pe_op op_mod (pe_callTy call_int1 (by rfl) m_int (by decide +kernel) (pa_cons (pe_op op_fdiv (pe_callTy call_int1 (by rfl) m_int (by decide +kernel) (pa_cons (pv 0) pa_nil)) pe_int) pa_nil)) pe_int) (fun _ _ => rfl)))), ?_⟩
    walk_at "go"
    refine ⟨show (0 : Int) < 10 ^ 60 + 1 by decide +kernel, ?_⟩
    walk_at "go"
    intro D nD
    have s1 := same_new (o := .lst ([(0 : Int), 10 ^ 60, c % (10 ^ 60 + 1), 10 ^ 60 - c % 1000].map V.int)) nD
    have eD : (upd H D (.lst ([(0 : Int), 10 ^ 60, c % (10 ^ 60 + 1), 10 ^ 60 - c % 1000].map V.int))) D = some (.lst ([(0 : Int), 10 ^ 60, c % (10 ^ 60 + 1), 10 ^ 60 - c % 1000].map V.int)) := upd_same
    have h1 := Int.emod_nonneg c (show (10 ^ 60 + 1 : Int) ≠ 0 by decide +kernel)
    have h2 := Int.emod_lt_of_pos c (show (0 : Int) < 10 ^ 60 + 1 by decide +kernel)
    have h3 := Int.emod_nonneg c (show (1000 : Int) ≠ 0 by decide)
    have h4 := Int.emod_lt_of_pos c (show (0 : Int) < 1000 by decide)
    obtain ⟨j, ej, hj⟩ := modN (c / 7) (show 0 < 4 by decide)
    have ej : c / 7 % 4 = (j : Int) := ej
    obtain ⟨m, em, hm⟩ : ∃ m : Nat, ([(0 : Int), 10 ^ 60, c % (10 ^ 60 + 1), 10 ^ 60 - c % 1000])[j]? = some (m : Int) ∧ m ≤ 10 ^ 60 := by
      have e : j = 0 ∨ j = 1 ∨ j = 2 ∨ j = 3 := by omega
      rcases e with rfl | rfl | rfl | rfl
      · exact ⟨0, rfl, Nat.zero_le _⟩
      · exact ⟨10 ^ 60, congrArg some (by decide +kernel), Nat.le_refl _⟩
      · exact ⟨(c % (10 ^ 60 + 1)).toNat, congrArg some (by omega), by omega⟩
      · exact ⟨(10 ^ 60 - c % 1000).toNat, congrArg some (by omega), by omega⟩
    walk_at "go"
    refine ⟨D, _, _, .int (m : Int), rfl, rfl, SqL.of eD, ?_, ?_⟩
    · rw [ej]
      exact atI_nat (by rw [List.getElem?_map, em]; rfl)
    exact q m _ s1 hm
theorem del_upd {J : Hp} {D : Addr} {o : HO} : Z.del (upd J D o) D = Z.del J D := by
  funext b
  unfold Z.del
  by_cases c : b = D
  · rw [if_pos c, if_pos c]
  · rw [if_neg c, if_neg c, upd_ne c]
theorem DtsAt.dl {H : Hp} {D : Addr} {as : List Addr} {y : Addr} {c : Nat} {l : List Pt} (h : DtsAt (Z.del H D) l as) (hy : H y = some (.tup [.str "event", .str (S [c])])) (ny : y ≠ D) : DtsAt (Z.del H D) (l ++ [.ev c]) (as ++ [y]) := dtsAt_app _ _ _ _ h (dtsAt_one (by rw [DtAt]; exact del_of ny hy))
/-- events in place of what is lacking -/
def spPd (d : Nat) : Sp := fun vs H Q _ => ∃ (L : Addr) (l : List Pt) (n : Nat), vs = [.ref L, .int (n : Int)] ∧ DaAt H l L ∧ OkL l ∧ wtL l ≤ n ∧ n ≤ 1000 ∧ dpL l + 1 ≤ d ∧ ∀ R l' H', Same H H' → DaAt H' l' R → OkL l' → wtL l' ≤ n → dpL l' ≤ max (dpL l) 1 → (∀ p ∈ l', p ∈ l ∨ ∃ c, p = .ev c) → Q (.ref R) H'
theorem ok_padded {d : Nat} (F : FnP K "_law_padded" s_padded f fd) (m_int : mg "int" = none) (m_range : mg "range" = none) (c_weight : Cal P w K mg base (2 * d + 6) "_law_weight" (spWl d)) (c_marks : Cal P w K mg base 1 "_law_marks" spMk_) : FnOk P w K mg base CX0 (2 * d + 7) f fd P_padded (spPd d) := by
  refine F.ok sc_padded (fun vs H Q E h => ?_) (fun cdv A outer s H vs Q E hr h => ?_)
  · obtain ⟨L, l, n, rfl, _⟩ := h
    rfl
  · obtain ⟨L, l, n, rfl, hl, ok, hw, hn, hd, q⟩ := h
    refine ⟨_, PSs.nox (pss_one (ps_ret (pe_op op_cat (pv 0) (pe_lc (own := [("_law_k", 2)]) (g := (gName 2)) (tt := tYes) (by rfl) sc_padded.nd (pi_range1 (by rfl) m_range (pa_cons (pe_op op_sub (pv 1) (pe_cl c_weight hr (by omega) (by rfl) (pa_cons (pv 0) pa_nil))) pa_nil)) (blkOk_by (own := [("_law_k", 2)]) (N := N_padded) (sc := defScope s_padded) (by decide +kernel)) (fun _ _ _ _ _ => (pg_name (i := 2) sc_padded.nd rfl (by first | exact .inl rfl | exact .inr rfl))) (fun _ _ _ _ _ => pts_nil) (fun _ _ _ _ _ => (pe_tup (pa_cons pe_str (pa_cons (pe_ix ix_str (pe_cl0 c_marks hr (by omega) (by rfl)) (pe_op op_mod (pe_callTy call_int1 (by rfl) m_int (by decide +kernel) (pa_cons (pv 2) pa_nil)) pe_int) (fun _ _ => rfl)) pa_nil)))))))), ?_⟩
    walk_at "go"
    refine ⟨L, l, rfl, hl, ok, by omega, hd, fun H1 s1 => ?_⟩
    walk_at "go"
    intro D nD
    refine lc_gen (n := n - wtL l) (fun i J => Same H1 J ∧ ∃ (l' : List Pt) (as : List Addr), J D = some (.lst (as.map V.ref)) ∧ DtsAt (Z.del J D) l' as ∧ l'.length = i ∧ ∀ p ∈ l', ∃ c ∈ MRK, p = .ev c) ⟨same_new nD, [], [], upd_same, by rw [DtsAt], rfl, fun p hp => absurd hp List.not_mem_nil⟩ (fun i J hi _ => ?_) (fun J _ => ?_) (fun i J x J' hi ⟨s2, l', as, eD, hT, ll, hm⟩ hy => ?_) (fun J ⟨s2, l', as, eD, hT, ll, hm⟩ => ?_)
    · show i < ((n : Int) - (wtL l : Int)).toNat
      omega
    · show ((n : Int) - (wtL l : Int)).toNat ≤ n - wtL l
      omega
    · obtain ⟨rfl, rfl⟩ := hy
      refine ⟨rfl, ?_⟩
      walk_at "go"
      obtain ⟨j, ej, hj⟩ := modN (0 + (i : Int)) (show 0 < 26 by decide)
      have ej : (0 + (i : Int)) % 26 = (j : Int) := ej
      have hj2 : j < MRK.length := hj
      refine ⟨_, _, MRK[j], rfl, rfl, by rw [S_len]; exact szl (by decide), ?_, ?_⟩
      · rw [ej]
        exact at_S hj2
      walk_at "go"
      intro t nt
      generalize eH_ : upd J' t _ = J2
      have s3 : Same J' J2 := by rw [← eH_]; exact same_new nt
      have et : J2 t = some (.tup [.str "event", .str (S [MRK[j]])]) := by rw [← eH_]; exact upd_same
      clear eH_
      have tD : t ≠ D := fun e => by rw [e, eD] at nt; cases nt
      have la := DtsAt.len _ _ hT
      refine ⟨as.map V.ref, s3 _ _ eD, Nat.lt_of_le_of_lt (show (as.map V.ref).length ≤ 1000 by rw [List.length_map]; omega) (by decide), Z.Same.mut (s2.trans s3) nD, l' ++ [.ev MRK[j]], as ++ [t], by rw [upd_same, List.map_append]; rfl, ?_, by rw [List.length_append, ll]; rfl, fun p hp => ?_⟩
      · rw [del_upd]
        exact DtsAt.dl (hT.mono (del_mono s3) _ _) et tD
      · rcases List.mem_append.mp hp with hp | hp
        · exact hm p hp
        · exact ⟨_, List.getElem_mem hj2, List.mem_singleton.mp hp⟩
    · obtain ⟨bs, hL, hB⟩ := hl
      have s12 := s1.trans s2
      have la := DtsAt.len _ _ hT
      have lb := DtsAt.len _ _ hB
      have lw := len_wt l
      walk_at "go"
      refine ⟨L, D, _, _, rfl, rfl, s12 _ _ hL, eD, szl (by rw [List.length_map, List.length_map]; omega), fun R nR => ?_⟩
      have s5 := same_new (o := .lst (bs.map V.ref ++ as.map V.ref)) nR
      have eR : (upd J R (.lst (bs.map V.ref ++ as.map V.ref))) R = some (.lst ((bs ++ as).map V.ref)) := by rw [upd_same, List.map_append]
      generalize upd J R (.lst (bs.map V.ref ++ as.map V.ref)) = J6 at s5 eR ⊢
      walk_at "go"
      have okE : ∀ p ∈ l', Ok p ∧ wt p = 1 ∧ dp p = 1 := fun p hp => by
        obtain ⟨c, hc, rfl⟩ := hm p hp
        rw [Ok, wt, dp]
        exact ⟨hc, rfl, rfl⟩
      have we : wtL l' = l'.length := by
        have : ∀ l : List Pt, (∀ p ∈ l, wt p = 1) → wtL l = l.length := fun l => by
          induction l with
          | nil => intro _; rw [wtL]; rfl
          | cons p l ih =>
            intro h
            rw [wtL, h p List.mem_cons_self, ih fun q hq => h q (List.mem_cons_of_mem _ hq), List.length_cons]
            omega
        exact this l' fun p hp => (okE p hp).2.1
      refine q R (l ++ l') J6 (s12.trans s5) ⟨bs ++ as, eR, dtsAt_app _ _ _ _ (hB.mono (s12.trans s5) _ _) ((hT.mono del_same _ _).mono s5 _ _)⟩ (okL_iff.mpr fun p hp => (List.mem_append.mp hp).elim (okL_iff.mp ok p) fun z => (okE p z).1) (by rw [wtL_app, we, ll]; omega) (by rw [dpL_app]; have : dpL l' ≤ 1 := dpL_all' fun p hp => Nat.le_of_eq (okE p hp).2.2; omega) fun p hp => (List.mem_append.mp hp).elim .inl fun z => .inr (by obtain ⟨c, _, e⟩ := hm p z; exact ⟨c, e⟩)
end
end Z
set_option pp.maxSteps 700
set_option Elab.async false
set_option linter.all false
set_option maxRecDepth 100000
set_option maxHeartbeats 4000000
open SX (S S_inj S_len S_cat)
namespace Z
open Pk NdefX
open PySem PySem.Spec PyProof.Rows L2
open C8 (pss_cut tCut)
local macro_rules | `(tactic| walk_at "num") => `(tactic| first | rfl | omega | decide | exact Nat.le_of_lt (small1000 (by simp)) | exact ⟨by omega, by omega⟩ | exact ⟨by omega, by omega, by omega⟩ | exact ⟨by decide, by decide, by decide⟩ | exact Or.inl ⟨by omega, by omega⟩ | exact Or.inr ⟨by omega, by omega⟩)
local macro_rules | `(tactic| walk_at "go") => `(tactic| repeat (first | refine ⟨_, rfl, ?_⟩ | refine ⟨_, _, rfl, rfl, ?_⟩ | refine ⟨_, _, rfl, ?_⟩ | (refine ⟨_, _, rfl, rfl, ?_, ?_⟩; focus walk_at "num") | refine Or.inl ⟨_, rfl, ?_⟩ | refine ⟨_, _, _, _, rfl, rfl, (by assumption), (by rfl), ?_⟩ | refine ⟨_, _, _, _, _, rfl, (by assumption), (by assumption), (by assumption), (by rfl), ?_⟩ | refine ⟨rfl, ?_⟩ | (refine And.intro ?_ ?_; focus walk_at "num")))
section
variable {P : Program} {w : World} {K : PySem.W.Frag} {mg : Str → Option Value} {base : Heap} {f f2 : Addr} {k : Cs} {fd fd2 : FuncData}
def spCn (K : PySem.W.Frag) : Sp := fun vs H Q _ => ∃ (a p L : Addr) (n many : Nat) (ds : List Int) (l : List Pt), vs = [.ref a, .ref p, .int (many : Int), .ref L] ∧ Tk K a p ds n H H ∧ DaAt H l L ∧ OkL l ∧ many ≤ 1000 ∧ (∀ x ∈ l, GnO x) ∧ ∀ R l' H', Tk K a p ds n H H' → DaAt H' l' R → OkL l' → wtL l' ≤ wtL l + many → dpL l' ≤ dpL l + many → (∀ x ∈ l', GnO x) → Q (.ref R) H'
theorem ok_chain (F : FnP K "_law_chain" s_chain f fd) (m_int : mg "int" = none) (m_range : mg "range" = none) (c_take : Cal P w K mg base 1 "_law_take" (spTake K)) : FnOk P w K mg base CX0 2 f fd P_chain (spCn K) := by
  refine F.ok sc_chain (fun vs H Q E h => ?_) (fun cdv A outer s H vs Q E hr h => ?_)
  · obtain ⟨a, p, L, n, many, ds, l, rfl, _⟩ := h
    rfl
  · obtain ⟨a, p, L, n, many, ds, l, rfl, hT, hl, ok, hmn, hgo, q⟩ := h
    refine ⟨_, PSs.nox (pss_cons (ps_set (i := 4) sc_chain.nd rfl (by first | exact .inl rfl | exact .inr rfl) (pv 3))
      (pss_cons (ps_for PassesOwn.never rfl (pi_range1 (by rfl) m_range (pa_cons (pv 2) pa_nil)) (pg_name (i := 5) sc_chain.nd rfl (by first | exact .inl rfl | exact .inr rfl))
        (pss_cons (ps_set (i := 6) sc_chain.nd rfl (by first | exact .inl rfl | exact .inr rfl) (pe_cl c_take hr (by omega) (by rfl) (pa_cons (pv 0) (pa_cons (pv 1) pa_nil))))
      (pss_cons (ps_set (i := 7) sc_chain.nd rfl (by first | exact .inl rfl | exact .inr rfl) (pe_ix ix_str pe_str (pe_op op_mod (pe_callTy call_int1 (by rfl) m_int (by decide +kernel) (pa_cons (pe_op op_fdiv (pv 6) pe_int) pa_nil)) pe_int) (fun _ _ => rfl)))
      (pss_one (ps_if (pt_cmpR op_eq (pe_op op_mod (pe_callTy call_int1 (by rfl) m_int (by decide +kernel) (pa_cons (pv 6) pa_nil)) pe_int) pe_int (nomark _)) (pss_one (ps_set (i := 4) sc_chain.nd rfl (by first | exact .inl rfl | exact .inr rfl) (pe_lst (pa_cons (pe_tup (pa_cons pe_str (pa_cons (pv 4) pa_nil))) pa_nil)))) (pss_one (ps_if (pt_cmpR op_eq (pe_op op_mod (pe_callTy call_int1 (by rfl) m_int (by decide +kernel) (pa_cons (pv 6) pa_nil)) pe_int) pe_int (nomark _)) (pss_one (ps_set (i := 4) sc_chain.nd rfl (by first | exact .inl rfl | exact .inr rfl) (pe_lst (pa_cons (pe_tup (pa_cons pe_str (pa_cons (pe_op op_mod (pe_callTy call_int1 (by rfl) m_int (by decide +kernel) (pa_cons (pe_op op_fdiv (pv 6) pe_int) pa_nil)) pe_int) (pa_cons (pv 4) pa_nil)))) pa_nil)))) (pss_one (ps_if (pt_cmpR op_eq (pe_op op_mod (pe_callTy call_int1 (by rfl) m_int (by decide +kernel) (pa_cons (pv 6) pa_nil)) pe_int) pe_int (nomark _)) (pss_one (ps_set (i := 4) sc_chain.nd rfl (by first | exact .inl rfl | exact .inr rfl) (pe_lst (pa_cons (pe_tup (pa_cons pe_str (pa_cons (pv 7) (pa_cons (pe_lst (pa_cons (pv 4) (pa_cons (pe_lst pa_nil) pa_nil))) pa_nil)))) pa_nil)))) (pss_one (ps_if (pt_cmpR op_eq (pe_op op_mod (pe_callTy call_int1 (by rfl) m_int (by decide +kernel) (pa_cons (pv 6) pa_nil)) pe_int) pe_int (nomark _)) (pss_one (ps_set (i := 4) sc_chain.nd rfl (by first | exact .inl rfl | exact .inr rfl) (pe_lst (pa_cons (pe_tup (pa_cons pe_str (pa_cons (pv 7) (pa_cons (pe_lst (pa_cons (pe_lst pa_nil) (pa_cons (pv 4) pa_nil))) pa_nil)))) pa_nil)))) (pss_one (ps_set (i := 4) sc_chain.nd rfl (by first | exact .inl rfl | exact .inr rfl) (pe_lst (pa_cons (pe_tup (pa_cons pe_str (pa_cons (pv 7) (pa_cons (pv 4) pa_nil)))) pa_nil)))))))))))))))
      (pss_one (ps_ret (pv 4))))), ?_⟩
    walk_at "go"
    refine for_gen (n := many) (fun i σ J => ∃ (R : Addr) (l' : List Pt) (u5 u6 u7 : Option V), Tk K a p ds n H J ∧ DaAt J l' R ∧ OkL l' ∧ wtL l' ≤ wtL l + i ∧ dpL l' ≤ dpL l + i ∧ (∀ x ∈ l', GnO x) ∧ σ = [some (.ref a), some (.ref p), some (.int (many : Int)), some (.ref L), some (.ref R), u5, u6, u7]) ⟨L, l, none, none, none, hT, hl, ok, Nat.le_refl _, Nat.le_refl _, hgo, rfl⟩ ?_ ?_ ?_ ?_
    · rintro i σ J hi _
      show i < ((many : Nat) : Int).toNat
      omega
    · rintro σ J _
      show ((many : Nat) : Int).toNat ≤ many
      omega
    · rintro i σ J zz J' hi ⟨R, l', u5, u6, u7, hT1, hl1, ok1, hw1, hd1, hg1, rfl⟩ ⟨rfl, rfl⟩
      obtain ⟨m, em⟩ := hT1.pl
      dsimp only [List.set]
      walk_at "go"
      refine ⟨a, p, n, m, ds, rfl, SqL.of hT1.hA, hT1.hd, em, hT1.ne, fun r h0 h1 => ?_⟩
      obtain ⟨hT2, _⟩ := hT1.next em
      have hl2 := hl1.monoD ((hT1.slf.next em).1.smD hT1.pl)
      generalize upd J' p (.lst [.int ((m + 1 : Nat) : Int)]) = J2 at hT2 hl2 ⊢
      obtain ⟨jo, ejo, hjo⟩ := modN (r / 5) (show 0 < 6 by decide)
      have ejo : r / 5 % 6 = (jo : Int) := ejo
      obtain ⟨c, ec, hc⟩ := par_in hjo
      dsimp only [List.set]
      walk_at "go"
      refine ⟨_, _, c, rfl, rfl, by decide, by rw [ejo]; exact ec, ?_⟩
      dsimp only [List.set]
      have stop : ∀ (J3 : Hp) (x : Pt) (M t : Addr) (u7 : Option V), Same J2 J3 → J3 M = some (.lst [.ref t]) → DtAt J3 x t → Ok x → wt x ≤ wtL l' + 1 → dp x ≤ dpL l' + 1 → GnO x → ∃ (R : Addr) (l'' : List Pt) (u5 u6 u7' : Option V), Tk K a p ds n H J3 ∧ DaAt J3 l'' R ∧ OkL l'' ∧ wtL l'' ≤ wtL l + (i + 1) ∧ dpL l'' ≤ dpL l + (i + 1) ∧ (∀ x ∈ l'', GnO x) ∧ [some (V.ref a), some (V.ref p), some (V.int (many : Int)), some (V.ref L), some (V.ref M), some (V.int (0 + (i : Int))), some (V.int r), u7] = [some (.ref a), some (.ref p), some (.int (many : Int)), some (.ref L), some (.ref R), u5, u6, u7'] := fun J3 x M t u7 s3 eM hx okx hwx hdx gx =>
        ⟨M, [x], _, _, _, hT2.more s3, ⟨[t], eM, dtsAt_one hx⟩, by rw [OkL, OkL]; exact ⟨okx, True.intro⟩, by rw [wtL, wtL]; omega, by rw [dpL, dpL]; omega, fun y hy => (by rw [List.mem_singleton.mp hy]; exact gx), rfl⟩
      obtain ⟨bs, hL2, hB2⟩ := hl2
      walk_at "go"
      refine ite2 (fun _ => ?_) (fun _ => ?_)
      · walk_at "go"
        intro t nt
        generalize eH_ : upd J2 t _ = J3
        have s3 : Same J2 J3 := by rw [← eH_]; exact same_new nt
        have et : J3 t = some (.tup [.str "endless", .ref R]) := by rw [← eH_]; exact upd_same
        clear eH_
        walk_at "go"
        intro M nM
        generalize eH_ : upd J3 M _ = J4
        have s4 : Same J3 J4 := by rw [← eH_]; exact same_new nM
        have eM : J4 M = some (.lst [.ref t]) := by rw [← eH_]; exact upd_same
        clear eH_
        dsimp only [List.set]
        refine stop J4 (.en l') M t _ (s3.trans s4) eM ?_ (by rw [Ok]; exact ok1) (by rw [wt]; exact Nat.le_refl _) (by rw [dp]; exact Nat.le_refl _) (GnO.en hg1)
        rw [DtAt]
        exact ⟨R, bs, s4 _ _ et, (s3.trans s4) _ _ hL2, hB2.mono (s3.trans s4) _ _⟩
      walk_at "go"
      refine ite2 (fun _ => ?_) (fun _ => ?_)
      · obtain ⟨j2, ej2, hj2⟩ := modN (r / 5) (show 0 < 2 by decide)
        have ej2 : r / 5 % 2 = (j2 : Int) := ej2
        walk_at "go"
        rw [show (fun i j : Int => V.int (i % j)) (r / 5) 2 = V.int (j2 : Int) from congrArg V.int ej2]
        intro t nt
        generalize eH_ : upd J2 t _ = J3
        have s3 : Same J2 J3 := by rw [← eH_]; exact same_new nt
        have et : J3 t = some (.tup [.str "times", .int (j2 : Int), .ref R]) := by rw [← eH_]; exact upd_same
        clear eH_
        walk_at "go"
        intro M nM
        generalize eH_ : upd J3 M _ = J4
        have s4 : Same J3 J4 := by rw [← eH_]; exact same_new nM
        have eM : J4 M = some (.lst [.ref t]) := by rw [← eH_]; exact upd_same
        clear eH_
        dsimp only [List.set]
        have e1 : (if j2 < 1 then 1 else j2) = 1 := by split <;> omega
        refine stop J4 (.ti j2 l') M t _ (s3.trans s4) eM ?_ (by rw [Ok]; exact ⟨by omega, ok1⟩) (by rw [wt, e1, Nat.mul_one]; exact Nat.le_refl _) (by rw [dp]; exact Nat.le_refl _) (GnO.t1 (by omega) hg1)
        rw [DtAt]
        exact ⟨R, bs, s4 _ _ et, (s3.trans s4) _ _ hL2, hB2.mono (s3.trans s4) _ _⟩
      walk_at "go"
      refine ite2 (fun _ => ?_) (fun _ => ?_)
      · walk_at "go"
        intro Z0 nZ0
        generalize eH_ : upd J2 Z0 _ = J3
        have s3 : Same J2 J3 := by rw [← eH_]; exact same_new nZ0
        have eZ0 : J3 Z0 = some (.lst []) := by rw [← eH_]; exact upd_same
        clear eH_
        walk_at "go"
        intro O nO
        generalize eH_ : upd J3 O _ = J4
        have s4 : Same J3 J4 := by rw [← eH_]; exact same_new nO
        have eO : J4 O = some (.lst [.ref R, .ref Z0]) := by rw [← eH_]; exact upd_same
        clear eH_
        walk_at "go"
        intro t nt
        generalize eH_ : upd J4 t _ = J5
        have s5 : Same J4 J5 := by rw [← eH_]; exact same_new nt
        have et : J5 t = some (.tup [.str "choice", .str (S [c]), .ref O]) := by rw [← eH_]; exact upd_same
        clear eH_
        walk_at "go"
        intro M nM
        generalize eH_ : upd J5 M _ = J6
        have s6 : Same J5 J6 := by rw [← eH_]; exact same_new nM
        have eM : J6 M = some (.lst [.ref t]) := by rw [← eH_]; exact upd_same
        clear eH_
        dsimp only [List.set]
        have s26 := ((s3.trans s4).trans s5).trans s6
        refine stop J6 (.ch c [l', []]) M t _ s26 eM ?_ (by rw [Ok, OkLL, OkLL, OkLL, OkL]; exact ⟨hc, (show 2 ≤ 2 by decide), (show 2 ≤ 6 by decide), ok1, True.intro, True.intro⟩) (by rw [wt, wtLL, wtLL, wtLL, wtL]; omega) (by rw [dp, dpLL, dpLL, dpLL, dpL]; omega) (GnO.ch (fun b hb => (List.mem_cons.mp hb).elim (fun z => by rw [z]; exact hg1) (fun z => by rw [List.mem_singleton.mp z]; exact fun p hp => absurd hp List.not_mem_nil)))
        rw [DtAt]
        refine ⟨O, [R, Z0], s6 _ _ et, (s5.trans s6) _ _ eO, ?_⟩
        rw [DasAt]
        refine ⟨R, [Z0], rfl, ⟨bs, s26 _ _ hL2, hB2.mono s26 _ _⟩, ?_⟩
        rw [DasAt]
        exact ⟨Z0, [], rfl, ⟨[], ((s4.trans s5).trans s6) _ _ eZ0, by rw [DtsAt]⟩, by rw [DasAt]⟩
      walk_at "go"
      refine ite2 (fun _ => ?_) (fun _ => ?_)
      · walk_at "go"
        intro Z0 nZ0
        generalize eH_ : upd J2 Z0 _ = J3
        have s3 : Same J2 J3 := by rw [← eH_]; exact same_new nZ0
        have eZ0 : J3 Z0 = some (.lst []) := by rw [← eH_]; exact upd_same
        clear eH_
        walk_at "go"
        intro O nO
        generalize eH_ : upd J3 O _ = J4
        have s4 : Same J3 J4 := by rw [← eH_]; exact same_new nO
        have eO : J4 O = some (.lst [.ref Z0, .ref R]) := by rw [← eH_]; exact upd_same
        clear eH_
        walk_at "go"
        intro t nt
        generalize eH_ : upd J4 t _ = J5
        have s5 : Same J4 J5 := by rw [← eH_]; exact same_new nt
        have et : J5 t = some (.tup [.str "choice", .str (S [c]), .ref O]) := by rw [← eH_]; exact upd_same
        clear eH_
        walk_at "go"
        intro M nM
        generalize eH_ : upd J5 M _ = J6
        have s6 : Same J5 J6 := by rw [← eH_]; exact same_new nM
        have eM : J6 M = some (.lst [.ref t]) := by rw [← eH_]; exact upd_same
        clear eH_
        dsimp only [List.set]
        have s26 := ((s3.trans s4).trans s5).trans s6
        refine stop J6 (.ch c [[], l']) M t _ s26 eM ?_ (by rw [Ok, OkLL, OkLL, OkLL, OkL]; exact ⟨hc, (show 2 ≤ 2 by decide), (show 2 ≤ 6 by decide), True.intro, ok1, True.intro⟩) (by rw [wt, wtLL, wtLL, wtLL, wtL]; omega) (by rw [dp, dpLL, dpLL, dpLL, dpL]; omega) (GnO.ch (fun b hb => (List.mem_cons.mp hb).elim (fun z => by rw [z]; exact fun p hp => absurd hp List.not_mem_nil) (fun z => by rw [List.mem_singleton.mp z]; exact hg1)))
        rw [DtAt]
        refine ⟨O, [Z0, R], s6 _ _ et, (s5.trans s6) _ _ eO, ?_⟩
        rw [DasAt]
        refine ⟨Z0, [R], rfl, ⟨[], ((s4.trans s5).trans s6) _ _ eZ0, by rw [DtsAt]⟩, ?_⟩
        rw [DasAt]
        exact ⟨R, [], rfl, ⟨bs, s26 _ _ hL2, hB2.mono s26 _ _⟩, by rw [DasAt]⟩
      walk_at "go"
      intro t nt
      generalize eH_ : upd J2 t _ = J3
      have s3 : Same J2 J3 := by rw [← eH_]; exact same_new nt
      have et : J3 t = some (.tup [.str "rounds", .str (S [c]), .ref R]) := by rw [← eH_]; exact upd_same
      clear eH_
      walk_at "go"
      intro M nM
      generalize eH_ : upd J3 M _ = J4
      have s4 : Same J3 J4 := by rw [← eH_]; exact same_new nM
      have eM : J4 M = some (.lst [.ref t]) := by rw [← eH_]; exact upd_same
      clear eH_
      dsimp only [List.set]
      refine stop J4 (.rd c l') M t _ (s3.trans s4) eM ?_ (by rw [Ok]; exact ⟨hc, ok1⟩) (by rw [wt]; exact Nat.le_refl _) (by rw [dp]; exact Nat.le_refl _) (GnO.rd hg1)
      rw [DtAt]
      exact ⟨R, bs, s4 _ _ et, (s3.trans s4) _ _ hL2, hB2.mono (s3.trans s4) _ _⟩
    · rintro σ J ⟨R, l', u5, u6, u7, hT1, hl1, ok1, hw1, hd1, hg1, rfl⟩
      walk_at "go"
      exact q R l' J hT1 hl1 ok1 hw1 hd1 hg1
end
end Z
set_option pp.maxSteps 700
set_option Elab.async false
set_option linter.all false
set_option maxRecDepth 100000
set_option maxHeartbeats 4000000
open SX (S S_inj S_len S_cat)
namespace Z
open Pk NdefX
open PySem PySem.Spec PyProof.Rows L2
open C8 (pss_cut tCut)
local macro_rules | `(tactic| walk_at "num") => `(tactic| first | rfl | omega | decide | exact Nat.le_of_lt (small1000 (by simp)) | exact ⟨by omega, by omega⟩ | exact ⟨by omega, by omega, by omega⟩ | exact ⟨by decide, by decide, by decide⟩ | exact Or.inl ⟨by omega, by omega⟩ | exact Or.inr ⟨by omega, by omega⟩)
local macro_rules | `(tactic| walk_at "go") => `(tactic| repeat (first | refine ⟨_, rfl, ?_⟩ | refine ⟨_, _, rfl, rfl, ?_⟩ | refine ⟨_, _, rfl, ?_⟩ | (refine ⟨_, _, rfl, rfl, ?_, ?_⟩; focus walk_at "num") | refine Or.inl ⟨_, rfl, ?_⟩ | refine ⟨_, _, _, _, rfl, rfl, (by assumption), (by rfl), ?_⟩ | refine ⟨_, _, _, _, _, rfl, (by assumption), (by assumption), (by assumption), (by rfl), ?_⟩ | refine ⟨rfl, ?_⟩ | (refine And.intro ?_ ?_; focus walk_at "num")))
abbrev s_drawn : Stmt := topS 70
abbrev N_drawn : List Str := ["_law_script", "_law_turns", "_law_draws_here", "_law_place", "_law_pact_here", "_law_k", "_law_at", "_law_payer", "_law_payee", "_law_part_here", "_law_body", "_law_core"]
abbrev P_drawn : List Str := ["_law_script", "_law_turns"]
theorem sc_drawn : FnScope N_drawn P_drawn (defScope s_drawn) := ⟨rfl, rfl, rfl, by decide +kernel, rfl, by decide +kernel, by decide +kernel⟩
theorem DtsAt.cut {H : Hp} : ∀ (n : Nat) (l : List Pt) (as : List Addr), DtsAt H l as → DtsAt H (l.take n) (as.take n) ∧ DtsAt H (l.drop n) (as.drop n)
  | 0, l, as, h => ⟨by rw [List.take_zero, List.take_zero, DtsAt], by rw [List.drop_zero, List.drop_zero]; exact h⟩
  | n + 1, [], as, h => by
    rw [DtsAt] at h
    subst h
    exact ⟨by rw [List.take_nil, List.take_nil, DtsAt], by rw [List.drop_nil, List.drop_nil, DtsAt]⟩
  | n + 1, p :: l, as, h => by
    rw [DtsAt] at h
    obtain ⟨a, r, rfl, h1, h2⟩ := h
    obtain ⟨g1, g2⟩ := DtsAt.cut n l r h2
    refine ⟨?_, g2⟩
    rw [List.take_succ_cons, List.take_succ_cons, DtsAt]
    exact ⟨a, _, rfl, h1, g1⟩
theorem cutV_lo {α : Type} (f : α → V) {xs : List α} {n : Nat} (h : n ≤ xs.length) : cutV (xs.map f) none (some (n : Int)) = (xs.take n).map f := by
  unfold cutV
  rw [List.length_map, HT.sIx_nat, Nat.min_eq_left h, show HT.sIx xs.length 0 none = 0 from rfl, List.drop_zero, Nat.sub_zero, List.map_take]
theorem cutV_hi {α : Type} (f : α → V) {xs : List α} {n : Nat} (h : n ≤ xs.length) : cutV (xs.map f) (some (n : Int)) none = (xs.drop n).map f := by
  unfold cutV
  rw [List.length_map, HT.sIx_nat, Nat.min_eq_left h, show HT.sIx xs.length xs.length none = xs.length from rfl, List.take_of_length_le (by rw [List.length_drop, List.length_map]; exact Nat.le_refl _), List.map_drop]
theorem szl3 {n : Nat} (h : n ≤ 10000) : n ≤ sizeLine := Nat.le_trans h (by decide)
/-- a right pact of bounded weight and depth -/
structure Pb (l : List Pt) (w d : Nat) : Prop where
  ok : OkL l
  wt : wtL l ≤ w
  dp : dpL l ≤ d
  go : ∀ p ∈ l, GnO p
theorem Pb.wk {l : List Pt} {w d v e : Nat} (h : Pb l w d) (h1 : w ≤ v) (h2 : d ≤ e) : Pb l v e := ⟨h.ok, Nat.le_trans h.wt h1, Nat.le_trans h.dp h2, h.go⟩
theorem Pb.mid {l : List Pt} {v d : Nat} (h : Pb l v d) (c : Nat) (p : Pt) {w : Nat} (ok : Ok p) (hw : Pk.wt p ≤ w) (hd : Pk.dp p ≤ d) (hg : GnO p) : Pb (l.take c ++ [p] ++ l.drop c) (v + w) d := by
  have e : wtL l = wtL (l.take c) + wtL (l.drop c) := by rw [← wtL_app, List.take_append_drop]
  have hm : ∀ q ∈ l.take c ++ [p] ++ l.drop c, q ∈ l ∨ q = p := fun q hq => by
    rcases List.mem_append.mp hq with hq | hq
    · rcases List.mem_append.mp hq with hq | hq
      · exact .inl (List.mem_of_mem_take hq)
      · exact .inr (List.mem_singleton.mp hq)
    · exact .inl (List.mem_of_mem_drop hq)
  refine ⟨okL_iff.mpr fun q hq => (hm q hq).elim (okL_iff.mp h.ok q) (fun e => e ▸ ok), ?_, dpL_all' fun q hq => (hm q hq).elim (fun z => Nat.le_trans (dpL_mem z) h.dp) (fun e => e ▸ hd), fun q hq => (hm q hq).elim (h.go q) (fun e => e ▸ hg)⟩
  have := h.wt
  rw [wtL_app, wtL_app, wtL, wtL]
  omega
theorem pm_all : PM PAR MRK := ⟨by decide, by decide, by decide, fun c h => h, by decide, by decide, fun c h => h⟩
section
variable {P : Program} {w : World} {K : PySem.W.Frag} {mg : Str → Option Value} {base : Heap} {f f2 : Addr} {k : Cs} {fd fd2 : FuncData}
def spDn (K : PySem.W.Frag) : Sp := fun vs H Q _ => ∃ (a t : Addr) (ns ts : List Int), vs = [.ref a, .ref t] ∧ SqL K H a (ns.map V.int) ∧ H t = some (.lst (ts.map V.int)) ∧ Dr 8 ts ∧ ∀ (L : Addr) (l : List Pt) H', Same H H' → DaAt H' l L → Pb l 400 30 → Q (.ref L) H'
theorem ok_drawn (F : FnP K "_law_drawn" s_drawn f fd) (m_int : mg "int" = none) (m_len : mg "len" = none) (m_range : mg "range" = none) (c_cell : Cal P w K mg base 1 "_law_cell" (spCell K)) (c_draws : Cal P w K mg base 1 "_law_draws" spDraws) (c_marks : Cal P w K mg base 1 "_law_marks" spMk_) (c_pact : Cal P w K mg base (2 * 2 + 8) "_law_pact" (spPc K 3)) (c_part : Cal P w K mg base (2 * 2 + 7) "_law_part" (spPp K 2)) (c_cut : Cal P w K mg base (2 * 5 + 8) "_law_cut" (spCut 5)) (c_most : Cal P w K mg base 1 "_law_most" spMs) (c_padded : Cal P w K mg base (2 * 5 + 7) "_law_padded" (spPd 5)) (c_depth : Cal P w K mg base (2 * 5 + 6) "_law_depth" (spDl 5)) (c_chain : Cal P w K mg base 2 "_law_chain" (spCn K)) : FnOk P w K mg base CX0 (2 * 5 + 9) f fd P_drawn (spDn K) := by
  refine F.ok sc_drawn (fun vs H Q E h => ?_) (fun cdv A outer s H vs Q E hr h => ?_)
  · obtain ⟨a, t, ns, ts, rfl, _⟩ := h
    rfl
  · obtain ⟨a, t, ns, ts, rfl, hS, hT, ht, q⟩ := h
    refine ⟨_, PSs.nox (pss_cons (ps_set (i := 2) sc_drawn.nd rfl (by first | exact .inl rfl | exact .inr rfl) (pe_cl c_draws hr (by omega) (by rfl) (pa_cons (pe_cl c_cell hr (by omega) (by rfl) (pa_cons (pv 0) (pa_cons pe_int pa_nil))) (pa_cons pe_int pa_nil))))
      (pss_cons (ps_set (i := 3) sc_drawn.nd rfl (by first | exact .inl rfl | exact .inr rfl) (pe_lst (pa_cons pe_int pa_nil)))
      (pss_cons (ps_set (i := 4) sc_drawn.nd rfl (by first | exact .inl rfl | exact .inr rfl) (pe_cl c_pact hr (by omega) (by rfl) (pa_cons (pv 2) (pa_cons (pv 3) (pa_cons pe_int (pa_cons pe_str (pa_cons (pe_cl0 c_marks hr (by omega) (by rfl)) pa_nil)))))))
      (pss_cut (ps_if (pt_cmpR op_eq (pe_op op_mod (pe_callTy call_int1 (by rfl) m_int (by decide +kernel) (pa_cons (pe_ix ix_list (pv 1) pe_int (fun _ _ => rfl)) pa_nil)) pe_int) pe_int (nomark _)) (pss_one (ps_set (i := 4) sc_drawn.nd rfl (by first | exact .inl rfl | exact .inr rfl) (pe_op op_cat (pv 4) (pe_lc (own := [("_law_k", 5)]) (g := (gName 5)) (tt := tYes) (by rfl) sc_drawn.nd (pi_range1 (by rfl) m_range (pa_cons (pe_op op_mod (pe_callTy call_int1 (by rfl) m_int (by decide +kernel) (pa_cons (pe_ix ix_list (pv 1) pe_int (fun _ _ => rfl)) pa_nil)) pe_int) pa_nil)) (blkOk_by (own := [("_law_k", 5)]) (N := N_drawn) (sc := defScope s_drawn) (by decide +kernel)) (fun _ _ _ _ _ => (pg_name (i := 5) sc_drawn.nd rfl (by first | exact .inl rfl | exact .inr rfl))) (fun _ _ _ _ _ => pts_nil) (fun _ _ _ _ _ => (pe_cl c_part hr (by omega) (by rfl) (pa_cons (pv 2) (pa_cons (pv 3) (pa_cons pe_int (pa_cons pe_str (pa_cons (pe_cl0 c_marks hr (by omega) (by rfl)) pa_nil))))))))))) pss_nil)
      (pss_cons (ps_set (i := 4) sc_drawn.nd rfl (by first | exact .inl rfl | exact .inr rfl) (pe_cl c_cut hr (by omega) (by rfl) (pa_cons (pv 4) (pa_cons pe_int pa_nil))))
      (pss_cons (ps_set (i := 6) sc_drawn.nd rfl (by first | exact .inl rfl | exact .inr rfl) (pe_op op_mod (pe_callTy call_int1 (by rfl) m_int (by decide +kernel) (pa_cons (pe_ix ix_list (pv 1) pe_int (fun _ _ => rfl)) pa_nil)) (pe_op op_add (pe_callB call_len_seq (by rfl) m_len PySem.boot_len (pa_cons (pv 4) pa_nil)) pe_int)))
      (pss_cut (ps_if (pt_cmpR op_eq (pe_op op_mod (pe_callTy call_int1 (by rfl) m_int (by decide +kernel) (pa_cons (pe_ix ix_list (pv 1) pe_int (fun _ _ => rfl)) pa_nil)) pe_int) pe_int (nomark _)) (pss_cons (ps_set (i := 7) sc_drawn.nd rfl (by first | exact .inl rfl | exact .inr rfl) (pe_op op_mod (pe_callTy call_int1 (by rfl) m_int (by decide +kernel) (pa_cons (pe_ix ix_list (pv 1) pe_int (fun _ _ => rfl)) pa_nil)) pe_int))
      (pss_cons (ps_set (i := 8) sc_drawn.nd rfl (by first | exact .inl rfl | exact .inr rfl) (pe_op op_mod (pe_callTy call_int1 (by rfl) m_int (by decide +kernel) (pa_cons (pe_op op_add (pe_op op_add (pv 7) pe_int) (pe_op op_mod (pe_callTy call_int1 (by rfl) m_int (by decide +kernel) (pa_cons (pe_op op_fdiv (pe_ix ix_list (pv 1) pe_int (fun _ _ => rfl)) pe_int) pa_nil)) pe_int)) pa_nil)) pe_int))
      (pss_cons (ps_set (i := 9) sc_drawn.nd rfl (by first | exact .inl rfl | exact .inr rfl) (pe_tup (pa_cons pe_str (pa_cons (pe_ix ix_str pe_str (pv 7) (fun _ _ => rfl)) (pa_cons (pe_ix ix_str pe_str (pv 8) (fun _ _ => rfl)) (pa_cons (pe_cl c_most hr (by omega) (by rfl) (pa_cons (pe_cl c_cell hr (by omega) (by rfl) (pa_cons (pv 0) (pa_cons pe_int pa_nil))) pa_nil)) pa_nil))))))
      (pss_one (ps_set (i := 4) sc_drawn.nd rfl (by first | exact .inl rfl | exact .inr rfl) (pe_op op_cat (pe_op op_cat (pe_slice sl_list (pv 4) po_none (po_some (pv 6))) (pe_lst (pa_cons (pv 9) pa_nil))) (pe_slice sl_list (pv 4) (po_some (pv 6)) po_none))))))) pss_nil)
      (pss_cut (ps_if (pt_cmpR op_eq (pe_op op_mod (pe_callTy call_int1 (by rfl) m_int (by decide +kernel) (pa_cons (pe_ix ix_list (pv 1) pe_int (fun _ _ => rfl)) pa_nil)) pe_int) pe_int (nomark _)) (pss_cons (ps_set (i := 10) sc_drawn.nd rfl (by first | exact .inl rfl | exact .inr rfl) (pe_cl c_cut hr (by omega) (by rfl) (pa_cons (pe_cl c_pact hr (by omega) (by rfl) (pa_cons (pv 2) (pa_cons (pv 3) (pa_cons pe_int (pa_cons pe_str (pa_cons (pe_cl0 c_marks hr (by omega) (by rfl)) pa_nil)))))) (pa_cons pe_int pa_nil))))
      (pss_one (ps_set (i := 4) sc_drawn.nd rfl (by first | exact .inl rfl | exact .inr rfl) (pe_op op_cat (pe_op op_cat (pe_slice sl_list (pv 4) po_none (po_some (pv 6))) (pe_lst (pa_cons (pe_tup (pa_cons pe_str (pa_cons (pe_op op_mod (pe_callTy call_int1 (by rfl) m_int (by decide +kernel) (pa_cons (pe_ix ix_list (pv 1) pe_int (fun _ _ => rfl)) pa_nil)) pe_int) (pa_cons (pv 10) pa_nil)))) pa_nil))) (pe_slice sl_list (pv 4) (po_some (pv 6)) po_none))))) pss_nil)
      (pss_cut (ps_if (pt_cmpR op_eq (pe_op op_mod (pe_callTy call_int1 (by rfl) m_int (by decide +kernel) (pa_cons (pe_ix ix_list (pv 1) pe_int (fun _ _ => rfl)) pa_nil)) pe_int) pe_int (nomark _)) (pss_one (ps_set (i := 4) sc_drawn.nd rfl (by first | exact .inl rfl | exact .inr rfl) (pe_cl c_padded hr (by omega) (by rfl) (pa_cons (pv 4) (pa_cons (pe_op op_add pe_int (pe_op op_mod (pe_callTy call_int1 (by rfl) m_int (by decide +kernel) (pa_cons (pe_ix ix_list (pv 1) pe_int (fun _ _ => rfl)) pa_nil)) pe_int)) pa_nil))))) pss_nil)
      (pss_cut (ps_if (pt_cmpR op_eq (pe_op op_mod (pe_callTy call_int1 (by rfl) m_int (by decide +kernel) (pa_cons (pe_ix ix_list (pv 1) pe_int (fun _ _ => rfl)) pa_nil)) pe_int) pe_int (nomark _)) (pss_cons (ps_set (i := 11) sc_drawn.nd rfl (by first | exact .inl rfl | exact .inr rfl) (pe_cl c_cut hr (by omega) (by rfl) (pa_cons (pv 4) (pa_cons pe_int pa_nil))))
      (pss_one (ps_set (i := 4) sc_drawn.nd rfl (by first | exact .inl rfl | exact .inr rfl) (pe_cl c_chain hr (by omega) (by rfl) (pa_cons (pe_cl c_draws hr (by omega) (by rfl) (pa_cons (pe_cl c_cell hr (by omega) (by rfl) (pa_cons (pv 0) (pa_cons pe_int pa_nil))) (pa_cons pe_int pa_nil))) (pa_cons (pe_lst (pa_cons pe_int pa_nil)) (pa_cons (pe_op op_sub (pe_op op_sub pe_int (pe_op op_mod (pe_callTy call_int1 (by rfl) m_int (by decide +kernel) (pa_cons (pe_ix ix_list (pv 1) pe_int (fun _ _ => rfl)) pa_nil)) pe_int)) (pe_cl c_depth hr (by omega) (by rfl) (pa_cons (pv 11) pa_nil))) (pa_cons (pv 11) pa_nil)))))))) pss_nil)
      (pss_one (ps_ret (pv 4))))))))))))), ?_⟩
    walk_at "go"
    refine ⟨a, ns, 1, rfl, hS, ?_⟩
    walk_at "go"
    intro D ds nD hd
    have s1 := same_new (o := .lst (ds.map V.int)) nD
    have ed : (upd H D (.lst (ds.map V.int))) D = some (.lst (ds.map V.int)) := upd_same
    generalize upd H D (.lst (ds.map V.int)) = H1 at s1 ed ⊢
    walk_at "go"
    intro p np
    generalize eH_ : upd H1 p _ = H2
    have s2 : Same H1 H2 := by rw [← eH_]; exact same_new np
    have ep : H2 p = some (.lst [.int 0]) := by rw [← eH_]; exact upd_same
    clear eH_
    have s12 := s1.trans s2
    have hT2 : Tk K D p ds 60 H2 H2 := ⟨s2 _ _ ed, hd, ne_of_none ed np, Z.Same.sb (Same.refl _), 0, ep⟩
    have hsq : ∀ {J : Hp}, Tk K D p ds 60 H2 J → SqL K J t (ts.map V.int) := fun h => SqL.of (h.sb _ _ (ne_of_none (s1 _ _ hT) np) (s12 _ _ hT))
    have nP : H p = none := Same.back s1 np
    walk_at "go"
    rw [show Str.ofString "abcdef" = S PAR from by decide +kernel]
    refine ⟨D, p, 60, 2, ds, PAR, MRK, rfl, hT2, pm_all, by omega, fun L l H3 hT3 hl okl hwl hdl ll ul => ?_⟩
    have mx2 : mxw 2 ≤ 6175 := by decide
    have g3 : Pb l 20000 3 := ⟨okl, by omega, hdl, fun q hq => GnO.vs (okL_iff.mp okl q hq) (vsL_iff.mp ul q hq)⟩
    have hl3 : DaAt H3 l L := hl.mono nw_same
    clear hl okl hwl hdl ul
    walk_at "go"
    refine ⟨fun σ J => ∃ (L : Addr) (l : List Pt) (v : Option V), Tk K D p ds 60 H2 J ∧ DaAt J l L ∧ Pb l 100000 3 ∧ σ = [some (.ref a), some (.ref t), some (.ref D), some (.ref p), some (.ref L), v, none, none, none, none, none, none], ?_, ?_⟩
    · walk_at "go"
      refine rd_at (hsq hT3) (by decide) (by rw [ht.1]; decide) ?_
      walk_at "go"
      refine ite2 (fun _ => ?_) (fun _ => ?_)
      · walk_at "go"
        refine rd_at (hsq hT3) (by decide) (by rw [ht.1]; decide) ?_
        generalize ts.getD (1 : Int).toNat 0 = r2
        obtain ⟨c, ec, hc⟩ := modN r2 (show 0 < 13 by decide)
        walk_at "go"
        intro M nM
        refine lc_nw (G := fun i X y => ∃ b x, y = .ref b ∧ DtAt X x b ∧ Ok x ∧ wt x ≤ mxw 2 ∧ dp x ≤ 3 ∧ Vs PAR x) (n := c) (fun i X Y y s h => ?_) hT3.slf nM (by omega) (fun k J' hk => ?_) (fun J' => ?_) (fun k J1 x J2 hk h => ?_) (fun x => rfl) (fun k x J1 Q1 hk h hT4 q1 => ?_) (fun J1 ys hT4 eM ly hG => ?_)
        · obtain ⟨b, x, h1, h2, h3⟩ := h
          exact ⟨b, x, h1, h2.mono s, h3⟩
        · show k < (r2 % 13).toNat
          omega
        · show (r2 % 13).toNat ≤ c
          omega
        · exact h.1
        · walk_at "go"
          refine ⟨D, p, 60, 2, ds, PAR, MRK, rfl, hT4.slf, pm_all, by omega, fun y x H' hT5 hx okx hwx hdx ux => q1 _ _ hT5 ⟨y, x, rfl, hx, okx, hwx, hdx, ux⟩⟩
        · obtain ⟨l', bs, rfl, h1, h2, h3, h4, h5, h6⟩ := drawn_l ys hG
          rw [ly] at h3 h5
          have h3' := Nat.mul_le_mul_right (mxw 2) (Nat.le_of_lt_succ hc)
          obtain ⟨as, hL, hD⟩ := hl3.monoD (hT4.smD hT3.pl)
          have hD2 := h1.mono nwD_same _ _
          have la := DtsAt.len _ _ hD
          have lb := DtsAt.len _ _ hD2
          walk_at "go"
          refine ⟨L, M, _, _, rfl, rfl, hL, eM, szl3 (by rw [List.length_map, List.length_map]; omega), fun R nR => ?_⟩
          have s5 := same_new (o := .lst (as.map V.ref ++ bs.map V.ref)) nR
          have eR : (upd J1 R (.lst (as.map V.ref ++ bs.map V.ref))) R = some (.lst ((as ++ bs).map V.ref)) := by rw [upd_same, List.map_append]
          generalize upd J1 R (.lst (as.map V.ref ++ bs.map V.ref)) = H6 at s5 eR ⊢
          walk_at "go"
          exact ⟨R, l ++ l', _, (hT3.tr hT4).more s5, ⟨as ++ bs, eR, dtsAt_app _ _ _ _ (hD.mono s5 _ _) (hD2.mono s5 _ _)⟩, ⟨okL_iff.mpr fun q hq => (List.mem_append.mp hq).elim (okL_iff.mp g3.ok q) (okL_iff.mp h2 q), by have := g3.wt; rw [wtL_app]; omega, by have := g3.dp; rw [dpL_app]; omega, fun q hq => (List.mem_append.mp hq).elim (g3.go q) (fun z => GnO.vs (okL_iff.mp h2 q z) (vsL_iff.mp h6 q z))⟩, rfl⟩
      · exact ⟨L, l, none, hT3, hl3, g3.wk (by decide) (Nat.le_refl _), rfl⟩
    clear hT3 hl3 g3 ll
    rintro σ J ⟨L, l, v, hT3, hl3, g3, rfl⟩
    walk_at "go"
    refine ⟨L, l, 90, rfl, hl3, g3.ok, Nat.le_trans g3.wt (by decide), by have := g3.dp; omega, fun L2 l2 bs H4 s4 n4 e4 hb ok2 w2 d2 len2 mem2 => ?_⟩
    have g4 : Pb l2 90 3 := ⟨ok2, w2, Nat.le_trans d2 g3.dp, fun q hq => g3.go q (mem2 q hq)⟩
    have hT4 := hT3.more s4
    have hb4 := hb.mono s4 _ _
    have lb4 := DtsAt.len _ _ hb4
    have l100 : bs.length ≤ 90 := by
      have := len_wt l2
      have := g4.wt
      omega
    clear hT3 hl3 g3 s4 hb w2 d2 mem2
    walk_at "go"
    refine rd_at (hsq hT4) (by decide) (by rw [ht.1]; decide) ?_
    generalize ts.getD (1 : Int).toNat 0 = r2
    walk_at "go"
    refine ⟨L2, _, rfl, .inl (SqL.of e4), ?_⟩
    rw [List.length_map]
    walk_at "go"
    obtain ⟨c, ec, hc⟩ := modN r2 (show 0 < bs.length + 1 by omega)
    rw [show (fun i j : Int => V.int (i % j)) r2 ((bs.length : Int) + 1) = V.int (c : Int) from congrArg V.int ec]
    have hc := Nat.le_of_lt_succ hc
    walk_at "go"
    refine ⟨fun σ J => ∃ (L : Addr) (l : List Pt) (bs : List Addr) (v u7 u8 u9 : Option V), Tk K D p ds 60 H2 J ∧ J L = some (.lst (bs.map V.ref)) ∧ DtsAt J l bs ∧ c ≤ bs.length ∧ bs.length ≤ 91 ∧ Pb l 91 3 ∧ σ = [some (.ref a), some (.ref t), some (.ref D), some (.ref p), some (.ref L), v, some (.int (c : Int)), u7, u8, u9, none, none], ?_, ?_⟩
    · walk_at "go"
      refine rd_at (hsq hT4) (by decide) (by rw [ht.1]; decide) ?_
      walk_at "go"
      refine ite2 (fun _ => ?_) (fun _ => ?_)
      · walk_at "go"
        refine rd_at (hsq hT4) (by decide) (by rw [ht.1]; decide) ?_
        generalize ts.getD (2 : Int).toNat 0 = r3
        obtain ⟨jp, ejp, hjp⟩ := modN r3 (show 0 < 6 by decide)
        have ejp : r3 % 6 = (jp : Int) := ejp
        walk_at "go"
        rw [show (fun i j : Int => V.int (i % j)) r3 6 = V.int (jp : Int) from congrArg V.int ejp]
        walk_at "go"
        refine rd_at (hsq hT4) (by decide) (by rw [ht.1]; decide) ?_
        generalize ts.getD (2 : Int).toNat 0 = r4
        obtain ⟨jq, ejq, hjq⟩ := modN (r3 % 6 + 1 + r4 / 6 % 5) (show 0 < 6 by decide)
        have ejq : (r3 % 6 + 1 + r4 / 6 % 5) % 6 = (jq : Int) := ejq
        have npq : jp ≠ jq := by omega
        have hjp' : jp < PAR.length := hjp
        have hjq' : jq < PAR.length := hjq
        have nd : PAR[jp] ≠ PAR[jq] := fun e => npq ((List.getElem_inj (by decide : PAR.Nodup)).mp e)
        have sJ4 : Same H H4 := SB.same ((Z.Same.sb s12).trans hT4.sb) nP
        walk_at "go"
        refine ⟨_, _, PAR[jp], rfl, rfl, by decide, at_S hjp', ?_⟩
        walk_at "go"
        refine ⟨_, _, PAR[jq], rfl, rfl, by decide, by rw [ejq]; exact at_S hjq', ?_⟩
        walk_at "go"
        refine ⟨a, ns, 4, rfl, sJ4.seq hS, ?_⟩
        walk_at "go"
        refine fun m H6 s6 hm => ?_
        walk_at "go"
        intro T nT
        generalize eH_ : upd H6 T _ = H7
        have s7 : Same H6 H7 := by rw [← eH_]; exact same_new nT
        have eT : H7 T = some (.tup [.str "transfer", .str (S [PAR[jp]]), .str (S [PAR[jq]]), .int (m : Int)]) := by rw [← eH_]; exact upd_same
        clear eH_
        dsimp only [List.set]
        walk_at "go"
        have e7 := (s6.trans s7) _ _ e4
        refine ⟨L2, _, rfl, SqL.of e7, ?_⟩
        rw [cutV_lo V.ref hc]
        intro R1 nR1
        generalize eH_ : upd H7 R1 _ = H8
        have s8 : Same H7 H8 := by rw [← eH_]; exact same_new nR1
        have eR1 : H8 R1 = some (.lst ((bs.take c).map V.ref)) := by rw [← eH_]; exact upd_same
        clear eH_
        walk_at "go"
        intro R2 nR2
        generalize eH_ : upd H8 R2 _ = H9
        have s9 : Same H8 H9 := by rw [← eH_]; exact same_new nR2
        have eR2 : H9 R2 = some (.lst [.ref T]) := by rw [← eH_]; exact upd_same
        clear eH_
        walk_at "go"
        refine ⟨R1, R2, _, _, rfl, rfl, s9 _ _ eR1, eR2, szl3 (by simp only [List.length_map, List.length_append, List.length_take, List.length_drop, List.length_cons, List.length_nil]; omega), ?_⟩
        intro R3 nR3
        generalize eH_ : upd H9 R3 _ = HA
        have sA : Same H9 HA := by rw [← eH_]; exact same_new nR3
        have eR3 : HA R3 = some (.lst ((bs.take c).map V.ref ++ [V.ref T])) := by rw [← eH_]; exact upd_same
        clear eH_
        walk_at "go"
        refine ⟨L2, _, rfl, SqL.of (((s8.trans s9).trans sA) _ _ e7), ?_⟩
        rw [cutV_hi V.ref hc]
        intro R4 nR4
        generalize eH_ : upd HA R4 _ = HB
        have sB : Same HA HB := by rw [← eH_]; exact same_new nR4
        have eR4 : HB R4 = some (.lst ((bs.drop c).map V.ref)) := by rw [← eH_]; exact upd_same
        clear eH_
        walk_at "go"
        refine ⟨R3, R4, _, _, rfl, rfl, (sB _ _ eR3), eR4, szl3 (by simp only [List.length_map, List.length_append, List.length_take, List.length_drop, List.length_cons, List.length_nil]; omega), ?_⟩
        intro R5 nR5
        generalize eH_ : upd HB R5 _ = HC
        have sC : Same HB HC := by rw [← eH_]; exact same_new nR5
        have eR5 : HC R5 = some (.lst (((bs.take c).map V.ref ++ [V.ref T]) ++ (bs.drop c).map V.ref)) := by rw [← eH_]; exact upd_same
        clear eH_
        walk_at "go"
        have s7C := ((((s8.trans s9).trans sA).trans sB).trans sC)
        have s4C := (s6.trans s7).trans s7C
        obtain ⟨hb1, hb2⟩ := DtsAt.cut c _ _ (hb4.mono s4C _ _)
        have hT' : DtAt HC (.tr PAR[jp] PAR[jq] m) T := by
          rw [DtAt]
          exact s7C _ _ eT
        refine ⟨R5, l2.take c ++ [.tr PAR[jp] PAR[jq] m] ++ l2.drop c, bs.take c ++ [T] ++ bs.drop c, _, _, _, _, hT4.more s4C, by rw [eR5, List.map_append, List.map_append]; rfl, dtsAt_app _ _ _ _ (dtsAt_app _ _ _ _ hb1 (dtsAt_one hT')) hb2, by simp only [List.length_append, List.length_take, List.length_drop, List.length_cons, List.length_nil]; omega, by simp only [List.length_append, List.length_take, List.length_drop, List.length_cons, List.length_nil]; omega, ?_, rfl⟩
        exact g4.mid c (.tr PAR[jp] PAR[jq] m) (by rw [Ok]; exact ⟨List.getElem_mem hjp', List.getElem_mem hjq', nd, hm⟩) (w := 1) (by rw [wt]; omega) (by rw [dp]; omega) GnO.tr
      · exact ⟨L2, l2, bs, _, none, none, none, hT4, e4, hb4, hc, by omega, g4.wk (by decide) (Nat.le_refl _), rfl⟩
    clear hT4 g4 hb4 e4 lb4 l100 ec hc
    rintro σ J ⟨L2, l2, bs, v, u7, u8, u9, hT4, e4, hb4, hc, l91, g4, rfl⟩
    walk_at "go"
    refine ⟨fun σ J => ∃ (L : Addr) (l : List Pt) (v u7 u8 u9 u10 : Option V), Same H J ∧ DaAt J l L ∧ Pb l 292 3 ∧ σ = [some (.ref a), some (.ref t), some (.ref D), some (.ref p), some (.ref L), v, some (.int (c : Int)), u7, u8, u9, u10, none], ?_, ?_⟩
    · walk_at "go"
      refine rd_at (hsq hT4) (by decide) (by rw [ht.1]; decide) ?_
      walk_at "go"
      refine ite2 (fun _ => ?_) (fun _ => ?_)
      · walk_at "go"
        refine ⟨D, p, 60, 1, ds, PAR, MRK, rfl, hT4.slf, pm_all, by omega, fun M m H5 hT5 hm okm hwm hdm lm um => ?_⟩
        have hm := hm.mono nw_same
        have mx1 : mxw 1 = 19 := by decide
        walk_at "go"
        refine ⟨M, m, 2, rfl, hm, okm, by omega, by omega, fun M2 m2 bs2 H6 s6 n6 e6 hb6 ok6 w6 d6 len6 mem6 => ?_⟩
        have hT6 := (hT4.tr hT5).more s6
        have sD := (hT5.smD hT4.pl).trans (smD_of s6)
        have e46 := sD.l e4
        have hb46 := hb4.monoD sD
        have hm6 := hb6.mono s6 _ _
        dsimp only [List.set]
        walk_at "go"
        refine ⟨L2, _, rfl, SqL.of e46, ?_⟩
        rw [cutV_lo V.ref hc]
        intro R1 nR1
        generalize eH_ : upd H6 R1 _ = H7
        have s7 : Same H6 H7 := by rw [← eH_]; exact same_new nR1
        have eR1 : H7 R1 = some (.lst ((bs.take c).map V.ref)) := by rw [← eH_]; exact upd_same
        clear eH_
        walk_at "go"
        refine rd_at (hsq (hT6.more s7)) (by decide) (by rw [ht.1]; decide) ?_
        generalize ts.getD (2 : Int).toNat 0 = r3
        obtain ⟨z, ez, hz⟩ := modN r3 (show 0 < 101 by decide)
        walk_at "go"
        rw [show (fun i j : Int => V.int (i % j)) r3 101 = V.int (z : Int) from congrArg V.int ez]
        intro T nT
        generalize eH_ : upd H7 T _ = H8
        have s8 : Same H7 H8 := by rw [← eH_]; exact same_new nT
        have eT : H8 T = some (.tup [.str "times", .int (z : Int), .ref M2]) := by rw [← eH_]; exact upd_same
        clear eH_
        walk_at "go"
        intro R2 nR2
        generalize eH_ : upd H8 R2 _ = H9
        have s9 : Same H8 H9 := by rw [← eH_]; exact same_new nR2
        have eR2 : H9 R2 = some (.lst [.ref T]) := by rw [← eH_]; exact upd_same
        clear eH_
        walk_at "go"
        refine ⟨R1, R2, _, _, rfl, rfl, ((s8.trans s9) _ _ eR1), eR2, szl3 (by simp only [List.length_map, List.length_append, List.length_take, List.length_drop, List.length_cons, List.length_nil]; omega), ?_⟩
        intro R3 nR3
        generalize eH_ : upd H9 R3 _ = HA
        have sA : Same H9 HA := by rw [← eH_]; exact same_new nR3
        have eR3 : HA R3 = some (.lst ((bs.take c).map V.ref ++ [V.ref T])) := by rw [← eH_]; exact upd_same
        clear eH_
        walk_at "go"
        refine ⟨L2, _, rfl, SqL.of ((((s7.trans s8).trans s9).trans sA) _ _ e46), ?_⟩
        rw [cutV_hi V.ref hc]
        intro R4 nR4
        generalize eH_ : upd HA R4 _ = HB
        have sB : Same HA HB := by rw [← eH_]; exact same_new nR4
        have eR4 : HB R4 = some (.lst ((bs.drop c).map V.ref)) := by rw [← eH_]; exact upd_same
        clear eH_
        walk_at "go"
        refine ⟨R3, R4, _, _, rfl, rfl, (sB _ _ eR3), eR4, szl3 (by simp only [List.length_map, List.length_append, List.length_take, List.length_drop, List.length_cons, List.length_nil]; omega), ?_⟩
        intro R5 nR5
        generalize eH_ : upd HB R5 _ = HC
        have sC : Same HB HC := by rw [← eH_]; exact same_new nR5
        have eR5 : HC R5 = some (.lst (((bs.take c).map V.ref ++ [V.ref T]) ++ (bs.drop c).map V.ref)) := by rw [← eH_]; exact upd_same
        clear eH_
        walk_at "go"
        have s6C := ((((s7.trans s8).trans s9).trans sA).trans sB).trans sC
        have hbC := hb46.mono s6C _ _
        obtain ⟨hb1, hb2⟩ := DtsAt.cut c _ _ hbC
        have hz2 : wtL m2 * (if z < 1 then 1 else z) ≤ 2 * 100 := Nat.mul_le_mul w6 (by split <;> omega)
        have hT' : DtAt HC (.ti z m2) T := by
          rw [DtAt]
          exact ⟨M2, bs2, ((s9.trans sA).trans (sB.trans sC)) _ _ eT, s6C _ _ e6, hm6.mono s6C _ _⟩
        refine ⟨R5, l2.take c ++ [.ti z m2] ++ l2.drop c, _, _, _, _, _, (SB.same ((Z.Same.sb s12).trans hT6.sb) nP).trans s6C, ⟨bs.take c ++ [T] ++ bs.drop c, by rw [eR5, List.map_append, List.map_append]; rfl, dtsAt_app _ _ _ _ (dtsAt_app _ _ _ _ hb1 (dtsAt_one hT')) hb2⟩, ?_, rfl⟩
        exact g4.mid c (.ti z m2) (by rw [Ok]; exact ⟨by omega, ok6⟩) (w := 201) (by rw [wt]; omega) (by rw [dp]; omega) (GnO.ti (ps := PAR) ok6 (by omega) (vsL_iff.mpr fun q hq => vsL_iff.mp um q (mem6 q hq)))
      · exact ⟨L2, l2, _, _, _, _, none, (SB.same ((Z.Same.sb s12).trans hT4.sb) nP), ⟨bs, e4, hb4⟩, g4.wk (by decide) (Nat.le_refl _), rfl⟩
    clear hT4 g4 hb4 e4 l91 hc
    rintro σ J ⟨L2, l2, v, u7, u8, u9, u10, sJ, hl, g4, rfl⟩
    walk_at "go"
    refine ⟨fun σ J => ∃ (L : Addr) (l : List Pt) (v u7 u8 u9 u10 : Option V), Same H J ∧ DaAt J l L ∧ Pb l 400 3 ∧ σ = [some (.ref a), some (.ref t), some (.ref D), some (.ref p), some (.ref L), v, some (.int (c : Int)), u7, u8, u9, u10, none], ?_, ?_⟩
    · walk_at "go"
      refine rd_at (SqL.of (sJ _ _ hT)) (by decide) (by rw [ht.1]; decide) ?_
      walk_at "go"
      refine ite2 (fun _ => ?_) (fun _ => ?_)
      · walk_at "go"
        refine rd_at (SqL.of (sJ _ _ hT)) (by decide) (by rw [ht.1]; decide) ?_
        generalize ts.getD (2 : Int).toNat 0 = r3
        obtain ⟨z, ez, hz⟩ := modN r3 (show 0 < 101 by decide)
        walk_at "go"
        have g4w := g4.wt
        have g4d := g4.dp
        refine ⟨L2, l2, 300 + z, ?_, hl, g4.ok, by omega, by omega, by omega, fun R l' H5 s5 h5 ok5 w5 d5 e5 => ?_⟩
        · show [V.ref L2, V.int (300 + r3 % 101)] = _
          rw [show (300 + r3 % 101 : Int) = ((300 + z : Nat) : Int) by have ez : r3 % 101 = (z : Int) := ez; omega]
        walk_at "go"
        exact ⟨R, l', _, _, _, _, _, sJ.trans s5, h5, ⟨ok5, by omega, by omega, fun q hq => (e5 q hq).elim (g4.go q) fun ⟨c, e⟩ => e ▸ GnO.ev⟩, rfl⟩
      · exact ⟨L2, l2, _, _, _, _, _, sJ, hl, g4.wk (by decide) (Nat.le_refl _), rfl⟩
    clear sJ hl g4
    rintro σ J ⟨L2, l2, v, u7, u8, u9, u10, sJ, hl, g4, rfl⟩
    walk_at "go"
    refine ⟨fun σ J => ∃ (L : Addr) (l : List Pt) (v u7 u8 u9 u10 u11 : Option V), Same H J ∧ DaAt J l L ∧ Pb l 400 30 ∧ σ = [some (.ref a), some (.ref t), some (.ref D), some (.ref p), some (.ref L), v, some (.int (c : Int)), u7, u8, u9, u10, u11], ?_, ?_⟩
    · walk_at "go"
      refine rd_at (SqL.of (sJ _ _ hT)) (by decide) (by rw [ht.1]; decide) ?_
      walk_at "go"
      refine ite2 (fun _ => ?_) (fun _ => ?_)
      · walk_at "go"
        have g4w := g4.wt
        have g4d := g4.dp
        refine ⟨L2, l2, 60, rfl, hl, g4.ok, by omega, by omega, fun M2 m2 bs2 H6 s6 n6 e6 hb6 ok6 w6 d6 len6 mem6 => ?_⟩
        dsimp only [List.set]
        walk_at "go"
        refine ⟨a, ns, 3, rfl, (sJ.trans s6).seq hS, ?_⟩
        walk_at "go"
        intro D2 ds2 nD2 hd2
        have s7 := same_new (o := .lst (ds2.map V.int)) nD2
        have ed2 : (upd H6 D2 (.lst (ds2.map V.int))) D2 = some (.lst (ds2.map V.int)) := upd_same
        generalize upd H6 D2 (.lst (ds2.map V.int)) = H7 at s7 ed2 ⊢
        walk_at "go"
        intro p2 np2
        generalize eH_ : upd H7 p2 _ = H8
        have s8 : Same H7 H8 := by rw [← eH_]; exact same_new np2
        have ep2 : H8 p2 = some (.lst [.int 0]) := by rw [← eH_]; exact upd_same
        clear eH_
        have s68 := s7.trans s8
        have hm8 : DaAt H8 m2 M2 := ⟨bs2, s68 _ _ e6, hb6.mono (s6.trans s68) _ _⟩
        walk_at "go"
        refine rd_at (SqL.of ((sJ.trans (s6.trans s68)) _ _ hT)) (by decide) (by rw [ht.1]; decide) ?_
        generalize ts.getD (2 : Int).toNat 0 = r3
        obtain ⟨z, ez, hz⟩ := modN r3 (show 0 < 3 by decide)
        have ez : r3 % 3 = (z : Int) := ez
        walk_at "go"
        refine ⟨M2, m2, rfl, hm8, ok6, by omega, by omega, fun H9 s9 => ?_⟩
        walk_at "go"
        refine ⟨D2, p2, M2, 32, 30 - z - dpL m2, ds2, m2, ?_, ⟨(s8.trans s9) _ _ ed2, hd2, ne_of_none ed2 np2, Z.Same.sb (Same.refl _), 0, s9 _ _ ep2⟩, hm8.mono s9, ok6, by omega, fun q hq => g4.go q (mem6 q hq), fun R l' HA hTA hA okA wA dA gA => ?_⟩
        · show [V.ref D2, V.ref p2, V.int (30 - r3 % 3 - (dpL m2 : Int)), V.ref M2] = _
          rw [show (30 - r3 % 3 - (dpL m2 : Int)) = ((30 - z - dpL m2 : Nat) : Int) by omega]
        walk_at "go"
        have s8A : Same H7 HA := SB.same ((Z.Same.sb (s8.trans s9)).trans hTA.sb) np2
        exact ⟨R, l', _, _, _, _, _, _, (sJ.trans (s6.trans s7)).trans s8A, hA, ⟨okA, by omega, by omega, gA⟩, rfl⟩
      · exact ⟨L2, l2, _, _, _, _, _, none, sJ, hl, g4.wk (Nat.le_refl _) (by decide), rfl⟩
    clear sJ hl g4
    rintro σ J ⟨L2, l2, v, u7, u8, u9, u10, u11, sJ, hl, g4, rfl⟩
    walk_at "go"
    exact q L2 l2 J sJ hl g4
end
end Z
set_option Elab.async false
set_option linter.all false
set_option maxRecDepth 100000
set_option maxHeartbeats 4000000
namespace Z
open PySem PySem.Spec PyProof.Rows L2
/-! ### e[i] by the class's own __getitem__ -/
structure GetI (P : Program) (w : World) (K : PySem.W.Frag) (mg : Str → Option Value) (base : Heap) (k : Nat) (C : Addr) (sp : Sp) : Prop where
  ex : ∃ (f : Addr) (fd : FuncData) (ps : List Str), FnOk P w K mg base CX0 k f fd ps sp ∧ PySem.W.findIn K (.ref C) "__getitem__" = some (some (.ref f)) ∧ PySem.W.isFn K (.ref f) = true ∧ PySem.W.fnIn K f = true ∧ Binds K fd ps []
def rGetI (C : Addr) (sp : Sp) : R2 := fun x y H Q => ∃ a dx fs, x = .ref a ∧ H a = some (.ins C dx fs) ∧ sp [.ref a, y] H Q E0
theorem pe_getI {X : Cx} {e b : Expr} {te tb : TE} {pos : Pos} {k j : Nat} {C : Addr} {sp : Sp} (c : GetI X.prog X.w X.K X.mg X.base k C sp) (hr : Room j X.A) (hk : k + 1 ≤ j) (he : PE X e te) (hb0 : PE X b tb)
    (hsl : ∀ x i, subscripted b true (.ref x) i = runValue (.builtin "lifetime.subscript" ⟨[.ref x, i], []⟩) := by intro _ _; rfl) : PE X (.Subscript e b pos) (tOp (rGetI C sp) te tb) := by
  refine ⟨fun pins s σ H Q I h => ?_⟩
  refine Subscript_ (binT he hb0 I h fun v u s2 x y H2 I2 rx ry q => ?_)
  obtain ⟨a, dx, fs, rfl, ha, q⟩ := q
  cases rx
  obtain ⟨f, fd, ps, F, hs, hf, hfn, hb⟩ := c.ex
  obtain ⟨mA, J, _⟩ := ins_get I2.hok ha
  obtain ⟨od, J, _⟩ := J.look
  obtain ⟨m, hF⟩ := I2.fr
  refine PySem.W.sub_K hF I2.ok.mod.kin J hs hfn hf ?_ (hsl _ _)
  have r2 : Vals [V.ref a, y] [Value.ref a, u] := .cons rfl (.cons ry .nil)
  have b3 := hb s2 [Value.ref a, u] I2.kIn (by rw [List.append_nil, ← r2.length]; exact F.len _ _ _ _ q)
  rw [List.append_nil] at b3
  have run := F.run X.A.in1 X.stack _ _ _ _ _ _ _ (hr.mono hk).in1 I2.env0.in1 b3 r2 q
  refine wpAny_call (codeAny_mono run fun r s' hq => ?_)
  have z := back_at (fun pins H s e s' I hq => pass0 pins σ H s e s' I hq) I2 r s' hq
  match r, z with
  | .error e, z => exact z
  | .ok (.ret u), z => exact z
end Z
set_option pp.maxSteps 700
set_option Elab.async false
set_option linter.all false
set_option maxRecDepth 100000
set_option maxHeartbeats 4000000
open SX (S S_inj S_len S_cat)
namespace Z
open Pk NdefX
open PySem PySem.Spec PyProof.Rows L2
open C8 (pss_cut tCut)
local macro_rules | `(tactic| walk_at "num") => `(tactic| first | rfl | omega | decide | exact Nat.le_of_lt (small1000 (by simp)) | exact ⟨by omega, by omega⟩ | exact ⟨by omega, by omega, by omega⟩ | exact ⟨by decide, by decide, by decide⟩ | exact Or.inl ⟨by omega, by omega⟩ | exact Or.inr ⟨by omega, by omega⟩)
local macro_rules | `(tactic| walk_at "go") => `(tactic| repeat (first | refine ⟨_, rfl, ?_⟩ | refine ⟨_, _, rfl, rfl, ?_⟩ | refine ⟨_, _, rfl, ?_⟩ | (refine ⟨_, _, rfl, rfl, ?_, ?_⟩; focus walk_at "num") | refine Or.inl ⟨_, rfl, ?_⟩ | refine ⟨_, _, _, _, rfl, rfl, (by assumption), (by rfl), ?_⟩ | refine ⟨_, _, _, _, _, rfl, (by assumption), (by assumption), (by assumption), (by rfl), ?_⟩ | refine ⟨rfl, ?_⟩ | (refine And.intro ?_ ?_; focus walk_at "num")))
abbrev s_Pact___eq__ : Stmt := inClass (topS 30) 3
abbrev N_Pact___eq__ : List Str := ["self", "other"]
abbrev P_Pact___eq__ : List Str := ["self", "other"]
theorem sc_Pact___eq__ : FnScope N_Pact___eq__ P_Pact___eq__ (defScope s_Pact___eq__) := ⟨rfl, rfl, rfl, by decide +kernel, rfl, by decide +kernel, by decide +kernel⟩
abbrev s_Pact___len__ : Stmt := inClass (topS 30) 4
abbrev N_Pact___len__ : List Str := ["self"]
abbrev P_Pact___len__ : List Str := ["self"]
theorem sc_Pact___len__ : FnScope N_Pact___len__ P_Pact___len__ (defScope s_Pact___len__) := ⟨rfl, rfl, rfl, by decide +kernel, rfl, by decide +kernel, by decide +kernel⟩
abbrev s_Pact___getitem__ : Stmt := inClass (topS 30) 6
abbrev N_Pact___getitem__ : List Str := ["self", "at"]
abbrev P_Pact___getitem__ : List Str := ["self", "at"]
theorem sc_Pact___getitem__ : FnScope N_Pact___getitem__ P_Pact___getitem__ (defScope s_Pact___getitem__) := ⟨rfl, rfl, rfl, by decide +kernel, rfl, by decide +kernel, by decide +kernel⟩
section
variable {P : Program} {w : World} {K : PySem.W.Frag} {mg : Str → Option Value} {base : Heap} {f C CP : Addr} {k : Cs} {fd : FuncData}
/-- len(p) -/
def spLn (k : Cs) (K : PySem.W.Frag) : Sp := fun vs H Q _ => ∃ (x : Addr) (l : List Pt), vs = [.ref x] ∧ PaAt k K H l x ∧ l.length ≤ 1000000 ∧ Q (.int (l.length : Int)) H
theorem ok_plen (F : FnM K "__len__" "Pact.__len__" s_Pact___len__ f fd) (pa : PaK K k.P) (m_len : mg "len" = none) : FnOk P w K mg base CX0 1 f fd P_Pact___len__ (spLn k K) := by
  refine F.ok sc_Pact___len__ (fun vs H Q E h => ?_) (fun cdv A outer s H vs Q E hr h => ?_)
  · obtain ⟨x, l, rfl, _⟩ := h
    rfl
  · obtain ⟨x, l, rfl, ⟨dx, t, as, hx, hT, hP⟩, hl, q⟩ := h
    refine ⟨_, PSs.nox (pss_one (ps_ret (pe_callB call_len_seq (by rfl) m_len PySem.boot_len (pa_cons (pe_fld (pv 0) rfl) pa_nil)))), ?_⟩
    walk_at "go"
    refine ⟨x, k.P, dx, _, _, rfl, hx, pa.fl.cls, pa.np, rfl, ?_⟩
    walk_at "go"
    refine ⟨t, _, rfl, .inr hT, ?_⟩
    rw [List.length_map, PtsAt.len _ _ hP]
    exact q
/-- p[i] -/
def spGi (k : Cs) (K : PySem.W.Frag) : Sp := fun vs H Q _ => ∃ (x y : Addr) (l : List Pt) (i : Int) (p : Pt), vs = [.ref x, .int i] ∧ PaAt k K H l x ∧ atI l i = some p ∧ ∀ y, PtAt k K H p y → Q (.ref y) H
theorem atI_as {l : List Pt} {as : List Addr} {H : Hp} {i : Int} {p : Pt} (hP : PtsAt k K H l as) (e : atI l i = some p) : ∃ y, atI (as.map V.ref) i = some (.ref y) ∧ PtAt k K H p y := by
  have ll := PtsAt.len _ _ hP
  unfold atI at e ⊢
  rw [List.length_map, ll]
  cases z : ixN l.length i with
  | none => rw [z] at e; cases e
  | some j =>
    rw [z] at e
    have e : l[j]? = some p := e
    obtain ⟨y, e1, h1⟩ := PtsAt.get _ _ hP j p e
    exact ⟨y, by show (as.map V.ref)[j]? = _; rw [List.getElem?_map, e1]; rfl, h1⟩
theorem ok_getitem (F : FnM K "__getitem__" "Pact.__getitem__" s_Pact___getitem__ f fd) (pa : PaK K k.P) : FnOk P w K mg base CX0 1 f fd P_Pact___getitem__ (spGi k K) := by
  refine F.ok sc_Pact___getitem__ (fun vs H Q E h => ?_) (fun cdv A outer s H vs Q E hr h => ?_)
  · obtain ⟨x, y, l, i, p, rfl, _⟩ := h
    rfl
  · obtain ⟨x, y, l, i, p, rfl, ⟨dx, t, as, hx, hT, hP⟩, he, q⟩ := h
    refine ⟨_, PSs.nox (pss_one (ps_ret (pe_ix ix_tup (pe_fld (pv 0) rfl) (pv 1) (fun _ _ => rfl)))), ?_⟩
    obtain ⟨z, ez, hz⟩ := atI_as hP he
    walk_at "go"
    refine ⟨x, k.P, dx, _, _, rfl, hx, pa.fl.cls, pa.np, rfl, ?_⟩
    walk_at "go"
    exact ⟨t, _, _, _, rfl, rfl, hT, ez, q z hz⟩
/-- p == q -/
def spEq (k : Cs) (K : PySem.W.Frag) : Sp := fun vs H Q _ => ∃ (x y : Addr) (l m : List Pt), vs = [.ref x, .ref y] ∧ PaAt k K H l x ∧ PaAt k K H m y ∧ Q (.bl (decide (txB l = txB m))) H
theorem ok_peq (F : FnM K "__eq__" "Pact.__eq__" s_Pact___eq__ f fd) (pa : PaK K k.P) (m_isinstance : mg "isinstance" = none) (g_Pact : mg "Pact" = some (.ref k.P)) : FnOk P w K mg base CX0 1 f fd P_Pact___eq__ (spEq k K) := by
  refine F.ok sc_Pact___eq__ (fun vs H Q E h => ?_) (fun cdv A outer s H vs Q E hr h => ?_)
  · obtain ⟨x, y, l, m, rfl, _⟩ := h
    rfl
  · obtain ⟨x, y, l, m, rfl, ⟨dx, t, as, hx, hT, hP⟩, ⟨dy, u, bs, hy, hU, hM⟩, q⟩ := h
    have isP := pa.is
    refine ⟨_, PSs.nox (pss_one (ps_ret (pe_and (pe_callB (C8.call_isC isP) (by rfl) m_isinstance (by decide +kernel) (pa_cons (pv 1) (pa_cons (pe_glob (by rfl) g_Pact relv_ref) pa_nil))) (pe_one (pe_cmpR op_eq (pe_fld (pv 0) rfl) (pe_fld (pv 1) rfl) (nomark _)))))), ?_⟩
    walk_at "go"
    refine ⟨y, dy, _, rfl, hy, ?_⟩
    walk_at "go"
    refine ⟨x, k.P, dx, _, _, rfl, hx, pa.fl.cls, pa.fl.nt, rfl, ?_⟩
    walk_at "go"
    refine ⟨y, k.P, dy, _, _, rfl, hy, pa.fl.cls, pa.fl.nt, rfl, ?_⟩
    walk_at "go"
    have e : decide (V.str (S (txB l)) = V.str (S (txB m))) = decide (txB l = txB m) := decide_eq_decide.mpr ⟨fun z => by injection z with z; exact S_inj z, fun z => by rw [z]⟩
    rw [← e] at q
    exact q
end
end Z
set_option pp.maxSteps 700
set_option Elab.async false
set_option linter.all false
set_option maxRecDepth 100000
set_option maxHeartbeats 4000000
open SX (S S_inj S_len S_cat)
namespace Z
open Pk NdefX
open PySem PySem.Spec PyProof.Rows L2
open C8 (pss_cut tCut)
local macro_rules | `(tactic| walk_at "num") => `(tactic| first | rfl | omega | decide | exact Nat.le_of_lt (small1000 (by simp)) | exact ⟨by omega, by omega⟩ | exact ⟨by omega, by omega, by omega⟩ | exact ⟨by decide, by decide, by decide⟩ | exact Or.inl ⟨by omega, by omega⟩ | exact Or.inr ⟨by omega, by omega⟩)
local macro_rules | `(tactic| walk_at "go") => `(tactic| repeat (first | refine ⟨_, rfl, ?_⟩ | refine ⟨_, _, rfl, rfl, ?_⟩ | refine ⟨_, _, rfl, ?_⟩ | (refine ⟨_, _, rfl, rfl, ?_, ?_⟩; focus walk_at "num") | refine Or.inl ⟨_, rfl, ?_⟩ | refine ⟨_, _, _, _, rfl, rfl, (by assumption), (by rfl), ?_⟩ | refine ⟨_, _, _, _, _, rfl, (by assumption), (by assumption), (by assumption), (by rfl), ?_⟩ | refine ⟨rfl, ?_⟩ | (refine And.intro ?_ ?_; focus walk_at "num")))
abbrev s_sized : Stmt := topS 64
abbrev N_sized : List Str := ["_law_actual", "_law_weight_here", "_law_depth_here", "_law_text_here"]
abbrev P_sized : List Str := ["_law_actual", "_law_weight_here", "_law_depth_here", "_law_text_here"]
theorem sc_sized : FnScope N_sized P_sized (defScope s_sized) := ⟨rfl, rfl, rfl, by decide +kernel, rfl, by decide +kernel, by decide +kernel⟩
abbrev s_same : Stmt := topS 65
abbrev N_same : List Str := ["_law_actual", "_law_pact_here", "_law_k"]
abbrev P_same : List Str := ["_law_actual", "_law_pact_here"]
theorem sc_same : FnScope N_same P_same (defScope s_same) := ⟨rfl, rfl, rfl, by decide +kernel, rfl, by decide +kernel, by decide +kernel⟩
abbrev s_same_part : Stmt := topS 66
abbrev N_same_part : List Str := ["_law_actual", "_law_part_here", "_law_kind", "_law_k"]
abbrev P_same_part : List Str := ["_law_actual", "_law_part_here"]
theorem sc_same_part : FnScope N_same_part P_same_part (defScope s_same_part) := ⟨rfl, rfl, rfl, by decide +kernel, rfl, by decide +kernel, by decide +kernel⟩
/-- the fields and kinds of parts and pacts -/
structure PtA (K : PySem.W.Frag) (k : Cs) : Prop where
  cT : Cls K k.T
  T1 : NoAttr K k.T "payer"
  T2 : NoAttr K k.T "payee"
  T3 : NoAttr K k.T "amount"
  cE : Cls K k.E
  E1 : NoAttr K k.E "mark"
  cC : Cls K k.C
  C1 : NoAttr K k.C "owner"
  C2 : NoAttr K k.C "options"
  cR : Cls K k.R
  R1 : NoAttr K k.R "owner"
  R2 : NoAttr K k.R "body"
  cN : Cls K k.N
  N1 : NoAttr K k.N "body"
  cM : Cls K k.M
  M1 : NoAttr K k.M "count"
  M2 : NoAttr K k.M "body"
  cP : Cls K k.P
  P1 : NoAttr K k.P "parts"
  kT : ∃ u, Con K k.T "KIND" (.str "transfer") u
  kE : ∃ u, Con K k.E "KIND" (.str "event") u
  kC : ∃ u, Con K k.C "KIND" (.str "choice") u
  kR : ∃ u, Con K k.R "KIND" (.str "rounds") u
  kN : ∃ u, Con K k.N "KIND" (.str "endless") u
  kM : ∃ u, Con K k.M "KIND" (.str "times") u
  tT : NoAttr K k.T "text"
  tE : NoAttr K k.E "text"
/-- the kind of a part -/
def kdS : Pt → Str
  | .tr _ _ _ => "transfer"
  | .ev _ => "event"
  | .ch _ _ => "choice"
  | .rd _ _ => "rounds"
  | .en _ => "endless"
  | .ti _ _ => "times"
/-- reading KIND -/
theorem rd_kind {K : PySem.W.Frag} {k : Cs} {H : Hp} {p : Pt} {a : Addr} (pa : PtA K k) (h : PtAt k K H p a) : ∃ C dx fs u, H a = some (.ins C dx fs) ∧ Cls K C ∧ Con K C "KIND" (.str (kdS p)) u ∧ fs.lookup ("KIND" : Str) = none := by
  cases p with
  | tr p q m =>
    rw [PtAt] at h
    obtain ⟨dx, h⟩ := h
    obtain ⟨u, c⟩ := pa.kT
    exact ⟨_, _, _, u, h, pa.cT, c, rfl⟩
  | ev c =>
    rw [PtAt] at h
    obtain ⟨dx, h⟩ := h
    obtain ⟨u, c⟩ := pa.kE
    exact ⟨_, _, _, u, h, pa.cE, c, rfl⟩
  | ch o os =>
    rw [PtAt] at h
    obtain ⟨dx, t, as, h, _⟩ := h
    obtain ⟨u, c⟩ := pa.kC
    exact ⟨_, _, _, u, h, pa.cC, c, rfl⟩
  | rd o b =>
    rw [PtAt] at h
    obtain ⟨dx, x, dy, t, as, h, _⟩ := h
    obtain ⟨u, c⟩ := pa.kR
    exact ⟨_, _, _, u, h, pa.cR, c, rfl⟩
  | en b =>
    rw [PtAt] at h
    obtain ⟨dx, x, dy, t, as, h, _⟩ := h
    obtain ⟨u, c⟩ := pa.kN
    exact ⟨_, _, _, u, h, pa.cN, c, rfl⟩
  | ti n b =>
    rw [PtAt] at h
    obtain ⟨dx, x, dy, t, as, h, _⟩ := h
    obtain ⟨u, c⟩ := pa.kM
    exact ⟨_, _, _, u, h, pa.cM, c, rfl⟩
theorem tyT {K : PySem.W.Frag} {H : Hp} {a : Addr} {xs : List V} (h : SqT K H a xs) : TyX K H (.ref a) (.type "tuple") := by
  rcases h with (h | ⟨o, h⟩) | ⟨o, its, n, h1, h2, _⟩
  · exact .base (.tup h)
  · exact .fTuple h
  · exact .kTuple h1 h2
theorem isiX {K : PySem.W.Frag} {H : Hp} {x : V} {T c : String} {b : Bool} {R : Bool → Prop} (t : TyX K H x (.type T)) (h : kitB T c = some b) (q : R b) : ∃ (x' c' : V) (t' u' : Value) (b' : Bool), [x, .ty c] = [x', c'] ∧ ClsV c' u' ∧ TyX K H x' t' ∧ PySem.W.kitOne K t' u' = some b' ∧ R b' :=
  ⟨x, .ty c, .type T, .type c, b, rfl, .ty c, t, kit_ty h, q⟩
theorem lc_rngB {lo : Int} {D : Addr} {n : Nat} {H0 : Hp} {i : Nat} {te : TE} {vs : List Nat} {σ : L2.St} {Qd : Hp → Prop} (hn : n ≤ 1000000) (nD : H0 D = none) (hw : ∀ k : Nat, wipe ((wipe σ vs).set i (some (.int (lo + k)))) vs = wipe σ vs)
    (ht : ∀ (k : Nat) H1 (Q : VK), k < n → Same H0 H1 → (∀ H2, Same H1 H2 → Q (.bl true) H2) → te ((wipe σ vs).set i (some (.int (lo + k)))) H1 Q)
    (hd : ∀ H1, Same H0 H1 → H1 D = some (.lst (List.replicate n (.bl true))) → Qd H1) : lcW (Itr lo n) (gName i) tYes te vs σ D Qd H0 := by
  refine lc_gen (n := n) (fun k H1 => Same H0 H1 ∧ H1 D = some (.lst (List.replicate k (.bl true)))) ⟨same_new nD, upd_same⟩ (fun k H1 hk p => hk) (fun H1 p => Nat.le_refl _) ?_ (fun H1 p => hd H1 p.1 p.2)
  rintro k H1 x H2 hk ⟨s, e⟩ ⟨rfl, rfl⟩
  refine ⟨hw k, ?_⟩
  refine ht k _ _ hk s (fun H3 s3 => ⟨_, s3 _ _ e, ?_, Z.Same.mut (s.trans s3) nD, ?_⟩)
  · rw [List.length_replicate]
    exact Nat.lt_of_lt_of_le hk (Nat.le_trans hn (by decide))
  · rw [upd_same, List.replicate_succ']
section
variable {P : Program} {w : World} {K : PySem.W.Frag} {mg : Str → Option Value} {base : Heap} {f f2 C CP CY : Addr} {k : Cs} {fd fd2 : FuncData}
def spSz (K : PySem.W.Frag) : Sp := fun vs H Q _ => ∃ (a C dx : Addr) (fs : List (Str × V)) (w d : Nat) (t : Str), vs = [.ref a, .int (w : Int), .int (d : Int), .str t] ∧ H a = some (.ins C dx fs) ∧ Fl3 K C ∧ fs.lookup ("weight" : Str) = some (.int (w : Int)) ∧ fs.lookup ("depth" : Str) = some (.int (d : Int)) ∧ fs.lookup ("text" : Str) = some (.str t) ∧ Q (.bl true) H
theorem ok_sized (F : FnP K "_law_sized" s_sized f fd) (c_is : Cal P w K mg base 1 "_law_is" spIs) (c_says : Cal P w K mg base 1 "_law_says" spSays) : FnOk P w K mg base CX0 2 f fd P_sized (spSz K) := by
  refine F.ok sc_sized (fun vs H Q E h => ?_) (fun cdv A outer s H vs Q E hr h => ?_)
  · obtain ⟨a, C, dx, fs, w, d, t, rfl, _⟩ := h
    rfl
  · obtain ⟨a, C, dx, fs, w, d, t, rfl, ha, fl, f1, f2, f3, q⟩ := h
    refine ⟨_, PSs.nox (pss_one (ps_ret (pe_and (pe_cl c_is hr (by decide) (by rfl) (pa_cons (pe_fld (pv 0) rfl) (pa_cons (pv 1) pa_nil))) (pe_and (pe_cl c_is hr (by decide) (by rfl) (pa_cons (pe_fld (pv 0) rfl) (pa_cons (pv 2) pa_nil))) (pe_one (pe_cl c_says hr (by decide) (by rfl) (pa_cons (pe_fld (pv 0) rfl) (pa_cons (pv 3) pa_nil)))))))), ?_⟩
    walk_at "go"
    refine ⟨a, C, dx, fs, _, rfl, ha, fl.cls, fl.nw, f1, ?_⟩
    walk_at "go"
    refine ⟨a, C, dx, fs, _, rfl, ha, fl.cls, fl.nd, f2, ?_⟩
    walk_at "go"
    refine ⟨a, C, dx, fs, _, rfl, ha, fl.cls, fl.nt, f3, ?_⟩
    walk_at "go"
    exact q
def spSm (k : Cs) (K : PySem.W.Frag) (d : Nat) : Sp := fun vs H Q _ => ∃ (x L : Addr) (l : List Pt), vs = [.ref x, .ref L] ∧ PaAt k K H l x ∧ DaAt H l L ∧ OkL l ∧ wtL l ≤ 400 ∧ dpL l ≤ 30 ∧ dpL l + 1 ≤ d ∧ ∀ H', Same H H' → Q (.bl true) H'
def spSq (k : Cs) (K : PySem.W.Frag) (d : Nat) : Sp := fun vs H Q _ => ∃ (y a : Addr) (p : Pt), vs = [.ref y, .ref a] ∧ PtAt k K H p y ∧ DtAt H p a ∧ Ok p ∧ wt p ≤ 400 ∧ dp p ≤ 30 ∧ dp p ≤ d ∧ ∀ H', Same H H' → Q (.bl true) H'
theorem ok_same {d : Nat} (F : FnP K "_law_same" s_same f fd) (m_isinstance : mg "isinstance" = none) (m_tuple : mg "tuple" = none) (m_len : mg "len" = none) (m_range : mg "range" = none) (g_Pact : mg "Pact" = some (.ref k.P)) (paK : PaK K k.P) (c_sized : Cal P w K mg base 2 "_law_sized" (spSz K)) (c_weight : Cal P w K mg base (2 * 31 + 6) "_law_weight" (spWl 31)) (c_depth : Cal P w K mg base (2 * 31 + 6) "_law_depth" (spDl 31)) (c_text : Cal P w K mg base (2 * 31 + 6) "_law_text" (spTl 31)) (c_same_part : Cal P w K mg base (2 * d + 71) "_law_same_part" (spSq k K d)) : FnOk P w K mg base CX0 (2 * d + 72) f fd P_same (spSm k K (d + 1)) := by
  refine F.ok sc_same (fun vs H Q E h => ?_) (fun cdv A outer s H vs Q E hr h => ?_)
  · obtain ⟨x, L, l, rfl, _⟩ := h
    rfl
  · obtain ⟨x, L, l, rfl, hx, hL, ok, hw, hd, hd2, q⟩ := h
    have isP := paK.is
    refine ⟨_, PSs.nox (pss_cons (ps_if (PW.pt (pw_or (pt_not (pt_val (pe_callB (C8.call_isC isP) (by rfl) m_isinstance (by decide +kernel) (pa_cons (pv 0) (pa_cons (pe_glob (by rfl) g_Pact relv_ref) pa_nil))))) (pw_or (pt_not (pt_val (pe_callB call_isi (by rfl) m_isinstance (by decide +kernel) (pa_cons (pe_fld (pv 0) rfl) (pa_cons (pe_bltn (v := .ty "tuple") (by rfl) m_tuple (by decide +kernel) rfl) pa_nil))))) (pw_or1 (pt_cmpR op_ne (pe_callB call_len_seq (by rfl) m_len PySem.boot_len (pa_cons (pe_fld (pv 0) rfl) pa_nil)) (pe_callB call_len_seq (by rfl) m_len PySem.boot_len (pa_cons (pv 1) pa_nil)) (nomark _)))))) (pss_one (ps_ret pe_bl)) pss_nil)
      (pss_cons (ps_for PassesOwn.never rfl (pi_range1 (by rfl) m_range (pa_cons (pe_callB call_len_seq (by rfl) m_len PySem.boot_len (pa_cons (pv 1) pa_nil)) pa_nil)) (pg_name (i := 2) sc_same.nd rfl (by first | exact .inl rfl | exact .inr rfl))
        (pss_one (ps_if (pt_not (pt_val (pe_cl c_same_part hr (by omega) (by rfl) (pa_cons (pe_ix ix_tup (pe_fld (pv 0) rfl) (pv 2) (fun _ _ => rfl)) (pa_cons (pe_ix ix_list (pv 1) (pv 2) (fun _ _ => rfl)) pa_nil))))) (pss_one (ps_ret pe_bl)) pss_nil)))
      (pss_one (ps_ret (pe_cl c_sized hr (by omega) (by rfl) (pa_cons (pv 0) (pa_cons (pe_cl c_weight hr (by omega) (by rfl) (pa_cons (pv 1) pa_nil)) (pa_cons (pe_cl c_depth hr (by omega) (by rfl) (pa_cons (pv 1) pa_nil)) (pa_cons (pe_cl c_text hr (by omega) (by rfl) (pa_cons (pv 1) pa_nil)) pa_nil))))))))), ?_⟩
    obtain ⟨dx, t, as, ex, hU, hP⟩ := id hx
    obtain ⟨bs, eL, hD⟩ := id hL
    have lb := DtsAt.len _ _ hD
    have la := PtsAt.len _ _ hP
    have lw := len_wt l
    walk_at "go"
    refine ⟨x, dx, _, rfl, ex, ?_⟩
    walk_at "go"
    refine ⟨x, k.P, dx, _, _, rfl, ex, paK.fl.cls, paK.np, rfl, ?_⟩
    walk_at "go"
    refine isiX (tyT hU) (show kitB "tuple" "tuple" = some true by decide +kernel) ?_
    walk_at "go"
    refine ⟨x, k.P, dx, _, _, rfl, ex, paK.fl.cls, paK.np, rfl, ?_⟩
    walk_at "go"
    refine ⟨t, _, rfl, .inr hU, ?_⟩
    walk_at "go"
    refine ⟨L, _, rfl, .inl (SqL.of eL), ?_⟩
    rw [List.length_map, List.length_map, la, lb]
    walk_at "go"
    refine ite2 (fun e => absurd e (by simp)) (fun _ => ?_)
    walk_at "go"
    refine ⟨L, _, rfl, .inl (SqL.of eL), ?_⟩
    rw [List.length_map, lb]
    walk_at "go"
    refine for_gen (n := l.length) (fun i σ J => ∃ (v : Option V), Same H J ∧ σ = [some (.ref x), some (.ref L), v]) ⟨none, Same.refl _, rfl⟩ ?_ ?_ ?_ ?_
    · rintro i σ J hi _
      show i < (l.length : Int).toNat
      omega
    · rintro σ J _
      show (l.length : Int).toNat ≤ l.length
      omega
    · rintro i σ J zz J' hi ⟨v, s1, rfl⟩ ⟨rfl, rfl⟩
      have ep : l[i]? = some l[i] := List.getElem?_eq_getElem hi
      have pm := List.mem_of_getElem? ep
      have := wtL_mem pm
      have := dpL_mem pm
      obtain ⟨y, ey, hy⟩ := PtsAt.get _ _ hP i _ ep
      obtain ⟨b, eb, hb⟩ := DtsAt.get _ _ hD i _ ep
      walk_at "go"
      refine ⟨x, k.P, dx, _, _, rfl, s1 _ _ ex, paK.fl.cls, paK.np, rfl, ?_⟩
      walk_at "go"
      rw [Int.zero_add]
      refine ⟨t, _, _, .ref y, rfl, rfl, (Z.Same.sqT s1 hU), atI_nat (by rw [List.getElem?_map, ey]; rfl), ?_⟩
      walk_at "go"
      refine ⟨L, _, _, .ref b, rfl, rfl, SqL.of (s1 _ _ eL), atI_nat (by rw [List.getElem?_map, eb]; rfl), ?_⟩
      refine ⟨y, b, l[i], rfl, hy.mono s1 _ _, hb.mono s1 _ _, okL_iff.mp ok _ pm, by omega, by omega, by omega, fun J2 s2 => ?_⟩
      walk_at "go"
      exact ⟨_, s1.trans s2, rfl⟩
    · rintro σ J ⟨v, s1, rfl⟩
      walk_at "go"
      refine ⟨L, l, rfl, hL.mono s1, ok, by omega, by omega, fun J1 s2 => ?_⟩
      walk_at "go"
      refine ⟨L, l, rfl, (hL.mono s1).mono s2, ok, by omega, by omega, fun J2 s3 => ?_⟩
      walk_at "go"
      refine ⟨L, l, rfl, ((hL.mono s1).mono s2).mono s3, ok, by omega, by omega, fun J3 s4 => ?_⟩
      walk_at "go"
      refine ⟨x, k.P, dx, _, wtL l, dpL l, S (txB l), rfl, (((s1.trans s2).trans s3).trans s4) _ _ ex, paK.fl, rfl, rfl, rfl, ?_⟩
      exact q J3 (((s1.trans s2).trans s3).trans s4)
structure Ic6 (K : PySem.W.Frag) (k : Cs) : Prop where
  t : C8.InsC K k.T
  e : C8.InsC K k.E
  c : C8.InsC K k.C
  r : C8.InsC K k.R
  n : C8.InsC K k.N
  m : C8.InsC K k.M
theorem ok_same_part {d : Nat} {cP : Addr} (F : FnP K "_law_same_part" s_same_part f fd) (pa : PtA K k) (pk : PtsK K cP k) (ic : Ic6 K k) (m_isinstance : mg "isinstance" = none) (m_tuple : mg "tuple" = none) (m_len : mg "len" = none) (m_range : mg "range" = none) (m_all : mg "all" = none) (g_Transfer : mg "Transfer" = some (.ref k.T)) (g_Event : mg "Event" = some (.ref k.E)) (g_Choice : mg "Choice" = some (.ref k.C)) (g_Rounds : mg "Rounds" = some (.ref k.R)) (g_Endless : mg "Endless" = some (.ref k.N)) (g_Times : mg "Times" = some (.ref k.M)) (c_sized : Cal P w K mg base 2 "_law_sized" (spSz K)) (c_is : Cal P w K mg base 1 "_law_is" spIs) (c_says : Cal P w K mg base 1 "_law_says" spSays) (c_part_weight : Cal P w K mg base (2 * 30 + 7) "_law_part_weight" (spWp 30)) (c_part_depth : Cal P w K mg base (2 * 30 + 7) "_law_part_depth" (spDp 30)) (c_part_text : Cal P w K mg base (2 * 30 + 7) "_law_part_text" (spTp 30)) (c_same : Cal P w K mg base (2 * d + 70) "_law_same" (spSm k K d)) : FnOk P w K mg base CX0 (2 * d + 71) f fd P_same_part (spSq k K d) := by
  have isT := ic.t
  have isE := ic.e
  have isC := ic.c
  have isR := ic.r
  have isN := ic.n
  have isM := ic.m
  refine F.ok sc_same_part (fun vs H Q E h => ?_) (fun cdv A outer s H vs Q E hr h => ?_)
  · obtain ⟨y, a, p, rfl, _⟩ := h
    rfl
  · obtain ⟨y, a, p, rfl, hy, hD, ok, hw, hd, hd2, q⟩ := h
    refine ⟨_, PSs.nox (pss_cons (ps_set (i := 2) sc_same_part.nd rfl (by first | exact .inl rfl | exact .inr rfl) (pe_ix ix_tup (pv 1) pe_int (fun _ _ => rfl)))
      (pss_cons (ps_if (pt_not (pt_val (pe_cl c_sized hr (by omega) (by rfl) (pa_cons (pv 0) (pa_cons (pe_cl c_part_weight hr (by omega) (by rfl) (pa_cons (pv 1) pa_nil)) (pa_cons (pe_cl c_part_depth hr (by omega) (by rfl) (pa_cons (pv 1) pa_nil)) (pa_cons (pe_cl c_part_text hr (by omega) (by rfl) (pa_cons (pv 1) pa_nil)) pa_nil))))))) (pss_one (ps_ret pe_bl)) pss_nil)
      (pss_cons (ps_if (pt_not (pt_val (pe_cl c_says hr (by omega) (by rfl) (pa_cons (pe_con (pv 0) rfl) (pa_cons (pv 2) pa_nil))))) (pss_one (ps_ret pe_bl)) pss_nil)
      (pss_cons (ps_if (pt_cmpR op_eq (pv 2) pe_str (nomark _)) (pss_cons (ps_if (PW.pt (pw_or (pt_not (pt_val (pe_callB (C8.call_isC isT) (by rfl) m_isinstance (by decide +kernel) (pa_cons (pv 0) (pa_cons (pe_glob (by rfl) g_Transfer relv_ref) pa_nil))))) (pw_or1 (pt_not (pt_val (pe_cl c_is hr (by omega) (by rfl) (pa_cons (pe_fld (pv 0) rfl) (pa_cons (pe_ix ix_tup (pv 1) pe_int (fun _ _ => rfl)) pa_nil)))))))) (pss_one (ps_ret pe_bl)) pss_nil)
      (pss_one (ps_ret (pe_and (pe_cl c_says hr (by omega) (by rfl) (pa_cons (pe_fld (pv 0) rfl) (pa_cons (pe_ix ix_tup (pv 1) pe_int (fun _ _ => rfl)) pa_nil))) (pe_one (pe_cl c_says hr (by omega) (by rfl) (pa_cons (pe_fld (pv 0) rfl) (pa_cons (pe_ix ix_tup (pv 1) pe_int (fun _ _ => rfl)) pa_nil)))))))) pss_nil)
      (pss_cons (ps_if (pt_cmpR op_eq (pv 2) pe_str (nomark _)) (pss_one (ps_ret (pe_and (pe_callB (C8.call_isC isE) (by rfl) m_isinstance (by decide +kernel) (pa_cons (pv 0) (pa_cons (pe_glob (by rfl) g_Event relv_ref) pa_nil))) (pe_one (pe_cl c_says hr (by omega) (by rfl) (pa_cons (pe_fld (pv 0) rfl) (pa_cons (pe_ix ix_tup (pv 1) pe_int (fun _ _ => rfl)) pa_nil))))))) pss_nil)
      (pss_cons (ps_if (pt_cmpR op_eq (pv 2) pe_str (nomark _)) (pss_one (ps_ret (pe_and (pe_callB (C8.call_isC isN) (by rfl) m_isinstance (by decide +kernel) (pa_cons (pv 0) (pa_cons (pe_glob (by rfl) g_Endless relv_ref) pa_nil))) (pe_one (pe_cl c_same hr (by omega) (by rfl) (pa_cons (pe_fld (pv 0) rfl) (pa_cons (pe_ix ix_tup (pv 1) pe_int (fun _ _ => rfl)) pa_nil))))))) pss_nil)
      (pss_cons (ps_if (pt_cmpR op_eq (pv 2) pe_str (nomark _)) (pss_one (ps_ret (pe_and (pe_callB (C8.call_isC isM) (by rfl) m_isinstance (by decide +kernel) (pa_cons (pv 0) (pa_cons (pe_glob (by rfl) g_Times relv_ref) pa_nil))) (pe_and (pe_cl c_is hr (by omega) (by rfl) (pa_cons (pe_fld (pv 0) rfl) (pa_cons (pe_ix ix_tup (pv 1) pe_int (fun _ _ => rfl)) pa_nil))) (pe_one (pe_cl c_same hr (by omega) (by rfl) (pa_cons (pe_fld (pv 0) rfl) (pa_cons (pe_ix ix_tup (pv 1) pe_int (fun _ _ => rfl)) pa_nil)))))))) pss_nil)
      (pss_cons (ps_if (pt_not (pt_val (pe_cl c_says hr (by omega) (by rfl) (pa_cons (pe_fld (pv 0) rfl) (pa_cons (pe_ix ix_tup (pv 1) pe_int (fun _ _ => rfl)) pa_nil))))) (pss_one (ps_ret pe_bl)) pss_nil)
      (pss_cons (ps_if (pt_cmpR op_eq (pv 2) pe_str (nomark _)) (pss_one (ps_ret (pe_and (pe_callB (C8.call_isC isR) (by rfl) m_isinstance (by decide +kernel) (pa_cons (pv 0) (pa_cons (pe_glob (by rfl) g_Rounds relv_ref) pa_nil))) (pe_one (pe_cl c_same hr (by omega) (by rfl) (pa_cons (pe_fld (pv 0) rfl) (pa_cons (pe_ix ix_tup (pv 1) pe_int (fun _ _ => rfl)) pa_nil))))))) pss_nil)
      (pss_cons (ps_if (PW.pt (pw_or (pt_not (pt_val (pe_callB (C8.call_isC isC) (by rfl) m_isinstance (by decide +kernel) (pa_cons (pv 0) (pa_cons (pe_glob (by rfl) g_Choice relv_ref) pa_nil))))) (pw_or1 (pt_not (pt_val (pe_callB call_isi (by rfl) m_isinstance (by decide +kernel) (pa_cons (pe_fld (pv 0) rfl) (pa_cons (pe_bltn (v := .ty "tuple") (by rfl) m_tuple (by decide +kernel) rfl) pa_nil)))))))) (pss_one (ps_ret pe_bl)) pss_nil)
      (pss_cons (ps_if (pt_cmpR op_ne (pe_callB call_len_seq (by rfl) m_len PySem.boot_len (pa_cons (pe_fld (pv 0) rfl) pa_nil)) (pe_callB call_len_seq (by rfl) m_len PySem.boot_len (pa_cons (pe_ix ix_tup (pv 1) pe_int (fun _ _ => rfl)) pa_nil)) (nomark _)) (pss_one (ps_ret pe_bl)) pss_nil)
      (pss_one (ps_ret (pe_callB (cr_all rfl) (by rfl) m_all (by decide +kernel) (pa_cons (pe_lc (own := [("_law_k", 3)]) (g := (gName 3)) (tt := tYes) (by rfl) sc_same_part.nd (pi_range1 (by rfl) m_range (pa_cons (pe_callB call_len_seq (by rfl) m_len PySem.boot_len (pa_cons (pe_ix ix_tup (pv 1) pe_int (fun _ _ => rfl)) pa_nil)) pa_nil)) (blkOk_by (own := [("_law_k", 3)]) (N := N_same_part) (sc := defScope s_same_part) (by decide +kernel)) (fun _ _ _ _ _ => (pg_name (i := 3) sc_same_part.nd rfl (by first | exact .inl rfl | exact .inr rfl))) (fun _ _ _ _ _ => pts_nil) (fun _ _ _ _ _ => (pe_cl c_same hr (by omega) (by rfl) (pa_cons (pe_ix (ix_tup_K (K := K) rfl) (pe_fld_K (K := K) rfl (pv 0) rfl) (pv 3) (fun _ _ => rfl)) (pa_cons (pe_ix (ix_list_K (K := K) rfl) (pe_ix (ix_tup_K (K := K) rfl) (pv 1) pe_int (fun _ _ => rfl)) (pv 3) (fun _ _ => rfl)) pa_nil))))) pa_nil))))))))))))))), ?_⟩
    obtain ⟨C, dy, fs, ck, ey, g1, g2, g3⟩ := hy.ins pk
    obtain ⟨C2, dy2, fs2, u, ey2, k1, k2, k3⟩ := rd_kind pa hy
    have kk : ∃ xs : List V, H a = some (.tup (.str (kdS p) :: xs)) := by
      cases p with
      | tr p q m => rw [DtAt] at hD; exact ⟨_, hD⟩
      | ev c => rw [DtAt] at hD; exact ⟨_, hD⟩
      | ch o os => rw [DtAt] at hD; obtain ⟨L, as, hD, _⟩ := hD; exact ⟨_, hD⟩
      | rd o b => rw [DtAt] at hD; obtain ⟨L, as, hD, _⟩ := hD; exact ⟨_, hD⟩
      | en b => rw [DtAt] at hD; obtain ⟨L, as, hD, _⟩ := hD; exact ⟨_, hD⟩
      | ti c b => rw [DtAt] at hD; obtain ⟨L, as, hD, _⟩ := hD; exact ⟨_, hD⟩
    obtain ⟨xs, ea⟩ := kk
    have hT : SqT K H a _ := SqT.of ea
    walk_at "go"
    refine ⟨a, _, _, .str (kdS p), rfl, rfl, hT, at_0, ?_⟩
    walk_at "go"
    refine ⟨a, p, rfl, hD, ok, by omega, hd, fun H1 s1 => ?_⟩
    walk_at "go"
    refine ⟨a, p, rfl, hD.mono s1 _ _, ok, by omega, hd, fun H2 s2 => ?_⟩
    walk_at "go"
    refine ⟨a, p, rfl, (hD.mono s1 _ _).mono s2 _ _, ok, by omega, hd, fun H3 s3 => ?_⟩
    have s13 := (s1.trans s2).trans s3
    refine ⟨y, C, dy, fs, wt p, dp p, S (tx p), rfl, s13 _ _ ey, ck.fl, g1, g2, g3, ?_⟩
    walk_at "go"
    refine ⟨y, C2, dy2, fs2, _, u, rfl, s13 _ _ ey2, k1, k2, k3, ?_⟩
    match p, hD, ok, hw, hd, hd2, q, hy with
    | .tr p q m, hD, ok, hw, hd, hd2, qq, hy =>
      rw [DtAt] at hD
      have hT3 : SqT K H3 a _ := SqT.of (s13 _ _ hD)
      rw [PtAt] at hy
      obtain ⟨dx, hy⟩ := hy
      have hy3 := s13 _ _ hy
      walk_at "go"
      refine ⟨y, dx, _, rfl, hy3, ?_⟩
      walk_at "go"
      refine ⟨y, k.T, dx, _, _, rfl, hy3, pa.cT, pa.T3, rfl, ?_⟩
      walk_at "go"
      refine ⟨y, k.T, dx, _, _, rfl, hy3, pa.cT, pa.T1, rfl, ?_⟩
      walk_at "go"
      refine ⟨y, k.T, dx, _, _, rfl, hy3, pa.cT, pa.T2, rfl, ?_⟩
      walk_at "go"
      exact qq _ s13
    | .ev c, hD, ok, hw, hd, hd2, qq, hy =>
      rw [DtAt] at hD
      have hT3 : SqT K H3 a _ := SqT.of (s13 _ _ hD)
      rw [PtAt] at hy
      obtain ⟨dx, hy⟩ := hy
      have hy3 := s13 _ _ hy
      walk_at "go"
      refine ⟨y, dx, _, rfl, hy3, ?_⟩
      walk_at "go"
      refine ⟨y, k.E, dx, _, _, rfl, hy3, pa.cE, pa.E1, rfl, ?_⟩
      walk_at "go"
      exact qq _ s13
    | .en b, hD, ok, hw, hd, hd2, qq, hy =>
      rw [DtAt] at hD
      obtain ⟨L, as, hD, hL, hA⟩ := hD
      have hT3 : SqT K H3 a _ := SqT.of (s13 _ _ hD)
      rw [PtAt] at hy
      obtain ⟨dx, x, dv, t, bs, hy, hx, ht, hb⟩ := hy
      have hy3 := s13 _ _ hy
      rw [Ok] at ok
      rw [wt] at hw
      rw [dp] at hd hd2
      walk_at "go"
      refine ⟨y, dx, _, rfl, hy3, ?_⟩
      walk_at "go"
      refine ⟨y, k.N, dx, _, _, rfl, hy3, pa.cN, pa.N1, rfl, ?_⟩
      walk_at "go"
      refine ⟨x, L, b, rfl, ⟨dv, t, bs, s13 _ _ hx, Z.Same.sqT s13 ht, hb.mono s13 _ _⟩, ⟨as, s13 _ _ hL, hA.mono s13 _ _⟩, ok, by omega, by omega, by omega, fun H4 s4 => ?_⟩
      exact qq _ (s13.trans s4)
    | .ti c b, hD, ok, hw, hd, hd2, qq, hy =>
      rw [DtAt] at hD
      obtain ⟨L, as, hD, hL, hA⟩ := hD
      have hT3 : SqT K H3 a _ := SqT.of (s13 _ _ hD)
      rw [PtAt] at hy
      obtain ⟨dx, x, dv, t, bs, hy, hx, ht, hb⟩ := hy
      have hy3 := s13 _ _ hy
      rw [Ok] at ok
      rw [wt] at hw
      rw [dp] at hd hd2
      have h4 : wtL b ≤ wtL b * (if c < 1 then 1 else c) := Nat.le_mul_of_pos_right _ (by split <;> omega)
      walk_at "go"
      refine ⟨y, dx, _, rfl, hy3, ?_⟩
      walk_at "go"
      refine ⟨y, k.M, dx, _, _, rfl, hy3, pa.cM, pa.M1, rfl, ?_⟩
      walk_at "go"
      refine ⟨y, k.M, dx, _, _, rfl, hy3, pa.cM, pa.M2, rfl, ?_⟩
      walk_at "go"
      refine ⟨x, L, b, rfl, ⟨dv, t, bs, s13 _ _ hx, Z.Same.sqT s13 ht, hb.mono s13 _ _⟩, ⟨as, s13 _ _ hL, hA.mono s13 _ _⟩, ok.2, by omega, by omega, by omega, fun H4 s4 => ?_⟩
      exact qq _ (s13.trans s4)
    | .rd o b, hD, ok, hw, hd, hd2, qq, hy =>
      rw [DtAt] at hD
      obtain ⟨L, as, hD, hL, hA⟩ := hD
      have hT3 : SqT K H3 a _ := SqT.of (s13 _ _ hD)
      rw [PtAt] at hy
      obtain ⟨dx, x, dv, t, bs, hy, hx, ht, hb⟩ := hy
      have hy3 := s13 _ _ hy
      rw [Ok] at ok
      rw [wt] at hw
      rw [dp] at hd hd2
      walk_at "go"
      refine ⟨y, k.R, dx, _, _, rfl, hy3, pa.cR, pa.R1, rfl, ?_⟩
      walk_at "go"
      refine ⟨y, dx, _, rfl, hy3, ?_⟩
      walk_at "go"
      refine ⟨y, k.R, dx, _, _, rfl, hy3, pa.cR, pa.R2, rfl, ?_⟩
      walk_at "go"
      refine ⟨x, L, b, rfl, ⟨dv, t, bs, s13 _ _ hx, Z.Same.sqT s13 ht, hb.mono s13 _ _⟩, ⟨as, s13 _ _ hL, hA.mono s13 _ _⟩, ok.2, by omega, by omega, by omega, fun H4 s4 => ?_⟩
      exact qq _ (s13.trans s4)
    | .ch o os, hD, ok, hw, hd, hd2, qq, hy =>
      rw [DtAt] at hD
      obtain ⟨L, as, hD, hL, hA⟩ := hD
      have hT3 : SqT K H3 a _ := SqT.of (s13 _ _ hD)
      rw [PtAt] at hy
      obtain ⟨dx, t, bs, hy, ht, hb⟩ := hy
      have hy3 := s13 _ _ hy
      have ht3 := Z.Same.sqT s13 ht
      have la := DasAt.len _ _ hA
      have lb := PasAt.len _ _ hb
      rw [Ok] at ok
      rw [wt] at hw
      rw [dp] at hd hd2
      walk_at "go"
      refine ⟨y, k.C, dx, _, _, rfl, hy3, pa.cC, pa.C1, rfl, ?_⟩
      walk_at "go"
      refine ⟨y, dx, _, rfl, hy3, ?_⟩
      walk_at "go"
      refine ⟨y, k.C, dx, _, _, rfl, hy3, pa.cC, pa.C2, rfl, ?_⟩
      walk_at "go"
      refine isiX (tyT ht3) (show kitB "tuple" "tuple" = some true by decide +kernel) ?_
      walk_at "go"
      refine ⟨y, k.C, dx, _, _, rfl, hy3, pa.cC, pa.C2, rfl, ?_⟩
      walk_at "go"
      refine ⟨t, _, rfl, .inr ht3, ?_⟩
      walk_at "go"
      refine ⟨L, _, rfl, .inl (SqL.of (s13 _ _ hL)), ?_⟩
      rw [List.length_map, List.length_map, la, lb]
      walk_at "go"
      refine ite2 (fun e => absurd e (by simp)) (fun _ => ?_)
      walk_at "go"
      refine ⟨L, _, rfl, .inl (SqL.of (s13 _ _ hL)), ?_⟩
      rw [List.length_map, la]
      walk_at "go"
      intro D nD
      rw [Int.toNat_natCast]
      refine lc_rngB (show os.length ≤ 1000000 by omega) nD (fun _ => rfl) (fun i J Q4 hi s4 q4 => ?_) (fun J s4 eD => ?_)
      · rw [Int.zero_add]
        have s14 := s13.trans s4
        have hT4 : SqT K J a _ := SqT.of (s14 _ _ hD)
        have ep : os[i]? = some os[i] := List.getElem?_eq_getElem hi
        have pm := List.mem_of_getElem? ep
        have := wtLL_mem pm
        have := dpLL_mem pm
        obtain ⟨x, ex, hx⟩ := PasAt.get _ _ hb i _ ep
        obtain ⟨M, eM, hM⟩ := DasAt.get _ _ hA i _ ep
        walk_at "go"
        refine ⟨y, k.C, dx, _, _, rfl, s14 _ _ hy, pa.cC, pa.C2, rfl, ?_⟩
        walk_at "go"
        refine ⟨t, _, _, .ref x, rfl, rfl, Z.Same.sqT s14 ht, atI_nat (by rw [List.getElem?_map, ex]; rfl), ?_⟩
        walk_at "go"
        refine ⟨L, _, _, .ref M, rfl, rfl, SqL.of (s14 _ _ hL), atI_nat (by rw [List.getElem?_map, eM]; rfl), ?_⟩
        refine ⟨x, M, os[i], rfl, hx.mono s14, hM.mono s14, okLL_iff.mp ok.2.2.2 _ pm, by omega, by omega, by omega, fun J2 s2 => ?_⟩
        exact q4 _ s2
      walk_at "go"
      refine ⟨D, List.replicate os.length true, rfl, SqL.of (by rw [List.map_replicate]; exact eD), ?_⟩
      have e : (List.replicate os.length true).all id = true := List.all_eq_true.mpr fun b hb => List.eq_of_mem_replicate hb
      rw [e]
      exact qq J (s13.trans s4)
/-- the comparisons of all pacts -/
theorem all_same {cP : Addr} (F : FnP K "_law_same" s_same f fd) (g : mg "_law_same" = some (.ref f)) (b : Binds K fd P_same []) (F2 : FnP K "_law_same_part" s_same_part f2 fd2) (g2 : mg "_law_same_part" = some (.ref f2)) (b2 : Binds K fd2 P_same_part []) (pa : PtA K k) (pk : PtsK K cP k) (ic : Ic6 K k) (paK : PaK K k.P) (m_isinstance : mg "isinstance" = none) (m_tuple : mg "tuple" = none) (m_len : mg "len" = none) (m_range : mg "range" = none) (m_all : mg "all" = none) (g_Pact : mg "Pact" = some (.ref k.P)) (g_Transfer : mg "Transfer" = some (.ref k.T)) (g_Event : mg "Event" = some (.ref k.E)) (g_Choice : mg "Choice" = some (.ref k.C)) (g_Rounds : mg "Rounds" = some (.ref k.R)) (g_Endless : mg "Endless" = some (.ref k.N)) (g_Times : mg "Times" = some (.ref k.M)) (c_sized : Cal P w K mg base 2 "_law_sized" (spSz K)) (c_is : Cal P w K mg base 1 "_law_is" spIs) (c_says : Cal P w K mg base 1 "_law_says" spSays) (c_part_weight : Cal P w K mg base (2 * 30 + 7) "_law_part_weight" (spWp 30)) (c_part_depth : Cal P w K mg base (2 * 30 + 7) "_law_part_depth" (spDp 30)) (c_part_text : Cal P w K mg base (2 * 30 + 7) "_law_part_text" (spTp 30)) (c_weight : Cal P w K mg base (2 * 31 + 6) "_law_weight" (spWl 31)) (c_depth : Cal P w K mg base (2 * 31 + 6) "_law_depth" (spDl 31)) (c_text : Cal P w K mg base (2 * 31 + 6) "_law_text" (spTl 31)) : ∀ d, Cal P w K mg base (2 * d + 70) "_law_same" (spSm k K d)
  | 0 => cal_of F g b (no_fn fun vs H Q E h => by obtain ⟨x, L, l, _, _, _, _, _, _, z, _⟩ := h; omega)
  | d + 1 => by
    have c_same := all_same F g b F2 g2 b2 pa pk ic paK m_isinstance m_tuple m_len m_range m_all g_Pact g_Transfer g_Event g_Choice g_Rounds g_Endless g_Times c_sized c_is c_says c_part_weight c_part_depth c_part_text c_weight c_depth c_text d
    have c_part := cal_of F2 g2 b2 (ok_same_part F2 pa pk ic m_isinstance m_tuple m_len m_range m_all g_Transfer g_Event g_Choice g_Rounds g_Endless g_Times c_sized c_is c_says c_part_weight c_part_depth c_part_text c_same)
    rw [show 2 * (d + 1) + 70 = 2 * d + 72 by omega]
    exact cal_of F g b (ok_same F m_isinstance m_tuple m_len m_range g_Pact paK c_sized c_weight c_depth c_text c_part)
end
end Z
set_option pp.maxSteps 700
set_option Elab.async false
set_option linter.all false
set_option maxRecDepth 100000
set_option maxHeartbeats 4000000
open SX (S S_inj S_len S_cat)
namespace Z
open Pk NdefX
open PySem PySem.Spec PyProof.Rows L2
open C8 (pss_cut tCut)
local macro_rules | `(tactic| walk_at "num") => `(tactic| first | rfl | omega | decide | exact Nat.le_of_lt (small1000 (by simp)) | exact ⟨by omega, by omega⟩ | exact ⟨by omega, by omega, by omega⟩ | exact ⟨by decide, by decide, by decide⟩ | exact Or.inl ⟨by omega, by omega⟩ | exact Or.inr ⟨by omega, by omega⟩)
local macro_rules | `(tactic| walk_at "go") => `(tactic| repeat (first | refine ⟨_, rfl, ?_⟩ | refine ⟨_, _, rfl, rfl, ?_⟩ | refine ⟨_, _, rfl, ?_⟩ | (refine ⟨_, _, rfl, rfl, ?_, ?_⟩; focus walk_at "num") | refine Or.inl ⟨_, rfl, ?_⟩ | refine ⟨_, _, _, _, rfl, rfl, (by assumption), (by rfl), ?_⟩ | refine ⟨_, _, _, _, _, rfl, (by assumption), (by assumption), (by assumption), (by rfl), ?_⟩ | refine ⟨rfl, ?_⟩ | (refine And.intro ?_ ?_; focus walk_at "num")))
abbrev s_back : Stmt := topS 71
abbrev N_back : List Str := ["_law_built", "_law_rows", "_law_read", "_law_equal", "_law_same_here"]
abbrev P_back : List Str := ["_law_built", "_law_rows"]
theorem sc_back : FnScope N_back P_back (defScope s_back) := ⟨rfl, rfl, rfl, by decide +kernel, rfl, by decide +kernel, by decide +kernel⟩
theorem op_isB {X : Cx} : OpR X (compareOp .Is) (fun x y H Q => ∃ a b, x = .bl a ∧ y = .bl b ∧ Q (.bl (decide (a = b))) H) := by
  intro pins s σ H x y v u Q I rx ry h
  obtain ⟨a, b, rfl, rfl, q⟩ := h
  cases (show v = Value.bool a from rx)
  cases (show u = Value.bool b from ry)
  exact wpAny_is_plain rfl (fin_bl I q (by cases a <;> cases b <;> rfl))
section
variable {P : Program} {w : World} {K : PySem.W.Frag} {mg : Str → Option Value} {base : Heap} {f f2 C CP CY : Addr} {k : Cs} {fd fd2 : FuncData}
def spBa (k : Cs) (K : PySem.W.Frag) : Sp := fun vs H Q _ => ∃ (x L : Addr) (l : List Pt), vs = [.ref x, .ref L] ∧ PaAt k K H l x ∧ DaAt H l L ∧ OkL l ∧ wtL l ≤ 400 ∧ dpL l ≤ 30 ∧ ∀ H', Same H H' → Q (.bl true) H'
theorem ok_back {HE : Addr} (F : FnP K "_law_back" s_back f fd) (g_HouseError : mg "HouseError" = some (.ref HE)) (paK : PaK K k.P) (e_Pact : Eqo P w K mg base 1 k.P (spEq k K)) (c_parse_pact : Cal P w K mg base 100 "parse_pact" (spPa k K)) (c_same : Cal P w K mg base (2 * 31 + 70) "_law_same" (spSm k K 31)) : FnOk P w K mg base CX0 133 f fd P_back (spBa k K) := by
  refine F.ok sc_back (fun vs H Q E h => ?_) (fun cdv A outer s H vs Q E hr h => ?_)
  · obtain ⟨x, L, l, rfl, _⟩ := h
    rfl
  · obtain ⟨x, L, l, rfl, hx, hL, ok, hw, hd, q⟩ := h
    refine ⟨_, PSs.nox (pss_cons (L2N.ps_try_many rfl rfl takes0N (fun W pn xe tk po => (pss_one (ps_set (i := 2) sc_back.nd rfl (by first | exact .inl rfl | exact .inr rfl) (pe_cl c_parse_pact hr (by decide) (by rfl) (pa_cons (by exact pe_fld_K (K := K) rfl (pv 0) rfl) pa_nil)))))
      (.cons ⟨rfl, rfl, .inl g_HouseError⟩ (fun ex oe cls d pn hzn hf => (pss_one (ps_ret pe_bl))) .nil))
      (pss_cons (ps_set (i := 3) sc_back.nd rfl (by first | exact .inl rfl | exact .inr rfl) (pe_cmpR (op_own e_Pact hr (by decide)) (pv 2) (pv 0) (nomark _)))
      (pss_cons (ps_set (i := 4) sc_back.nd rfl (by first | exact .inl rfl | exact .inr rfl) (pe_cmpR (op_own e_Pact hr (by decide)) (pv 0) (pv 2) (nomark _)))
      (pss_one (ps_ret (pe_and (pe_cmpR op_isB (pv 3) pe_bl (nomark _)) (pe_and (pe_cmpR op_isB (pv 4) pe_bl (nomark _)) (pe_and (pe_cl c_same hr (by decide) (by rfl) (pa_cons (pv 2) (pa_cons (pv 1) pa_nil))) (pe_one (pe_cl c_same hr (by decide) (by rfl) (pa_cons (pv 0) (pa_cons (pv 1) pa_nil)))))))))))), ?_⟩
    obtain ⟨dx, t, as, ex, hU, hP⟩ := id hx
    have tl := txB_len l ok
    walk_at "go"
    refine ⟨x, k.P, dx, _, _, rfl, ex, paK.fl.cls, paK.fl.nt, rfl, ?_⟩
    refine ⟨txB l, l, rfl, by omega, spl_wB l, ok, hw, hd, fun y J1 s1 ny hy => ?_⟩
    obtain ⟨dy, t2, as2, ey, _⟩ := id hy
    walk_at "go"
    refine ⟨y, x, dy, dx, _, _, rfl, rfl, ey, s1 _ _ ex, ⟨y, x, l, l, rfl, hy, hx.mono s1, ⟨_, rfl, ?_⟩⟩⟩
    rw [decide_eq_true rfl]
    walk_at "go"
    refine ⟨x, y, dx, dy, _, _, rfl, rfl, s1 _ _ ex, ey, ⟨x, y, l, l, rfl, hx.mono s1, hy, ⟨_, rfl, ?_⟩⟩⟩
    rw [decide_eq_true rfl]
    walk_at "go"
    refine ⟨y, L, l, rfl, hy, hL.mono s1, ok, hw, hd, by omega, fun J2 s2 => ?_⟩
    walk_at "go"
    refine ⟨x, L, l, rfl, hx.mono (s1.trans s2), hL.mono (s1.trans s2), ok, hw, hd, by omega, fun J3 s3 => ?_⟩
    exact q _ ((s1.trans s2).trans s3)
end
end Z
set_option pp.maxSteps 700
set_option Elab.async false
set_option linter.all false
set_option maxRecDepth 100000
set_option maxHeartbeats 4000000
open SX (S S_inj S_len S_cat)
namespace Z
open Pk NdefX
open PySem PySem.Spec PyProof.Rows L2
open C8 (pss_cut tCut)
local macro_rules | `(tactic| walk_at "num") => `(tactic| first | rfl | omega | decide | exact Nat.le_of_lt (small1000 (by simp)) | exact ⟨by omega, by omega⟩ | exact ⟨by omega, by omega, by omega⟩ | exact ⟨by decide, by decide, by decide⟩ | exact Or.inl ⟨by omega, by omega⟩ | exact Or.inr ⟨by omega, by omega⟩)
local macro_rules | `(tactic| walk_at "go") => `(tactic| repeat (first | refine ⟨_, rfl, ?_⟩ | refine ⟨_, _, rfl, rfl, ?_⟩ | refine ⟨_, _, rfl, ?_⟩ | (refine ⟨_, _, rfl, rfl, ?_, ?_⟩; focus walk_at "num") | refine Or.inl ⟨_, rfl, ?_⟩ | refine ⟨_, _, _, _, rfl, rfl, (by assumption), (by rfl), ?_⟩ | refine ⟨_, _, _, _, _, rfl, (by assumption), (by assumption), (by assumption), (by rfl), ?_⟩ | refine ⟨rfl, ?_⟩ | (refine And.intro ?_ ?_; focus walk_at "num")))
abbrev s_changed : Stmt := topS 72
abbrev N_changed : List Str := ["_law_pact_here", "_law_spot", "_law_at", "_law_part_here", "_law_deep", "_law_which", "_law_option"]
abbrev P_changed : List Str := ["_law_pact_here", "_law_spot"]
theorem sc_changed : FnScope N_changed P_changed (defScope s_changed) := ⟨rfl, rfl, rfl, by decide +kernel, rfl, by decide +kernel, by decide +kernel⟩
theorem wtLL_app : ∀ a b : List (List Pt), wtLL (a ++ b) = wtLL a + wtLL b
  | [], b => by rw [wtLL, List.nil_append]; omega
  | p :: a, b => by rw [List.cons_append, wtLL, wtLL, wtLL_app a b]; omega
theorem dpLL_all' {d : Nat} : ∀ {l : List (List Pt)}, (∀ p ∈ l, dpL p ≤ d) → dpLL l ≤ d
  | [], _ => by rw [dpLL]; exact Nat.zero_le _
  | p :: l, h => by
    have h1 := h p List.mem_cons_self
    have h2 := dpLL_all' fun q hq => h q (List.mem_cons_of_mem _ hq)
    rw [dpLL]
    omega
theorem DasAt.cut {H : Hp} : ∀ (n : Nat) (l : List (List Pt)) (as : List Addr), DasAt H l as → DasAt H (l.take n) (as.take n) ∧ DasAt H (l.drop n) (as.drop n)
  | 0, l, as, h => ⟨by rw [List.take_zero, List.take_zero, DasAt], by rw [List.drop_zero, List.drop_zero]; exact h⟩
  | n + 1, [], as, h => by
    rw [DasAt] at h
    subst h
    exact ⟨by rw [List.take_nil, List.take_nil, DasAt], by rw [List.drop_nil, List.drop_nil, DasAt]⟩
  | n + 1, p :: l, as, h => by
    rw [DasAt] at h
    obtain ⟨a, r, rfl, h1, h2⟩ := h
    obtain ⟨g1, g2⟩ := DasAt.cut n l r h2
    refine ⟨?_, g2⟩
    rw [List.take_succ_cons, List.take_succ_cons, DasAt]
    exact ⟨a, _, rfl, h1, g1⟩
section
variable {P : Program} {w : World} {K : PySem.W.Frag} {mg : Str → Option Value} {base : Heap} {f f2 : Addr} {k : Cs} {fd fd2 : FuncData}
def spCg (d : Nat) : Sp := fun vs H Q _ => ∃ (L : Addr) (l : List Pt) (z : Int), vs = [.ref L, .int z] ∧ DaAt H l L ∧ OkL l ∧ wtL l ≤ 10000 ∧ dpL l + 1 ≤ d ∧ ∀ R l' H', Same H H' → DaAt H' l' R → OkL l' → wtL l' ≤ wtL l + gnL l → dpL l' ≤ dpL l + 1 → Q (.ref R) H'
theorem ok_changed {d : Nat} (F : FnP K "_law_changed" s_changed f fd) (m_int : mg "int" = none) (m_len : mg "len" = none) (c_marks : Cal P w K mg base 1 "_law_marks" spMk_) (c_changed : Cal P w K mg base (d + 2) "_law_changed" (spCg d)) : FnOk P w K mg base CX0 (d + 3) f fd P_changed (spCg (d + 1)) := by
  refine F.ok sc_changed (fun vs H Q E h => ?_) (fun cdv A outer s H vs Q E hr h => ?_)
  · obtain ⟨L, l, z, rfl, _⟩ := h
    rfl
  · obtain ⟨L, l, z, rfl, hL0, ok, hw, hd, q⟩ := h
    refine ⟨_, PSs.nox (pss_cons (ps_if (pt_cmpR op_eq (pe_callB call_len_seq (by rfl) m_len PySem.boot_len (pa_cons (pv 0) pa_nil)) pe_int (nomark _)) (pss_one (ps_ret (pe_lst (pa_cons (pe_tup (pa_cons pe_str (pa_cons (pe_ix ix_str (pe_cl0 c_marks hr (by omega) (by rfl)) (pe_op op_mod (pe_callTy call_int1 (by rfl) m_int (by decide +kernel) (pa_cons (pv 1) pa_nil)) pe_int) (fun _ _ => rfl)) pa_nil))) pa_nil)))) pss_nil)
      (pss_cons (ps_set (i := 2) sc_changed.nd rfl (by first | exact .inl rfl | exact .inr rfl) (pe_op op_mod (pe_callTy call_int1 (by rfl) m_int (by decide +kernel) (pa_cons (pv 1) pa_nil)) (pe_callB call_len_seq (by rfl) m_len PySem.boot_len (pa_cons (pv 0) pa_nil))))
      (pss_cons (ps_set (i := 3) sc_changed.nd rfl (by first | exact .inl rfl | exact .inr rfl) (pe_ix ix_list (pv 0) (pv 2) (fun _ _ => rfl)))
      (pss_cons (ps_set (i := 4) sc_changed.nd rfl (by first | exact .inl rfl | exact .inr rfl) (pe_cmpR op_eq (pe_op op_mod (pe_callTy call_int1 (by rfl) m_int (by decide +kernel) (pa_cons (pe_op op_fdiv (pv 1) pe_int) pa_nil)) pe_int) pe_int (nomark _)))
      (pss_cut (ps_if (pt_cmpR op_eq (pe_ix ix_tup (pv 3) pe_int (fun _ _ => rfl)) pe_str (nomark _)) (pss_one (ps_set (i := 3) sc_changed.nd rfl (by first | exact .inl rfl | exact .inr rfl) (pe_tup (pa_cons pe_str (pa_cons (pe_ix ix_tup (pv 3) pe_int (fun _ _ => rfl)) (pa_cons (pe_ix ix_tup (pv 3) pe_int (fun _ _ => rfl)) (pa_cons (pe_op op_sub (pe_op op_add (pe_ix ix_tup (pv 3) pe_int (fun _ _ => rfl)) pe_int) (pe_op op_mul pe_int (pe_op op_fdivW (pe_ix ix_tup (pv 3) pe_int (fun _ _ => rfl)) (pe_op op_pow pe_int pe_int)))) pa_nil))))))) (pss_one (ps_if (pt_cmpR op_eq (pe_ix ix_tup (pv 3) pe_int (fun _ _ => rfl)) pe_str (nomark _)) (pss_one (ps_set (i := 3) sc_changed.nd rfl (by first | exact .inl rfl | exact .inr rfl) (pe_tup (pa_cons pe_str (pa_cons (pe_ix ix_str (pe_cl0 c_marks hr (by omega) (by rfl)) (pe_op op_mod (pe_callTy call_int1 (by rfl) m_int (by decide +kernel) (pa_cons (pe_op op_add (pe_op op_add (pe_bm PySem.F.plainAttrs_str PySem.F.slot_str_find PySem.F.type_str_find mt_find (pe_cl0 c_marks hr (by omega) (by rfl)) (pa_cons (pe_ix ix_tup (pv 3) pe_int (fun _ _ => rfl)) pa_nil)) pe_int) (pe_op op_mod (pe_callTy call_int1 (by rfl) m_int (by decide +kernel) (pa_cons (pv 1) pa_nil)) pe_int)) pa_nil)) pe_int) (fun _ _ => rfl)) pa_nil))))) (pss_one (ps_if (pt_cmpR op_eq (pe_ix ix_tup (pv 3) pe_int (fun _ _ => rfl)) pe_str (nomark _)) (pss_one (ps_set (i := 3) sc_changed.nd rfl (by first | exact .inl rfl | exact .inr rfl) (pe_tup (pa_cons pe_str (pa_cons (pe_cl c_changed hr (by omega) (by rfl) (pa_cons (pe_ix ix_tup (pv 3) pe_int (fun _ _ => rfl)) (pa_cons (pe_op op_fdiv (pv 1) pe_int) pa_nil))) pa_nil))))) (pss_one (ps_if (pt_cmpR op_eq (pe_ix ix_tup (pv 3) pe_int (fun _ _ => rfl)) pe_str (nomark _)) (pss_cons (ps_set (i := 5) sc_changed.nd rfl (by first | exact .inl rfl | exact .inr rfl) (pe_op op_mod (pe_callTy call_int1 (by rfl) m_int (by decide +kernel) (pa_cons (pe_op op_fdiv (pv 1) pe_int) pa_nil)) (pe_callB call_len_seq (by rfl) m_len PySem.boot_len (pa_cons (pe_ix ix_tup (pv 3) pe_int (fun _ _ => rfl)) pa_nil))))
      (pss_cons (ps_set (i := 6) sc_changed.nd rfl (by first | exact .inl rfl | exact .inr rfl) (pe_cl c_changed hr (by omega) (by rfl) (pa_cons (pe_ix ix_list (pe_ix ix_tup (pv 3) pe_int (fun _ _ => rfl)) (pv 5) (fun _ _ => rfl)) (pa_cons (pe_op op_fdiv (pv 1) pe_int) pa_nil))))
      (pss_one (ps_set (i := 3) sc_changed.nd rfl (by first | exact .inl rfl | exact .inr rfl) (pe_tup (pa_cons pe_str (pa_cons (pe_ix ix_tup (pv 3) pe_int (fun _ _ => rfl)) (pa_cons (pe_op op_cat (pe_op op_cat (pe_slice sl_list (pe_ix ix_tup (pv 3) pe_int (fun _ _ => rfl)) po_none (po_some (pv 5))) (pe_lst (pa_cons (pv 6) pa_nil))) (pe_slice sl_list (pe_ix ix_tup (pv 3) pe_int (fun _ _ => rfl)) (po_some (pe_op op_add (pv 5) pe_int)) po_none)) pa_nil)))))))) (pss_one (ps_if (PW.pt (pw_and (pt_cmpR op_eq (pe_ix ix_tup (pv 3) pe_int (fun _ _ => rfl)) pe_str (nomark _)) (pw_and1 (pt_val (pv 4))))) (pss_one (ps_set (i := 3) sc_changed.nd rfl (by first | exact .inl rfl | exact .inr rfl) (pe_tup (pa_cons pe_str (pa_cons (pe_ix ix_str pe_str (pe_op op_mod (pe_callTy call_int1 (by rfl) m_int (by decide +kernel) (pa_cons (pe_op op_add (pe_op op_add (pe_bm PySem.F.plainAttrs_str PySem.F.slot_str_find PySem.F.type_str_find mt_find pe_str (pa_cons (pe_ix ix_tup (pv 3) pe_int (fun _ _ => rfl)) pa_nil)) pe_int) (pe_op op_mod (pe_callTy call_int1 (by rfl) m_int (by decide +kernel) (pa_cons (pv 1) pa_nil)) pe_int)) pa_nil)) pe_int) (fun _ _ => rfl)) (pa_cons (pe_ix ix_tup (pv 3) pe_int (fun _ _ => rfl)) pa_nil)))))) (pss_one (ps_if (PW.pt (pw_and (pt_cmpR op_eq (pe_ix ix_tup (pv 3) pe_int (fun _ _ => rfl)) pe_str (nomark _)) (pw_and1 (pt_val (pv 4))))) (pss_one (ps_set (i := 3) sc_changed.nd rfl (by first | exact .inl rfl | exact .inr rfl) (pe_tup (pa_cons pe_str (pa_cons (pe_op op_sub (pe_op op_add (pe_ix ix_tup (pv 3) pe_int (fun _ _ => rfl)) pe_int) (pe_op op_mul pe_int (pe_op op_fdiv (pe_ix ix_tup (pv 3) pe_int (fun _ _ => rfl)) pe_int))) (pa_cons (pe_ix ix_tup (pv 3) pe_int (fun _ _ => rfl)) pa_nil)))))) (pss_one (ps_set (i := 3) sc_changed.nd rfl (by first | exact .inl rfl | exact .inr rfl) (pe_tup (pa_cons (pe_ix ix_tup (pv 3) pe_int (fun _ _ => rfl)) (pa_cons (pe_ix ix_tup (pv 3) pe_int (fun _ _ => rfl)) (pa_cons (pe_cl c_changed hr (by omega) (by rfl) (pa_cons (pe_ix ix_tup (pv 3) pe_int (fun _ _ => rfl)) (pa_cons (pe_op op_fdiv (pv 1) pe_int) pa_nil))) pa_nil)))))))))))))))))
      (pss_one (ps_ret (pe_op op_cat (pe_op op_cat (pe_slice sl_list (pv 0) po_none (po_some (pv 2))) (pe_lst (pa_cons (pv 3) pa_nil))) (pe_slice sl_list (pv 0) (po_some (pe_op op_add (pv 2) pe_int)) po_none))))))))), ?_⟩
    obtain ⟨bs, hL, hD⟩ := id hL0
    have lb := DtsAt.len _ _ hD
    have lw := len_wt l
    walk_at "go"
    refine ⟨L, _, rfl, .inl (SqL.of hL), ?_⟩
    rw [List.length_map, lb]
    cases l with
    | nil =>
      walk_at "go"
      obtain ⟨j, ej, hj⟩ := modN z (show 0 < 26 by decide)
      have ej : z % 26 = (j : Int) := ej
      have hj2 : j < MRK.length := hj
      refine ⟨_, _, MRK[j], rfl, rfl, by rw [S_len]; exact szl (by decide), by rw [ej]; exact at_S hj2, ?_⟩
      walk_at "go"
      intro T nT
      generalize eH_ : upd H T _ = H1
      have s1 : Same H H1 := by rw [← eH_]; exact same_new nT
      have eT : H1 T = some (.tup [.str "event", .str (S [MRK[j]])]) := by rw [← eH_]; exact upd_same
      clear eH_
      walk_at "go"
      intro R nR
      generalize eH_ : upd H1 R _ = H2
      have s2 : Same H1 H2 := by rw [← eH_]; exact same_new nR
      have eR : H2 R = some (.lst [.ref T]) := by rw [← eH_]; exact upd_same
      clear eH_
      exact q R [.ev MRK[j]] H2 (s1.trans s2) ⟨[T], eR, dtsAt_one (by rw [DtAt]; exact s2 _ _ eT)⟩ (by rw [OkL, OkL, Ok]; exact ⟨List.getElem_mem hj2, True.intro⟩) (by rw [wtL, wtL, wtL, wt, gnL]; decide) (by rw [dpL, dpL, dpL, dp]; decide)
    | cons p0 l0 =>
      walk_at "go"
      have hl0 : 0 < (p0 :: l0).length := by simp
      generalize p0 :: l0 = l at *
      refine ⟨L, _, rfl, .inl (SqL.of hL), ?_⟩
      rw [List.length_map, lb]
      walk_at "go"
      obtain ⟨j, ej, hj⟩ := modN z hl0
      rw [show (fun i j : Int => V.int (i % j)) z (l.length : Int) = V.int (j : Int) from congrArg V.int ej]
      have ep : l[j]? = some l[j] := List.getElem?_eq_getElem hj
      have pm := List.mem_of_getElem? ep
      have hpw := wtL_mem pm
      have hpd := dpL_mem pm
      have hpo := okL_iff.mp ok _ pm
      have hpg := gnL_mem pm
      obtain ⟨b, eb, hb⟩ := DtsAt.get _ _ hD j _ ep
      have etk : l = l.take j ++ [l[j]] ++ l.drop (j + 1) := by
        rw [List.append_assoc, List.singleton_append, ← List.drop_eq_getElem_cons hj, List.take_append_drop]
      generalize l[j] = p at *
      walk_at "go"
      refine ⟨L, _, _, .ref b, rfl, rfl, SqL.of hL, atI_nat (by rw [List.getElem?_map, eb]; rfl), ?_⟩
      walk_at "go"
      refine ⟨fun σ J => ∃ (T : Addr) (p' : Pt) (u4 u5 u6 : Option V), Same H J ∧ DtAt J p' T ∧ Ok p' ∧ wt p' ≤ wt p + gn p ∧ dp p' ≤ dp p + 1 ∧ σ = [some (.ref L), some (.int z), some (.int (j : Int)), some (.ref T), u4, u5, u6], ?_, ?_⟩
      · cases p with
        | tr a c m =>
          rw [DtAt] at hb
          have hT : SqT K H b _ := SqT.of hb
          rw [Ok] at hpo
          obtain ⟨m', em, hm'⟩ : ∃ m' : Nat, (m : Int) + 1 - 2 * ((m : Int) / 10 ^ 60) = (m' : Int) ∧ m' ≤ 10 ^ 60 := by
            have hm := hpo.2.2.2
            rcases Nat.lt_or_ge m (10 ^ 60) with c | c
            · have e : (m : Int) / 10 ^ 60 = 0 := Int.ediv_eq_zero_of_lt (by omega) (by exact_mod_cast c)
              exact ⟨m + 1, by rw [e]; omega, c⟩
            · have e2 : m = 10 ^ 60 := Nat.le_antisymm hm c
              subst e2
              exact ⟨10 ^ 60 - 1, by decide +kernel, by decide +kernel⟩
          walk_at "go"
          refine ⟨⟨by decide +kernel, by decide +kernel⟩, ?_⟩
          walk_at "go"
          intro T nT
          generalize eH_ : upd H T _ = H1
          have s1 : Same H H1 := by rw [← eH_]; exact same_new nT
          have eT : H1 T = some (.tup [.str "transfer", .str (S [a]), .str (S [c]), .int ((m : Int) + 1 - 2 * ((m : Int) / 10 ^ 60))]) := by rw [← eH_]; exact upd_same
          clear eH_
          rw [em] at eT
          exact ⟨T, .tr a c m', _, _, _, s1, by rw [DtAt]; exact eT, by rw [Ok]; exact ⟨hpo.1, hpo.2.1, hpo.2.2.1, hm'⟩, by rw [wt, wt]; omega, by rw [dp, dp]; omega, rfl⟩
        | ev c =>
          rw [DtAt] at hb
          have hT : SqT K H b _ := SqT.of hb
          rw [Ok] at hpo
          walk_at "go"
          generalize Txt.find (S MRK) (S [c]) = fi
          obtain ⟨i, ei, hi⟩ := modN ((fi : Int) + 1 + z % 25) (show 0 < 26 by decide)
          have ei : ((fi : Int) + 1 + z % 25) % 26 = (i : Int) := ei
          have hi2 : i < MRK.length := hi
          refine ⟨_, _, MRK[i], rfl, rfl, by rw [S_len]; exact szl (by decide), by rw [ei]; exact at_S hi2, ?_⟩
          walk_at "go"
          intro T nT
          generalize eH_ : upd H T _ = H1
          have s1 : Same H H1 := by rw [← eH_]; exact same_new nT
          have eT : H1 T = some (.tup [.str "event", .str (S [MRK[i]])]) := by rw [← eH_]; exact upd_same
          clear eH_
          exact ⟨T, .ev MRK[i], _, _, _, s1, by rw [DtAt]; exact eT, by rw [Ok]; exact List.getElem_mem hi2, by rw [wt, wt]; omega, by rw [dp, dp]; omega, rfl⟩
        | en b2 =>
          rw [DtAt] at hb
          obtain ⟨M, as, hb, hM, hA⟩ := hb
          have hT : SqT K H b _ := SqT.of hb
          rw [Ok] at hpo
          rw [wt] at hpw
          rw [dp] at hpd
          walk_at "go"
          refine ⟨M, b2, _, rfl, ⟨as, hM, hA⟩, hpo, by omega, by omega, fun R l' H1 s1 hl' ok' hw' hd' => ?_⟩
          walk_at "go"
          intro T nT
          generalize eH_ : upd H1 T _ = H2
          have s2 : Same H1 H2 := by rw [← eH_]; exact same_new nT
          have eT : H2 T = some (.tup [.str "endless", .ref R]) := by rw [← eH_]; exact upd_same
          clear eH_
          obtain ⟨bs', hR, hB⟩ := hl'
          exact ⟨T, .en l', _, _, _, s1.trans s2, by rw [DtAt]; exact ⟨R, bs', eT, s2 _ _ hR, hB.mono s2 _ _⟩, by rw [Ok]; exact ok', by rw [wt, wt, gn]; omega, by rw [dp, dp]; omega, rfl⟩
        | ch o os =>
          rw [DtAt] at hb
          obtain ⟨M, as, hb, hM, hA⟩ := hb
          have hT : SqT K H b _ := SqT.of hb
          rw [Ok] at hpo
          rw [wt] at hpw
          rw [dp] at hpd
          have la := DasAt.len _ _ hA
          walk_at "go"
          refine ⟨M, _, rfl, .inl (SqL.of hM), ?_⟩
          rw [List.length_map, la]
          walk_at "go"
          have hol := hpo.2.1
          obtain ⟨i, ei, hi⟩ := modN (z / 16) (show 0 < os.length by omega)
          rw [show (fun i j : Int => V.int (i % j)) (z / 16) (os.length : Int) = V.int (i : Int) from congrArg V.int ei]
          have eo : os[i]? = some os[i] := List.getElem?_eq_getElem hi
          have om := List.mem_of_getElem? eo
          have hobw := wtLL_mem om
          have hobd := dpLL_mem om
          have hobg := gnLL_mem om
          have eos : os = os.take i ++ [os[i]] ++ os.drop (i + 1) := by
            rw [List.append_assoc, List.singleton_append, ← List.drop_eq_getElem_cons hi, List.take_append_drop]
          obtain ⟨O, eO, hO⟩ := DasAt.get _ _ hA i _ eo
          have hob := okLL_iff.mp hpo.2.2.2 _ om
          generalize os[i] = ob at *
          dsimp only [List.set]
          walk_at "go"
          refine ⟨M, _, _, .ref O, rfl, rfl, SqL.of hM, atI_nat (by rw [List.getElem?_map, eO]; rfl), ?_⟩
          walk_at "go"
          refine ⟨O, ob, _, rfl, hO, hob, by omega, by omega, fun R l' H1 s1 hl' ok' hw' hd' => ?_⟩
          have hT1 : SqT K H1 b _ := SqT.of (s1 _ _ hb)
          dsimp only [List.set]
          walk_at "go"
          have hib : i ≤ as.length := by omega
          have hib2 : i + 1 ≤ as.length := by omega
          refine ⟨M, _, rfl, SqL.of (s1 _ _ hM), ?_⟩
          rw [cutV_lo V.ref hib]
          intro R1 nR1
          generalize eH_ : upd H1 R1 _ = H8
          have s8 : Same H1 H8 := by rw [← eH_]; exact same_new nR1
          have eR1 : H8 R1 = some (.lst ((as.take i).map V.ref)) := by rw [← eH_]; exact upd_same
          clear eH_
          walk_at "go"
          intro R2 nR2
          generalize eH_ : upd H8 R2 _ = H9
          have s9 : Same H8 H9 := by rw [← eH_]; exact same_new nR2
          have eR2 : H9 R2 = some (.lst [.ref R]) := by rw [← eH_]; exact upd_same
          clear eH_
          walk_at "go"
          refine ⟨R1, R2, _, _, rfl, rfl, s9 _ _ eR1, eR2, szl (by simp only [List.length_map, List.length_take, List.length_cons, List.length_nil]; omega), ?_⟩
          intro R3 nR3
          generalize eH_ : upd H9 R3 _ = HA
          have sA : Same H9 HA := by rw [← eH_]; exact same_new nR3
          have eR3 : HA R3 = some (.lst ((as.take i).map V.ref ++ [V.ref R])) := by rw [← eH_]; exact upd_same
          clear eH_
          have hTA : SqT K HA b _ := SqT.of ((((s1.trans s8).trans s9).trans sA) _ _ hb)
          walk_at "go"
          refine ⟨M, _, rfl, SqL.of (((s8.trans s9).trans sA) _ _ (s1 _ _ hM)), ?_⟩
          rw [show ((i : Int) + 1) = ((i + 1 : Nat) : Int) from rfl, cutV_hi V.ref hib2]
          intro R4 nR4
          generalize eH_ : upd HA R4 _ = HB
          have sB : Same HA HB := by rw [← eH_]; exact same_new nR4
          have eR4 : HB R4 = some (.lst ((as.drop (i + 1)).map V.ref)) := by rw [← eH_]; exact upd_same
          clear eH_
          walk_at "go"
          refine ⟨R3, R4, _, _, rfl, rfl, sB _ _ eR3, eR4, szl (by simp only [List.length_map, List.length_append, List.length_take, List.length_drop, List.length_cons, List.length_nil]; omega), ?_⟩
          intro R5 nR5
          generalize eH_ : upd HB R5 _ = HC
          have sC : Same HB HC := by rw [← eH_]; exact same_new nR5
          have eR5 : HC R5 = some (.lst (((as.take i).map V.ref ++ [V.ref R]) ++ (as.drop (i + 1)).map V.ref)) := by rw [← eH_]; exact upd_same
          clear eH_
          walk_at "go"
          intro T nT
          generalize eH_ : upd HC T _ = HD
          have sD : Same HC HD := by rw [← eH_]; exact same_new nT
          have eT : HD T = some (.tup [.str "choice", .str (S [o]), .ref R5]) := by rw [← eH_]; exact upd_same
          clear eH_
          have s8D := ((((s8.trans s9).trans sA).trans sB).trans sC).trans sD
          have hAD := hA.mono (s1.trans s8D) _ _
          have hA1 := (DasAt.cut i _ _ hAD).1
          have hA2 := (DasAt.cut (i + 1) _ _ hAD).2
          have hm : ∀ q' ∈ os.take i ++ [l'] ++ os.drop (i + 1), q' ∈ os ∨ q' = l' := fun q' hq => by
            rcases List.mem_append.mp hq with hq | hq
            · rcases List.mem_append.mp hq with hq | hq
              · exact .inl (List.mem_of_mem_take hq)
              · exact .inr (List.mem_singleton.mp hq)
            · exact .inl (List.mem_of_mem_drop hq)
          have ew : wtLL os = wtLL (os.take i) + wtL ob + wtLL (os.drop (i + 1)) := by
            rw [congrArg wtLL eos, wtLL_app, wtLL_app, wtLL, wtLL, Nat.add_zero]
          have el : (os.take i ++ [l'] ++ os.drop (i + 1)).length = os.length := by
            simp only [List.length_append, List.length_take, List.length_drop, List.length_cons, List.length_nil]
            omega
          refine ⟨T, .ch o (os.take i ++ [l'] ++ os.drop (i + 1)), _, _, _, s1.trans s8D, ?_, ?_, ?_, ?_, rfl⟩
          · rw [DtAt]
            exact ⟨R5, as.take i ++ [R] ++ as.drop (i + 1), eT, by rw [sD _ _ eR5, List.map_append, List.map_append]; rfl, dasAt_app _ _ _ _ (dasAt_app _ _ _ _ hA1 (dasAt_one (hl'.mono s8D))) hA2⟩
          · rw [Ok, el]
            exact ⟨hpo.1, hpo.2.1, hpo.2.2.1, okLL_iff.mpr fun q' hq => (hm q' hq).elim (okLL_iff.mp hpo.2.2.2 q') (fun e => e ▸ ok')⟩
          · rw [wt, wt, gn, wtLL_app, wtLL_app, wtLL, wtLL]
            omega
          · rw [dp, dp]
            have := dpLL_all' (d := dpLL os + 1) (l := os.take i ++ [l'] ++ os.drop (i + 1)) fun q' hq => (hm q' hq).elim (fun z => Nat.le_succ_of_le (dpLL_mem z)) (fun e => e ▸ (Nat.le_trans hd' (Nat.succ_le_succ hobd)))
            omega
        | rd o b2 =>
          rw [DtAt] at hb
          obtain ⟨M, as, hb, hM, hA⟩ := hb
          have hT : SqT K H b _ := SqT.of hb
          rw [Ok] at hpo
          rw [wt] at hpw
          rw [dp] at hpd
          walk_at "go"
          refine ite2 (fun _ => ?_) (fun _ => ?_)
          · walk_at "go"
            generalize Txt.find (Str.ofString "abcdef") (S [o]) = fi
            obtain ⟨i, ei, hi⟩ := modN ((fi : Int) + 1 + z % 5) (show 0 < 6 by decide)
            have ei : ((fi : Int) + 1 + z % 5) % 6 = (i : Int) := ei
            obtain ⟨c, ec, hc⟩ := par_in hi
            refine ⟨_, _, c, rfl, rfl, by decide, by rw [ei]; exact ec, ?_⟩
            walk_at "go"
            intro T nT
            generalize eH_ : upd H T _ = H1
            have s1 : Same H H1 := by rw [← eH_]; exact same_new nT
            have eT : H1 T = some (.tup [.str "rounds", .str (S [c]), .ref M]) := by rw [← eH_]; exact upd_same
            clear eH_
            exact ⟨T, .rd c b2, _, _, _, s1, by rw [DtAt]; exact ⟨M, as, eT, s1 _ _ hM, hA.mono s1 _ _⟩, by rw [Ok]; exact ⟨hc, hpo.2⟩, by rw [wt, wt]; omega, by rw [dp, dp]; omega, rfl⟩
          · walk_at "go"
            refine ⟨M, b2, _, rfl, ⟨as, hM, hA⟩, hpo.2, by omega, by omega, fun R l' H1 s1 hl' ok' hw' hd' => ?_⟩
            walk_at "go"
            intro T nT
            generalize eH_ : upd H1 T _ = H2
            have s2 : Same H1 H2 := by rw [← eH_]; exact same_new nT
            have eT : H2 T = some (.tup [.str "rounds", .str (S [o]), .ref R]) := by rw [← eH_]; exact upd_same
            clear eH_
            obtain ⟨bs', hR, hB⟩ := hl'
            exact ⟨T, .rd o l', _, _, _, s1.trans s2, by rw [DtAt]; exact ⟨R, bs', eT, s2 _ _ hR, hB.mono s2 _ _⟩, by rw [Ok]; exact ⟨hpo.1, ok'⟩, by rw [wt, wt, gn]; omega, by rw [dp, dp]; omega, rfl⟩
        | ti c b2 =>
          rw [DtAt] at hb
          obtain ⟨M, as, hb, hM, hA⟩ := hb
          have hT : SqT K H b _ := SqT.of hb
          rw [Ok] at hpo
          rw [wt] at hpw
          rw [dp] at hpd
          walk_at "go"
          have h4 : wtL b2 ≤ wtL b2 * (if c < 1 then 1 else c) := Nat.le_mul_of_pos_right _ (by split <;> omega)
          refine ite2 (fun _ => ?_) (fun _ => ?_)
          · obtain ⟨c', ec, hc1, hc2⟩ : ∃ c' : Nat, (c : Int) + 1 - 2 * ((c : Int) / 100) = (c' : Int) ∧ c' ≤ 100 ∧ c' ≤ c + 1 := ⟨((c : Int) + 1 - 2 * ((c : Int) / 100)).toNat, by have := hpo.1; omega, by have := hpo.1; omega, by have := hpo.1; omega⟩
            walk_at "go"
            intro T nT
            generalize eH_ : upd H T _ = H1
            have s1 : Same H H1 := by rw [← eH_]; exact same_new nT
            have eT : H1 T = some (.tup [.str "times", .int ((c : Int) + 1 - 2 * ((c : Int) / 100)), .ref M]) := by rw [← eH_]; exact upd_same
            clear eH_
            rw [ec] at eT
            have h5 : (if c' < 1 then 1 else c') ≤ (if c < 1 then 1 else c) + 1 := by split <;> split <;> omega
            have h6 := Nat.mul_le_mul_left (wtL b2) h5
            rw [Nat.mul_add, Nat.mul_one] at h6
            exact ⟨T, .ti c' b2, _, _, _, s1, by rw [DtAt]; exact ⟨M, as, eT, s1 _ _ hM, hA.mono s1 _ _⟩, by rw [Ok]; exact ⟨hc1, hpo.2⟩, by rw [wt, wt, gn]; omega, by rw [dp, dp]; omega, rfl⟩
          · walk_at "go"
            refine ⟨M, b2, _, rfl, ⟨as, hM, hA⟩, hpo.2, by omega, by omega, fun R l' H1 s1 hl' ok' hw' hd' => ?_⟩
            walk_at "go"
            intro T nT
            generalize eH_ : upd H1 T _ = H2
            have s2 : Same H1 H2 := by rw [← eH_]; exact same_new nT
            have eT : H2 T = some (.tup [.str "times", .int (c : Int), .ref R]) := by rw [← eH_]; exact upd_same
            clear eH_
            obtain ⟨bs', hR, hB⟩ := hl'
            have h5 := Nat.mul_le_mul_right (if c < 1 then 1 else c) hw'
            rw [Nat.add_mul, Nat.mul_comm (gnL b2)] at h5
            exact ⟨T, .ti c l', _, _, _, s1.trans s2, by rw [DtAt]; exact ⟨R, bs', eT, s2 _ _ hR, hB.mono s2 _ _⟩, by rw [Ok]; exact ⟨hpo.1, ok'⟩, by rw [wt, wt, gn]; omega, by rw [dp, dp]; omega, rfl⟩
      · rintro σ J ⟨T, p', u4, u5, u6, s1, hT, ok', hw', hd', rfl⟩
        walk_at "go"
        have hjb : j ≤ bs.length := by omega
        have hjb2 : j + 1 ≤ bs.length := by omega
        refine ⟨L, _, rfl, SqL.of (s1 _ _ hL), ?_⟩
        rw [cutV_lo V.ref hjb]
        intro R1 nR1
        generalize eH_ : upd J R1 _ = H8
        have s8 : Same J H8 := by rw [← eH_]; exact same_new nR1
        have eR1 : H8 R1 = some (.lst ((bs.take j).map V.ref)) := by rw [← eH_]; exact upd_same
        clear eH_
        walk_at "go"
        intro R2 nR2
        generalize eH_ : upd H8 R2 _ = H9
        have s9 : Same H8 H9 := by rw [← eH_]; exact same_new nR2
        have eR2 : H9 R2 = some (.lst [.ref T]) := by rw [← eH_]; exact upd_same
        clear eH_
        walk_at "go"
        refine ⟨R1, R2, _, _, rfl, rfl, s9 _ _ eR1, eR2, szl (by simp only [List.length_map, List.length_take, List.length_cons, List.length_nil]; omega), ?_⟩
        intro R3 nR3
        generalize eH_ : upd H9 R3 _ = HA
        have sA : Same H9 HA := by rw [← eH_]; exact same_new nR3
        have eR3 : HA R3 = some (.lst ((bs.take j).map V.ref ++ [V.ref T])) := by rw [← eH_]; exact upd_same
        clear eH_
        walk_at "go"
        refine ⟨L, _, rfl, SqL.of (((s8.trans s9).trans sA) _ _ (s1 _ _ hL)), ?_⟩
        rw [show ((j : Int) + 1) = ((j + 1 : Nat) : Int) from rfl, cutV_hi V.ref hjb2]
        intro R4 nR4
        generalize eH_ : upd HA R4 _ = HB
        have sB : Same HA HB := by rw [← eH_]; exact same_new nR4
        have eR4 : HB R4 = some (.lst ((bs.drop (j + 1)).map V.ref)) := by rw [← eH_]; exact upd_same
        clear eH_
        walk_at "go"
        refine ⟨R3, R4, _, _, rfl, rfl, sB _ _ eR3, eR4, szl (by simp only [List.length_map, List.length_append, List.length_take, List.length_drop, List.length_cons, List.length_nil]; omega), ?_⟩
        intro R5 nR5
        generalize eH_ : upd HB R5 _ = HC
        have sC : Same HB HC := by rw [← eH_]; exact same_new nR5
        have eR5 : HC R5 = some (.lst (((bs.take j).map V.ref ++ [V.ref T]) ++ (bs.drop (j + 1)).map V.ref)) := by rw [← eH_]; exact upd_same
        clear eH_
        have s8C := (((s8.trans s9).trans sA).trans sB).trans sC
        have sHC := s1.trans s8C
        have hDC := hD.mono sHC _ _
        have hb1 := (DtsAt.cut j _ _ hDC).1
        have hb2 := (DtsAt.cut (j + 1) _ _ hDC).2
        have hm : ∀ q' ∈ l.take j ++ [p'] ++ l.drop (j + 1), q' ∈ l ∨ q' = p' := fun q' hq => by
          rcases List.mem_append.mp hq with hq | hq
          · rcases List.mem_append.mp hq with hq | hq
            · exact .inl (List.mem_of_mem_take hq)
            · exact .inr (List.mem_singleton.mp hq)
          · exact .inl (List.mem_of_mem_drop hq)
        have ew : wtL l = wtL (l.take j) + wt p + wtL (l.drop (j + 1)) := by
          rw [congrArg wtL etk, wtL_app, wtL_app, wtL, wtL, Nat.add_zero]
        refine q R5 (l.take j ++ [p'] ++ l.drop (j + 1)) HC sHC ⟨bs.take j ++ [T] ++ bs.drop (j + 1), by rw [eR5, List.map_append, List.map_append]; rfl, dtsAt_app _ _ _ _ (dtsAt_app _ _ _ _ hb1 (dtsAt_one (hT.mono s8C _ _))) hb2⟩ (okL_iff.mpr fun q' hq => (hm q' hq).elim (okL_iff.mp ok q') (fun e => e ▸ ok')) ?_ (dpL_all' fun q' hq => (hm q' hq).elim (fun z => Nat.le_succ_of_le (dpL_mem z)) (fun e => e ▸ (Nat.le_trans hd' (Nat.succ_le_succ hpd))))
        rw [wtL_app, wtL_app, wtL, wtL]
        omega
/-- the changes of all pacts -/
theorem all_changed (F : FnP K "_law_changed" s_changed f fd) (g : mg "_law_changed" = some (.ref f)) (b : Binds K fd P_changed []) (m_int : mg "int" = none) (m_len : mg "len" = none) (c_marks : Cal P w K mg base 1 "_law_marks" spMk_) : ∀ d, Cal P w K mg base (d + 2) "_law_changed" (spCg d)
  | 0 => cal_of F g b (no_fn fun vs H Q E h => by obtain ⟨L, l, z, _, _, _, _, h, _⟩ := h; omega)
  | d + 1 => cal_of F g b (ok_changed F m_int m_len c_marks (all_changed F g b m_int m_len c_marks d))
end
end Z
set_option pp.maxSteps 700
set_option Elab.async false
set_option linter.all false
set_option maxRecDepth 100000
set_option maxHeartbeats 4000000
open SX (S S_inj S_len S_cat)
namespace Z
open Pk NdefX
open PySem PySem.Spec PyProof.Rows L2
open C8 (pss_cut tCut)
local macro_rules | `(tactic| walk_at "num") => `(tactic| first | rfl | omega | decide | exact Nat.le_of_lt (small1000 (by simp)) | exact ⟨by omega, by omega⟩ | exact ⟨by omega, by omega, by omega⟩ | exact ⟨by decide, by decide, by decide⟩ | exact Or.inl ⟨by omega, by omega⟩ | exact Or.inr ⟨by omega, by omega⟩)
local macro_rules | `(tactic| walk_at "go") => `(tactic| repeat (first | refine ⟨_, rfl, ?_⟩ | refine ⟨_, _, rfl, rfl, ?_⟩ | refine ⟨_, _, rfl, ?_⟩ | (refine ⟨_, _, rfl, rfl, ?_, ?_⟩; focus walk_at "num") | refine Or.inl ⟨_, rfl, ?_⟩ | refine ⟨_, _, _, _, rfl, rfl, (by assumption), (by rfl), ?_⟩ | refine ⟨_, _, _, _, _, rfl, (by assumption), (by assumption), (by assumption), (by rfl), ?_⟩ | refine ⟨rfl, ?_⟩ | (refine And.intro ?_ ?_; focus walk_at "num")))
abbrev s_apart : Stmt := topS 73
abbrev N_apart : List Str := ["_law_trees", "_law_tree", "_law_built", "_law_k", "_law_m", "_law_equal"]
abbrev P_apart : List Str := ["_law_trees"]
theorem sc_apart : FnScope N_apart P_apart (defScope s_apart) := ⟨rfl, rfl, rfl, by decide +kernel, rfl, by decide +kernel, by decide +kernel⟩
section
variable {P : Program} {w : World} {K : PySem.W.Frag} {mg : Str → Option Value} {base : Heap} {f f2 : Addr} {k : Cs} {fd fd2 : FuncData}
structure TrOk (t : List Pt) : Prop where
  ok : OkL t
  wt : wtL t ≤ 400
  dp : dpL t ≤ 30
def spAp : Sp := fun vs H Q _ => ∃ (T : Addr) (Ls : List Addr) (ts : List (List Pt)), vs = [.ref T] ∧ H T = some (.lst (Ls.map V.ref)) ∧ DasAt H ts Ls ∧ (∀ t ∈ ts, TrOk t) ∧ ts.length ≤ 100 ∧ ∀ H', Same H H' → Q (.bl true) H'
theorem ok_apart (F : FnP K "_law_apart" s_apart f fd) (m_isinstance : mg "isinstance" = none) (m_len : mg "len" = none) (m_range : mg "range" = none) (m_bool : mg "bool" = none) (paK : PaK K k.P) (e_Pact : Eqo P w K mg base 1 k.P (spEq k K)) (c_build : Cal P w K mg base (2 * 31 + 6) "_law_build" (spBl k K 31)) : FnOk P w K mg base CX0 70 f fd P_apart spAp := by
  refine F.ok sc_apart (fun vs H Q E h => ?_) (fun cdv A outer s H vs Q E hr h => ?_)
  · obtain ⟨T, Ls, ts, rfl, _⟩ := h
    rfl
  · obtain ⟨T, Ls, ts, rfl, hT, hA, okt, lt, q⟩ := h
    refine ⟨_, PSs.nox (pss_cons (ps_setLc (i := 2) (own := [("_law_tree", 1)]) (g := (gName 1)) (tt := tYes) (by rfl) sc_apart.nd rfl rfl (sw_true rfl rfl rfl (by decide +kernel)) (pi_list (pv 0)) (blkOk_by (own := [("_law_tree", 1)]) (N := N_apart) (sc := defScope s_apart) (by decide +kernel)) (fun _ _ _ _ _ => (pg_name (i := 1) sc_apart.nd rfl (by first | exact .inl rfl | exact .inr rfl))) (fun _ _ _ _ _ => pts_nil) (fun _ _ _ _ _ => (pe_cl c_build hr (by decide) (by rfl) (pa_cons (pv 1) pa_nil))))
      (pss_cons (ps_for PassesOwn.never rfl (pi_range1 (by rfl) m_range (pa_cons (pe_callB call_len_seq (by rfl) m_len PySem.boot_len (pa_cons (pv 0) pa_nil)) pa_nil)) (pg_name (i := 3) sc_apart.nd rfl (by first | exact .inl rfl | exact .inr rfl))
        (pss_one (ps_for PassesOwn.never rfl (pi_range1 (by rfl) m_range (pa_cons (pe_callB call_len_seq (by rfl) m_len PySem.boot_len (pa_cons (pv 0) pa_nil)) pa_nil)) (pg_name (i := 4) sc_apart.nd rfl (by first | exact .inl rfl | exact .inr rfl))
        (pss_cons (ps_set (i := 5) sc_apart.nd rfl (by first | exact .inl rfl | exact .inr rfl) (pe_cmpR (op_own e_Pact hr (by decide)) (pe_ix ix_list (pv 2) (pv 3) (fun _ _ => rfl)) (pe_ix ix_list (pv 2) (pv 4) (fun _ _ => rfl)) (nomark _)))
      (pss_cons (ps_if (PW.pt (pw_or (pt_not (pt_val (pe_callB call_isi (by rfl) m_isinstance (by decide +kernel) (pa_cons (pv 5) (pa_cons (pe_bltn (v := .ty "bool") (by rfl) m_bool (by decide +kernel) rfl) pa_nil))))) (pw_or1 (pt_cmpR op_ne (pv 5) (pe_cmpR (op_eqP hr) (pe_ix ix_list (pv 0) (pv 3) (fun _ _ => rfl)) (pe_ix ix_list (pv 0) (pv 4) (fun _ _ => rfl)) (nomark _)) (nomark _))))) (pss_one (ps_ret pe_bl)) pss_nil)
      (pss_one (ps_if (pt_cmpR op_ne (pe_cmpR op_eq (pe_fld (pe_ix ix_list (pv 2) (pv 3) (fun _ _ => rfl)) rfl) (pe_fld (pe_ix ix_list (pv 2) (pv 4) (fun _ _ => rfl)) rfl) (nomark _)) (pe_cmpR (op_eqP hr) (pe_ix ix_list (pv 0) (pv 3) (fun _ _ => rfl)) (pe_ix ix_list (pv 0) (pv 4) (fun _ _ => rfl)) (nomark _)) (nomark _)) (pss_one (ps_ret pe_bl)) pss_nil)))))))
      (pss_one (ps_ret pe_bl)))), ?_⟩
    have la := DasAt.len _ _ hA
    walk_at "go"
    refine ⟨⟨_, SqL.of hT⟩, ?_⟩
    intro D nD
    refine lc_relL (fun i J y => ∃ x b, y = .ref x ∧ ts[i]? = some b ∧ PaAt k K J b x) (fun i X Y y s h => ?_) (SqL.of hT) (by rw [List.length_map]; omega) nD (fun x => rfl) (fun i x J Q4 ex s4 q4 => ?_) (fun J ys s4 eD ly hG => ?_)
    · obtain ⟨x, p, h1, h2, h3⟩ := h
      exact ⟨x, p, h1, h2, PaAt.monoW s h3⟩
    · obtain ⟨y, b, rfl, ep, hp⟩ := DasAt.gets _ _ hA i x ex
      have o := okt _ (List.mem_of_getElem? ep)
      walk_at "go"
      refine ⟨y, b, rfl, hp.mono s4, o.ok, o.wt, o.dp, Nat.succ_le_succ o.dp, fun z J2 s2 _ hz => q4 _ _ s2 ⟨z, b, rfl, ep, hz⟩⟩
    obtain ⟨bs, rfl⟩ := refs_of ys fun i y e => by
      obtain ⟨x, p, h1, _⟩ := hG i y e
      exact ⟨x, h1⟩
    rw [List.length_map, List.length_map, la] at ly
    have get : ∀ i, i < ts.length → ∃ (t : List Pt) (x L : Addr), ts[i]? = some t ∧ bs[i]? = some x ∧ Ls[i]? = some L ∧ PaAt k K J t x ∧ DaAt J t L ∧ TrOk t := fun i hi => by
      have e1 : ts[i]? = some ts[i] := List.getElem?_eq_getElem hi
      have e2 : bs[i]? = some bs[i] := List.getElem?_eq_getElem (by omega)
      obtain ⟨L, e3, hL⟩ := DasAt.get _ _ hA i _ e1
      obtain ⟨x, b, h1, h2, h3⟩ := hG i (.ref bs[i]) (by rw [List.getElem?_map, e2]; rfl)
      cases h1
      rw [e1] at h2
      cases h2
      exact ⟨_, _, L, e1, e2, e3, h3, hL.mono s4, okt _ (List.mem_of_getElem? e1)⟩
    walk_at "go"
    refine ⟨T, _, rfl, .inl (SqL.of (s4 _ _ hT)), ?_⟩
    rw [List.length_map, la]
    walk_at "go"
    refine for_gen (n := ts.length) (fun i σ J1 => Same J J1 ∧ ∃ u2 u3 u4 : Option V, σ = [some (.ref T), none, some (.ref D), u2, u3, u4]) ⟨Same.refl _, none, none, none, rfl⟩ ?_ ?_ ?_ ?_
    · rintro i σ J1 hi _
      show i < (ts.length : Int).toNat
      omega
    · rintro σ J1 _
      show (ts.length : Int).toNat ≤ ts.length
      omega
    · rintro i σ J1 zz J' hi ⟨s1, u2, u3, u4, rfl⟩ ⟨rfl, rfl⟩
      walk_at "go"
      refine ⟨T, _, rfl, .inl (SqL.of ((s4.trans s1) _ _ hT)), ?_⟩
      rw [List.length_map, la]
      walk_at "go"
      refine for_gen (n := ts.length) (fun m σ J2 => Same J J2 ∧ ∃ u3 u4 : Option V, σ = [some (.ref T), none, some (.ref D), some (.int (i : Int)), u3, u4]) ⟨s1, u3, u4, by rw [Int.zero_add]; rfl⟩ ?_ ?_ ?_ ?_
      · rintro m σ J1 hi _
        show m < (ts.length : Int).toNat
        omega
      · rintro σ J1 _
        show (ts.length : Int).toNat ≤ ts.length
        omega
      · rintro m σ J1 zz J2 hm ⟨s2, u3, u4, rfl⟩ ⟨rfl, rfl⟩
        obtain ⟨t1, x1, L1, a1, a2, a3, a4, a5, a6⟩ := get i hi
        obtain ⟨t2, x2, L2, b1, b2, b3, b4, b5, b6⟩ := get m hm
        obtain ⟨d1, v1, as1, c1, _⟩ := id (a4.mono s2)
        obtain ⟨d2, v2, as2, c2, _⟩ := id (b4.mono s2)
        have eT := (s4.trans s2) _ _ hT
        have eb : ∀ b : Bool, (b = true ↔ t1 = t2) → b = decide (txB t1 = txB t2) := fun b hb => Bool.eq_iff_iff.mpr (hb.trans ⟨fun e => decide_eq_true (by rw [e]), fun e => txB_inj a6.ok b6.ok (of_decide_eq_true e)⟩)
        walk_at "go"
        rw [Int.zero_add]
        refine ⟨D, _, _, .ref x1, rfl, rfl, SqL.of (s2 _ _ eD), atI_nat (by rw [List.getElem?_map, a2]; rfl), ?_⟩
        walk_at "go"
        refine ⟨D, _, _, .ref x2, rfl, rfl, SqL.of (s2 _ _ eD), atI_nat (by rw [List.getElem?_map, b2]; rfl), ?_⟩
        refine ⟨x1, x2, d1, d2, _, _, rfl, rfl, c1, c2, ⟨x1, x2, t1, t2, rfl, a4.mono s2, b4.mono s2, ⟨_, rfl, ?_⟩⟩⟩
        walk_at "go"
        refine isi (c := "bool") (b := true) (.bl _) (by decide +kernel) ?_
        walk_at "go"
        refine ⟨T, _, _, .ref L1, rfl, rfl, SqL.of eT, atI_nat (by rw [List.getElem?_map, a3]; rfl), ?_⟩
        walk_at "go"
        refine ⟨T, _, _, .ref L2, rfl, rfl, SqL.of eT, atI_nat (by rw [List.getElem?_map, b3]; rfl), ?_⟩
        refine ⟨L1, L2, t1, t2, rfl, rfl, a5.mono s2, b5.mono s2, a6.ok, b6.ok, Nat.le_trans a6.dp (by decide), fun b hb => ?_⟩
        rw [eb b hb]
        clear hb
        walk_at "go"
        refine ite2 (fun e => absurd e (by simp)) (fun _ => ?_)
        walk_at "go"
        refine ⟨D, _, _, .ref x1, rfl, rfl, SqL.of (s2 _ _ eD), atI_nat (by rw [List.getElem?_map, a2]; rfl), ?_⟩
        refine ⟨x1, k.P, d1, _, _, rfl, c1, paK.fl.cls, paK.fl.nt, rfl, ?_⟩
        walk_at "go"
        refine ⟨D, _, _, .ref x2, rfl, rfl, SqL.of (s2 _ _ eD), atI_nat (by rw [List.getElem?_map, b2]; rfl), ?_⟩
        refine ⟨x2, k.P, d2, _, _, rfl, c2, paK.fl.cls, paK.fl.nt, rfl, ?_⟩
        walk_at "go"
        refine ⟨T, _, _, .ref L1, rfl, rfl, SqL.of eT, atI_nat (by rw [List.getElem?_map, a3]; rfl), ?_⟩
        walk_at "go"
        refine ⟨T, _, _, .ref L2, rfl, rfl, SqL.of eT, atI_nat (by rw [List.getElem?_map, b3]; rfl), ?_⟩
        refine ⟨L1, L2, t1, t2, rfl, rfl, a5.mono s2, b5.mono s2, a6.ok, b6.ok, Nat.le_trans a6.dp (by decide), fun b hb => ?_⟩
        rw [eb b hb]
        clear hb
        have e : decide (V.str (S (txB t1)) = V.str (S (txB t2))) = decide (txB t1 = txB t2) := decide_eq_decide.mpr ⟨fun z => by injection z with z; exact S_inj z, fun z => by rw [z]⟩
        walk_at "go"
        rw [e]
        refine ite2 (fun e => absurd e (by simp)) (fun _ => ?_)
        exact ⟨s2, _, _, rfl⟩
      · rintro σ J1 ⟨s2, u3, u4, rfl⟩
        exact ⟨s2, _, _, _, rfl⟩
    · rintro σ J1 ⟨s1, u2, u3, u4, rfl⟩
      walk_at "go"
      exact q _ (s4.trans s1)
end
end Z
set_option Elab.async false
set_option linter.all false
set_option maxRecDepth 100000
set_option maxHeartbeats 4000000
namespace Z
open PySem PySem.Spec PyProof.Rows L2
/-! ### a op b by the class's own method -/
structure Bin2 (P : Program) (w : World) (K : PySem.W.Frag) (mg : Str → Option Value) (base : Heap) (k : Nat) (C : Addr) (m : Str) (sp : Sp) : Prop where
  ex : ∃ (f : Addr) (fd : FuncData) (ps : List Str), FnOk P w K mg base CX0 k f fd ps sp ∧ PySem.W.findIn K (.ref C) m = some (some (.ref f)) ∧ PySem.W.isFn K (.ref f) = true ∧ Binds K fd ps [] ∧ PySem.W.selfFirst K C = true
def rBin (C : Addr) (sp : Sp) : R2 := fun x y H Q => ∃ a b dx dy fs gs, x = .ref a ∧ y = .ref b ∧ H a = some (.ins C dx fs) ∧ H b = some (.ins C dy gs) ∧ sp [.ref a, .ref b] H (fun v H' => ∃ p, v = .ref p ∧ Q v H') E0
theorem op_bin {X : Cx} {k j : Nat} {C : Addr} {sp : Sp} {op : Operator} (c : Bin2 X.prog X.w X.K X.mg X.base k C (PySem.dunder op.info.2) sp) (hr : Room j X.A) (hk : k ≤ j) : OpR X (binaryOp op) (rBin C sp) := by
  intro pins s σ H x y v u Q I rx ry hq
  obtain ⟨f, fd, ps, F, hs, hf, hb, sf⟩ := c.ex
  obtain ⟨a, b, dx, dy, fs, gs, rfl, rfl, ha, hb', q⟩ := hq
  cases rx
  cases ry
  obtain ⟨mA, J, _⟩ := ins_get I.hok ha
  obtain ⟨mB, J', _⟩ := ins_get I.hok hb'
  obtain ⟨od, J, _⟩ := J.look
  obtain ⟨od', J', _⟩ := J'.look
  obtain ⟨m, hF⟩ := I.fr
  refine PySem.W.binop_K hF I.ok.mod.kin J J'.type sf hs hf ?_
  have r2 : Vals [V.ref a, V.ref b] [Value.ref a, Value.ref b] := .cons rfl (.cons rfl .nil)
  refine thn (run_fn (dvs := []) F (hr.mono hk) hb .nil pass0 I r2 q) fun r s' z => ?_
  obtain ⟨v, H', I', rv, p, rfl, q'⟩ := z
  cases rv
  exact ⟨.ref p, H', I', rfl, q'⟩
/-! ### a op n, n an int, by the class's own method, which may raise -/
structure BinI (P : Program) (w : World) (K : PySem.W.Frag) (mg : Str → Option Value) (base : Heap) (k : Nat) (C : Addr) (op : Operator) (sp : Sp) : Prop where
  ex : ∃ (f : Addr) (fd : FuncData) (ps : List Str) (fo ro : Option Value), FnOk P w K mg base (L2N.CX P w) k f fd ps sp ∧ PySem.W.findIn K (.ref C) (PySem.dunder op.info.2) = some (some (.ref f)) ∧ PySem.W.isFn K (.ref f) = true ∧ Binds K fd ps [] ∧ PySem.W.selfFirst K C = true ∧
    PySem.W.findIn K (.ref C) (dunderR op.info.2) = some none ∧ PySem.W.findIn K (.type "int") (PySem.dunder op.info.2) = some fo ∧ PySem.W.findIn K (.type "int") (dunderR op.info.2) = some ro ∧ PySem.W.subIn K (.type "int") (.ref C) = some false
def tOpE (C : Addr) (sp : Sp) (E : L2.St → XK) (ta tb : TE) : TE := fun σ H Q => ta σ H fun x H1 => tb σ H1 fun y H2 => ∃ a n dx fs, x = .ref a ∧ y = .int n ∧ H2 a = some (.ins C dx fs) ∧ sp [.ref a, .int n] H2 (fun v H' => ∃ p, v = .ref p ∧ Q v H') (E σ)
theorem pe_opE {X : Cx} {k j : Nat} {C : Addr} {sp : Sp} {op : Operator} {E : L2.St → XK} {a b : Expr} {ta tb : TE} {pos : Pos} (c : BinI X.prog X.w X.K X.mg X.base k C op sp) (hx : ∀ σ, PassesAt (L2N.CX X.prog X.w) X σ (E σ)) (hr : Room j X.A) (hk : k ≤ j) (ha : PE X a ta) (hb : PE X b tb) : PE X (.BinOp a op b pos) (tOpE C sp E ta tb) := by
  obtain ⟨f, fd, ps, fo, ro, F, hs, hf, hbi, sf, hr0, h1, h2, hsub⟩ := c.ex
  refine ⟨fun pins s σ H Q I h => ?_⟩
  refine wpAny_BinOp (binT ha hb I h fun v u s2 x y H2 I2 rx ry q => ?_)
  obtain ⟨a, n, dx, fs, rfl, rfl, ea, q⟩ := q
  cases rx
  obtain ⟨tk, rfl⟩ := ry
  obtain ⟨mA, J, _⟩ := ins_get I2.hok ea
  obtain ⟨od, J, _⟩ := J.look
  obtain ⟨m, hF⟩ := I2.fr
  refine PySem.W.ksp_binT (T := "int") (fo := fo) (ro := ro) (rc := none) hF I2.ok.mod.kin J rfl sf hs hf hr0 (.inl rfl) h1 h2 hsub ?_
  refine thn (wpAny_call (run_atE (vs := [.ref a, .int n]) (us := [.ref a, .int n tk]) F hbi (hx σ) (hr.mono hk) I2 (.cons rfl (.cons ⟨_, rfl⟩ .nil)) q)) fun r s' z => ?_
  obtain ⟨v, H', I', rv, p, rfl, q'⟩ := z
  cases rv
  exact ⟨.ref p, H', I', rfl, q'⟩
end Z
set_option pp.maxSteps 700
set_option Elab.async false
set_option linter.all false
set_option maxRecDepth 100000
set_option maxHeartbeats 4000000
open SX (S S_inj S_len S_cat)
namespace Z
open Pk NdefX
open PySem PySem.Spec PyProof.Rows L2
open C8 (pss_cut tCut)
local macro_rules | `(tactic| walk_at "num") => `(tactic| first | rfl | omega | decide | exact Nat.le_of_lt (small1000 (by simp)) | exact ⟨by omega, by omega⟩ | exact ⟨by omega, by omega, by omega⟩ | exact ⟨by decide, by decide, by decide⟩ | exact Or.inl ⟨by omega, by omega⟩ | exact Or.inr ⟨by omega, by omega⟩)
local macro_rules | `(tactic| walk_at "go") => `(tactic| repeat (first | refine ⟨_, rfl, ?_⟩ | refine ⟨_, _, rfl, rfl, ?_⟩ | refine ⟨_, _, rfl, ?_⟩ | (refine ⟨_, _, rfl, rfl, ?_, ?_⟩; focus walk_at "num") | refine Or.inl ⟨_, rfl, ?_⟩ | refine ⟨_, _, _, _, rfl, rfl, (by assumption), (by rfl), ?_⟩ | refine ⟨_, _, _, _, _, rfl, (by assumption), (by assumption), (by assumption), (by rfl), ?_⟩ | refine ⟨rfl, ?_⟩ | (refine And.intro ?_ ?_; focus walk_at "num")))
abbrev s_Pact___add__ : Stmt := inClass (topS 30) 1
abbrev N_Pact___add__ : List Str := ["self", "other"]
abbrev P_Pact___add__ : List Str := ["self", "other"]
theorem sc_Pact___add__ : FnScope N_Pact___add__ P_Pact___add__ (defScope s_Pact___add__) := ⟨rfl, rfl, rfl, by decide +kernel, rfl, by decide +kernel, by decide +kernel⟩
abbrev s_Pact___mul__ : Stmt := inClass (topS 30) 2
abbrev N_Pact___mul__ : List Str := ["self", "count"]
abbrev P_Pact___mul__ : List Str := ["self", "count"]
theorem sc_Pact___mul__ : FnScope N_Pact___mul__ P_Pact___mul__ (defScope s_Pact___mul__) := ⟨rfl, rfl, rfl, by decide +kernel, rfl, by decide +kernel, by decide +kernel⟩
/-- a op n, n an int, by the class's own method (that raises nothing) -/
structure BinJ (P : Program) (w : World) (K : PySem.W.Frag) (mg : Str → Option Value) (base : Heap) (k : Nat) (C : Addr) (op : Operator) (sp : Sp) : Prop where
  ex : ∃ (f : Addr) (fd : FuncData) (ps : List Str) (fo ro : Option Value), FnOk P w K mg base CX0 k f fd ps sp ∧ PySem.W.findIn K (.ref C) (PySem.dunder op.info.2) = some (some (.ref f)) ∧ PySem.W.isFn K (.ref f) = true ∧ Binds K fd ps [] ∧ PySem.W.selfFirst K C = true ∧
    PySem.W.findIn K (.ref C) (dunderR op.info.2) = some none ∧ PySem.W.findIn K (.type "int") (PySem.dunder op.info.2) = some fo ∧ PySem.W.findIn K (.type "int") (dunderR op.info.2) = some ro ∧ PySem.W.subIn K (.type "int") (.ref C) = some false
def rBinJ (C : Addr) (sp : Sp) : R2 := fun x y H Q => ∃ a n dx fs, x = .ref a ∧ y = .int n ∧ H a = some (.ins C dx fs) ∧ sp [.ref a, .int n] H (fun v H' => ∃ p, v = .ref p ∧ Q v H') E0
theorem op_binJ {X : Cx} {k j : Nat} {C : Addr} {sp : Sp} {op : Operator} (c : BinJ X.prog X.w X.K X.mg X.base k C op sp) (hr : Room j X.A) (hk : k ≤ j) : OpR X (binaryOp op) (rBinJ C sp) := by
  intro pins s σ H x y v u Q I rx ry hq
  obtain ⟨f, fd, ps, fo, ro, F, hs, hf, hbi, sf, hr0, h1, h2, hsub⟩ := c.ex
  obtain ⟨a, n, dx, fs, rfl, rfl, ea, q⟩ := hq
  cases rx
  obtain ⟨tk, rfl⟩ := ry
  obtain ⟨mA, J, _⟩ := ins_get I.hok ea
  obtain ⟨od, J, _⟩ := J.look
  obtain ⟨m, hF⟩ := I.fr
  refine PySem.W.ksp_binT (T := "int") (fo := fo) (ro := ro) (rc := none) hF I.ok.mod.kin J rfl sf hs hf hr0 (.inl rfl) h1 h2 hsub ?_
  have r2 : Vals [V.ref a, V.int n] [Value.ref a, Value.int n tk] := .cons rfl (.cons ⟨_, rfl⟩ .nil)
  refine thn (run_fn (dvs := []) F (hr.mono hk) hbi .nil pass0 I r2 q) fun r s' z => ?_
  obtain ⟨v, H', I', rv, p, rfl, q'⟩ := z
  cases rv
  exact ⟨.ref p, H', I', rfl, q'⟩
section
variable {P : Program} {w : World} {K : PySem.W.Frag} {mg : Str → Option Value} {base : Heap} {f C CP : Addr} {k : Cs} {fd : FuncData}
/-- p + q -/
def spAd (k : Cs) (K : PySem.W.Frag) : Sp := fun vs H Q _ => ∃ (x y : Addr) (l m : List Pt), vs = [.ref x, .ref y] ∧ PaAt k K H l x ∧ PaAt k K H m y ∧ OkL (l ++ m) ∧ wtL (l ++ m) ≤ 400 ∧ dpL (l ++ m) ≤ 30 ∧ ∀ z H', Same H H' → H z = none → PaAt k K H' (l ++ m) z → Q (.ref z) H'
theorem ok_add (F : FnM K "__add__" "Pact.__add__" s_Pact___add__ f fd) (pa : PtA K k) (y_Pact : MakY P w K mg base 4 "Pact" (spP k K)) (c_as_pact : CalX P w K mg base 1 "as_pact" (spAsP k K)) : FnOk P w K mg base CX0 6 f fd P_Pact___add__ (spAd k K) := by
  refine F.ok sc_Pact___add__ (fun vs H Q E h => ?_) (fun cdv A outer s H vs Q E hr h => ?_)
  · obtain ⟨x, y, l, m, rfl, _⟩ := h
    rfl
  · obtain ⟨x, y, l, m, rfl, hx0, hy0, ok, hw, hd, q⟩ := h
    obtain ⟨dx, t, as, hx, hT, hP⟩ := id hx0
    obtain ⟨dy, u, bs, hy, hU, hM⟩ := id hy0
    refine ⟨_, PSs.nox (pss_one (ps_ret (pe_mkY y_Pact (fun _ => passS0) hr (by decide) (by rfl) (pa_cons (pe_op op_catA (pe_fld (pv 0) rfl) (pe_fld (pe_clE c_as_pact (fun _ => passS0) hr (by decide) (by rfl) (pa_cons (pv 1) pa_nil)) rfl)) pa_nil)))), ?_⟩
    walk_at "go"
    refine ⟨x, k.P, dx, _, _, rfl, hx, pa.cP, pa.P1, rfl, ?_⟩
    walk_at "go"
    refine ⟨y, m, rfl, hy0, ?_⟩
    walk_at "go"
    refine ⟨y, k.P, dy, _, _, rfl, hy, pa.cP, pa.P1, rfl, ?_⟩
    walk_at "go"
    have la := PtsAt.len _ _ hP
    have lb := PtsAt.len _ _ hM
    have lw := len_wt (l ++ m)
    rw [List.length_append] at lw
    have hA := ptsAt_app _ _ _ _ hP hM
    refine ⟨t, u, as.map V.ref, bs.map V.ref, rfl, rfl, hT, hU, szl (by rw [List.length_map, List.length_map]; omega), fun e => ?_, fun _ e => ?_, fun _ _ p np => ?_⟩
    · have e := List.map_eq_nil_iff.mp e
      subst e
      walk_at "go"
      exact ⟨false, u, l ++ m, bs, rfl, ok, hU, hA, hw, hd, q⟩
    · have e := List.map_eq_nil_iff.mp e
      subst e
      rw [List.append_nil] at hA
      walk_at "go"
      exact ⟨false, t, l ++ m, as, rfl, ok, hT, hA, hw, hd, q⟩
    · have s1 := same_new (o := .tup (as.map V.ref ++ bs.map V.ref)) np
      have e1 : (upd H p (.tup (as.map V.ref ++ bs.map V.ref))) p = some (.tup ((as ++ bs).map V.ref)) := by rw [List.map_append]; exact upd_same
      generalize upd H p (.tup (as.map V.ref ++ bs.map V.ref)) = H1 at s1 e1
      walk_at "go"
      exact ⟨false, p, l ++ m, as ++ bs, rfl, ok, SqT.of e1, hA.mono s1 _ _, hw, hd, fun z H' s2 nz hz => q z H' (s1.trans s2) (Same.back s1 nz) hz⟩
/-- p * n -/
def spMu (k : Cs) (K : PySem.W.Frag) : Sp := fun vs H Q _ => ∃ (x : Addr) (l : List Pt) (n : Nat), vs = [.ref x, .int (n : Int)] ∧ PaAt k K H l x ∧ Ok (.ti n l) ∧ wt (.ti n l) ≤ 400 ∧ dp (.ti n l) ≤ 30 ∧ ∀ z H', Same H H' → H z = none → PaAt k K H' [.ti n l] z → Q (.ref z) H'
theorem ok_mul (F : FnM K "__mul__" "Pact.__mul__" s_Pact___mul__ f fd) (y_Pact : MakY P w K mg base 4 "Pact" (spP k K)) (y_Times : MakY P w K mg base 5 "Times" (spM k K)) : FnOk P w K mg base CX0 7 f fd P_Pact___mul__ (spMu k K) := by
  refine F.ok sc_Pact___mul__ (fun vs H Q E h => ?_) (fun cdv A outer s H vs Q E hr h => ?_)
  · obtain ⟨x, l, n, rfl, _⟩ := h
    rfl
  · obtain ⟨x, l, n, rfl, hx, ok, hw, hd, q⟩ := h
    refine ⟨_, PSs.nox (pss_one (ps_ret (pe_mkY y_Pact (fun _ => passS0) hr (by decide) (by rfl) (pa_cons (pe_lst (pa_cons (pe_mkY y_Times (fun _ => passS0) hr (by decide) (by rfl) (pa_cons (pv 1) (pa_cons (pv 0) pa_nil))) pa_nil)) pa_nil)))), ?_⟩
    walk_at "go"
    refine ⟨x, n, l, rfl, ok, hx, hw, hd, fun y H1 s1 ny hy => ?_⟩
    walk_at "go"
    intro D nD
    generalize eH_ : upd H1 D _ = H2
    have s2 : Same H1 H2 := by rw [← eH_]; exact same_new nD
    have eD : H2 D = some (.lst [.ref y]) := by rw [← eH_]; exact upd_same
    clear eH_
    walk_at "go"
    refine ⟨true, D, [.ti n l], [y], rfl, by rw [OkL, OkL]; exact ⟨ok, True.intro⟩, SqL.of eD, by rw [PtsAt]; exact ⟨y, [], rfl, hy.mono s2 _ _, by rw [PtsAt]⟩, by rw [wtL, wtL]; omega, by rw [dpL, dpL]; omega, fun z H' s3 nz hz => q z H' ((s1.trans s2).trans s3) (Same.back (s1.trans s2) nz) hz⟩
end
end Z
set_option pp.maxSteps 700
set_option Elab.async false
set_option linter.all false
set_option maxRecDepth 100000
set_option maxHeartbeats 4000000
open SX (S S_inj S_len S_cat)
namespace Z
open Pk NdefX
open PySem PySem.Spec PyProof.Rows L2
open C8 (pss_cut tCut)
local macro_rules | `(tactic| walk_at "num") => `(tactic| first | rfl | omega | decide | exact Nat.le_of_lt (small1000 (by simp)) | exact ⟨by omega, by omega⟩ | exact ⟨by omega, by omega, by omega⟩ | exact ⟨by decide, by decide, by decide⟩ | exact Or.inl ⟨by omega, by omega⟩ | exact Or.inr ⟨by omega, by omega⟩)
local macro_rules | `(tactic| walk_at "go") => `(tactic| repeat (first | refine ⟨_, rfl, ?_⟩ | refine ⟨_, _, rfl, rfl, ?_⟩ | refine ⟨_, _, rfl, ?_⟩ | (refine ⟨_, _, rfl, rfl, ?_, ?_⟩; focus walk_at "num") | refine Or.inl ⟨_, rfl, ?_⟩ | refine ⟨_, _, _, _, rfl, rfl, (by assumption), (by rfl), ?_⟩ | refine ⟨_, _, _, _, _, rfl, (by assumption), (by assumption), (by assumption), (by rfl), ?_⟩ | refine ⟨rfl, ?_⟩ | (refine And.intro ?_ ?_; focus walk_at "num")))
abbrev s_law : Stmt := topS 74
abbrev N_law : List Str := ["_law_script", "_law_turns", "_law_pact_here", "_law_cell_here", "_law_other", "_law_first", "_law_second", "_law_part_here", "_law_third", "_law_many", "_law_count", "_law_tree", "_law_trees"]
abbrev P_law : List Str := ["_law_script"]
theorem sc_law : FnScope N_law P_law (defScope s_law) := ⟨rfl, rfl, rfl, by decide +kernel, rfl, by decide +kernel, by decide +kernel⟩
theorem wtL_rev : ∀ l : List Pt, wtL l.reverse = wtL l
  | [] => rfl
  | p :: l => by
    rw [List.reverse_cons, wtL_app, wtL_rev l, wtL, wtL, wtL]
    omega
theorem dtsAt_rev {H : Hp} : ∀ (l : List Pt) (as : List Addr), DtsAt H l as → DtsAt H l.reverse as.reverse
  | [], as, h => by
    rw [DtsAt] at h
    subst h
    exact (by rw [List.reverse_nil, DtsAt]; rfl)
  | p :: l, as, h => by
    rw [DtsAt] at h
    obtain ⟨a, r, rfl, h1, h2⟩ := h
    rw [List.reverse_cons, List.reverse_cons]
    exact dtsAt_app _ _ _ _ (dtsAt_rev l r h2) (dtsAt_one h1)
/-- what the law holds all the time -/
structure L7 (k : Cs) (K : PySem.W.Frag) (J : Hp) (t L M x y : Addr) (ts : List Int) (l m : List Pt) : Prop where
  et : SqL K J t (ts.map V.int)
  hts : Dr 8 ts
  hL : DaAt J l L
  pl : Pb l 400 30
  hM : DaAt J m M
  pm : Pb m 60 3
  hx : PaAt k K J l x
  hy : PaAt k K J m y
theorem L7.mono {k : Cs} {K : PySem.W.Frag} {J J' : Hp} {t L M x y : Addr} {ts : List Int} {l m : List Pt} (h : L7 k K J t L M x y ts l m) (s : Same J J') : L7 k K J' t L M x y ts l m := ⟨s.seq h.et, h.hts, h.hL.mono s, h.pl, h.hM.mono s, h.pm, h.hx.mono s, h.hy.mono s⟩
section
variable {P : Program} {w : World} {K : PySem.W.Frag} {mg : Str → Option Value} {base : Heap} {f f2 : Addr} {k : Cs} {fd fd2 : FuncData}
theorem law_t11 (F : FnP K "law" s_law f fd) (m_int : mg "int" = none) (m_min : mg "min" = none) (m_max : mg "max" = none) (o_mul : BinJ P w K mg base 7 k.P .Mult (spMu k K)) (c_weight : Cal P w K mg base (2 * 31 + 6) "_law_weight" (spWl 31)) (c_build : Cal P w K mg base (2 * 31 + 6) "_law_build" (spBl k K 31)) (c_back : Cal P w K mg base 133 "_law_back" (spBa k K)) (c_cut : Cal P w K mg base (2 * 31 + 8) "_law_cut" (spCut 31)) (c_changed : Cal P w K mg base 33 "_law_changed" (spCg 31)) (c_apart : Cal P w K mg base 70 "_law_apart" spAp) {cdv : Value} {A : Around} {outer : List Env} {s : Shared} {H : Hp} {E : XK} (hr : Room 134 (A.deeper (envOfC "law" (defScope s_law) s.heap.objs.size f cdv))) :
    ∃ t', PSs (cxOf CX0 P w K mg base N_law "law" (defScope s_law) f cdv A outer s H E).nox ((defBody s_law).drop 11) t' ∧ ∀ (D : Ends) (J : Hp) (a t L M x y N z : Addr) (ts : List Int) (l m n : List Pt) (v3 : Option V), L7 k K J t L M x y ts l m → DaAt J n N → Pb n 150 29 → (∀ H', D.rt (.bl true) H') → t' D [some (.ref a), some (.ref t), some (.ref L), v3, some (.ref M), some (.ref x), some (.ref y), some (.ref N), some (.ref z), none, none, none, none] J := by
  refine ⟨_, (pss_cons (ps_set (i := 9) sc_law.nd rfl (by first | exact .inl rfl | exact .inr rfl) (pe_callB (call_min2 rfl) (by rfl) m_min (by decide +kernel) (pa_cons pe_int (pa_cons (pe_op op_fdiv pe_int (pe_callB (call_max2 rfl) (by rfl) m_max (by decide +kernel) (pa_cons pe_int (pa_cons (pe_cl c_weight hr (by decide) (by rfl) (pa_cons (pv 7) pa_nil)) pa_nil)))) pa_nil))))
      (pss_cons (ps_set (i := 10) sc_law.nd rfl (by first | exact .inl rfl | exact .inr rfl) (pe_op op_mod (pe_callTy call_int1 (by rfl) m_int (by decide +kernel) (pa_cons (pe_ix ix_list (pv 1) pe_int (fun _ _ => rfl)) pa_nil)) (pe_op op_add (pv 9) pe_int)))
      (pss_cons (ps_if (pt_not (pt_val (pe_cl c_back hr (by decide) (by rfl) (pa_cons (pe_op (op_binJ o_mul hr (by decide)) (pe_cl c_build hr (by decide) (by rfl) (pa_cons (pv 7) pa_nil)) (pv 10)) (pa_cons (pe_lst (pa_cons (pe_tup (pa_cons pe_str (pa_cons (pv 10) (pa_cons (pv 7) pa_nil)))) pa_nil)) pa_nil))))) (pss_one (ps_ret pe_bl)) pss_nil)
      (pss_cons (ps_set (i := 11) sc_law.nd rfl (by first | exact .inl rfl | exact .inr rfl) (pe_cl c_cut hr (by decide) (by rfl) (pa_cons (pv 7) (pa_cons pe_int pa_nil))))
      (pss_cons (ps_set (i := 12) sc_law.nd rfl (by first | exact .inl rfl | exact .inr rfl) (pe_lst (pa_cons (pv 11) (pa_cons (pv 4) (pa_cons (pe_revL (pv 11)) (pa_cons (pe_op op_cat (pv 11) (pv 11)) (pa_cons (pe_cl c_changed hr (by decide) (by rfl) (pa_cons (pv 11) (pa_cons (pe_ix ix_list (pv 1) pe_int (fun _ _ => rfl)) pa_nil))) (pa_cons (pe_lst (pa_cons (pe_tup (pa_cons pe_str (pa_cons pe_int (pa_cons (pv 11) pa_nil)))) pa_nil)) (pa_cons (pe_lst (pa_cons (pe_tup (pa_cons pe_str (pa_cons (pv 11) pa_nil))) pa_nil)) pa_nil)))))))))
      (pss_cons (ps_set (i := 12) sc_law.nd rfl (by first | exact .inl rfl | exact .inr rfl) (pe_op op_cat (pv 12) (pe_lst (pa_cons (pe_lst (pa_cons (pe_tup (pa_cons pe_str (pa_cons (pe_ix ix_str pe_str (pe_op op_mod (pe_callTy call_int1 (by rfl) m_int (by decide +kernel) (pa_cons (pe_ix ix_list (pv 1) pe_int (fun _ _ => rfl)) pa_nil)) pe_int) (fun _ _ => rfl)) (pa_cons (pv 11) pa_nil)))) pa_nil)) (pa_cons (pe_lst (pa_cons (pe_tup (pa_cons pe_str (pa_cons (pe_ix ix_str pe_str (pe_op op_mod (pe_callTy call_int1 (by rfl) m_int (by decide +kernel) (pa_cons (pe_ix ix_list (pv 1) pe_int (fun _ _ => rfl)) pa_nil)) pe_int) (fun _ _ => rfl)) (pa_cons (pe_lst (pa_cons (pv 11) (pa_cons (pv 4) pa_nil))) pa_nil)))) pa_nil)) pa_nil)))))
      (pss_cons (ps_if (pt_not (pt_val (pe_cl c_apart hr (by decide) (by rfl) (pa_cons (pv 12) pa_nil)))) (pss_one (ps_ret pe_bl)) pss_nil)
      (pss_one (ps_ret (pe_and (pe_cl c_back hr (by decide) (by rfl) (pa_cons (pv 6) (pa_cons (pv 4) pa_nil))) (pe_one (pe_cl c_back hr (by decide) (by rfl) (pa_cons (pv 5) (pa_cons (pv 2) pa_nil)))))))))))))), fun D J a t L M x y N z ts l m n v3 h7 hN pn qq => ?_⟩
  walk_at "go"
  refine ⟨N, n, rfl, hN, pn.ok, Nat.le_trans pn.wt (by decide), by have := pn.dp; omega, fun J1 s1 => ?_⟩
  have h7 := h7.mono s1
  have hN := hN.mono s1
  clear s1
  have hw := pn.wt
  have hd := pn.dp
  obtain ⟨mn, emn, hm1, hm2⟩ : ∃ mn : Nat, (if (399 / if (wtL n : Int) > 1 then (wtL n : Int) else 1) < 100 then 399 / (if (wtL n : Int) > 1 then (wtL n : Int) else 1) else 100) = (mn : Int) ∧ mn ≤ 100 ∧ mn * max 1 (wtL n) ≤ 399 := by
    have eW : (if (wtL n : Int) > 1 then (wtL n : Int) else 1) = ((max 1 (wtL n) : Nat) : Int) := by split <;> omega
    rw [eW]
    generalize max 1 (wtL n) = W
    have eD : (399 : Int) / (W : Int) = ((399 / W : Nat) : Int) := rfl
    have hD := Nat.div_mul_le_self 399 W
    rw [eD]
    generalize 399 / W = q at hD
    rcases Nat.lt_or_ge q 100 with c | c
    · exact ⟨q, by rw [if_pos (by omega)], by omega, hD⟩
    · exact ⟨100, by rw [if_neg (by omega)]; rfl, Nat.le_refl _, Nat.le_trans (Nat.mul_le_mul_right W c) hD⟩
  walk_at "go"
  rw [emn]
  refine rd_at h7.et (by decide) (by rw [h7.hts.1]; decide) ?_
  generalize ts.getD (3 : Int).toNat 0 = r3
  dsimp only [List.set]
  walk_at "go"
  obtain ⟨c, ec, hc⟩ := modN r3 (show 0 < mn + 1 by omega)
  have hc := Nat.le_of_lt_succ hc
  have hok : Ok (.ti c n) := by rw [Ok]; exact ⟨by omega, pn.ok⟩
  have hwt : wt (.ti c n) ≤ 400 := by
    rw [wt]
    rcases Nat.lt_or_ge c 1 with z | z
    · rw [if_pos z]; omega
    · rw [if_neg (by omega)]
      have z1 := Nat.mul_le_mul hc (show wtL n ≤ max 1 (wtL n) by omega)
      rw [Nat.mul_comm c] at z1
      omega
  have hdp : dp (.ti c n) ≤ 30 := by rw [dp]; omega
  have ec2 : r3 % ((mn : Int) + 1) = (c : Int) := ec
  rw [show (fun i j : Int => V.int (i % j)) r3 ((mn : Int) + 1) = V.int (c : Int) from congrArg V.int ec2]
  dsimp only [List.set]
  walk_at "go"
  refine ⟨N, n, rfl, hN, pn.ok, by omega, by omega, by omega, fun u J2 s2 _ hu => ?_⟩
  walk_at "go"
  obtain ⟨du, tu, au, eu, _⟩ := id hu
  refine ⟨u, (c : Int), du, _, rfl, rfl, eu, ⟨u, n, c, rfl, hu, hok, hwt, hdp, fun v J3 s3 _ hv => ⟨v, rfl, ?_⟩⟩⟩
  walk_at "go"
  intro T nT
  generalize eH_ : upd J3 T _ = J4
  have s4 : Same J3 J4 := by rw [← eH_]; exact same_new nT
  have eT : J4 T = some (.tup [.str "times", .int (c : Int), .ref N]) := by rw [← eH_]; exact upd_same
  clear eH_
  walk_at "go"
  intro R nR
  generalize eH_ : upd J4 R _ = J5
  have s5 : Same J4 J5 := by rw [← eH_]; exact same_new nR
  have eR : J5 R = some (.lst [.ref T]) := by rw [← eH_]; exact upd_same
  clear eH_
  walk_at "go"
  have s25 := ((s2.trans s3).trans s4).trans s5
  obtain ⟨as, eN, hA⟩ := hN.mono s25
  refine ⟨v, R, [.ti c n], rfl, hv.mono (s4.trans s5), ⟨[T], eR, dtsAt_one (by rw [DtAt]; exact ⟨N, as, s5 _ _ eT, eN, hA⟩)⟩, by rw [OkL, OkL]; exact ⟨hok, True.intro⟩, by rw [wtL, wtL]; omega, by rw [dpL, dpL]; omega, fun J6 s6 => ?_⟩
  have h7 := h7.mono (s25.trans s6)
  have hN : DaAt J6 n N := DaAt.mono s6 ⟨as, eN, hA⟩
  clear hu eu hv eT eR s25 s2 s3 s4 s5 s6 eN hA
  walk_at "go"
  refine ⟨N, n, 40, rfl, hN, pn.ok, by omega, by omega, fun B b bs J7 s7 _ eB hB okb wb db lenb memb => ?_⟩
  have h7 := h7.mono s7
  have hB := hB.mono s7 _ _
  have lbs := DtsAt.len _ _ hB
  have lbw := len_wt b
  have gb : gnL b ≤ 120 := by
    have := gnL_all fun p hp => pn.go p (memb p hp)
    omega
  have hpm := h7.pm
  have hmw := hpm.wt
  have hmd := hpm.dp
  clear hN s7
  dsimp only [List.set]
  walk_at "go"
  refine ⟨B, _, rfl, SqL.of eB, fun B2 nB2 => ?_⟩
  have s8 := same_new (o := .lst (bs.map V.ref).reverse) nB2
  have eB2 : (upd J7 B2 (.lst (bs.map V.ref).reverse)) B2 = some (.lst (bs.reverse.map V.ref)) := by rw [upd_same, List.map_reverse]
  generalize upd J7 B2 (.lst (bs.map V.ref).reverse) = J8 at s8 eB2 ⊢
  walk_at "go"
  refine ⟨B, B, _, _, rfl, rfl, s8 _ _ eB, s8 _ _ eB, szl (by rw [List.length_map]; omega), ?_⟩
  intro B3 nB3
  generalize eH_ : upd J8 B3 _ = J9
  have s9 : Same J8 J9 := by rw [← eH_]; exact same_new nB3
  have eB3 : J9 B3 = some (.lst (bs.map V.ref ++ bs.map V.ref)) := by rw [← eH_]; exact upd_same
  clear eH_
  walk_at "go"
  have h9 := h7.mono (s8.trans s9)
  refine rd_at h9.et (by decide) (by rw [h9.hts.1]; decide) ?_
  generalize ts.getD (4 : Int).toNat 0 = r4
  walk_at "go"
  refine ⟨B, b, r4, rfl, ⟨bs, (s8.trans s9) _ _ eB, hB.mono (s8.trans s9) _ _⟩, okb, by omega, by omega, fun B4 c4 JA sA hB4 ok4 w4 d4 => ?_⟩
  walk_at "go"
  intro T5 nT5
  generalize eH_ : upd JA T5 _ = JB
  have sB : Same JA JB := by rw [← eH_]; exact same_new nT5
  have eT5 : JB T5 = some (.tup [.str "times", .int 1, .ref B]) := by rw [← eH_]; exact upd_same
  clear eH_
  walk_at "go"
  intro B5 nB5
  generalize eH_ : upd JB B5 _ = JC
  have sC : Same JB JC := by rw [← eH_]; exact same_new nB5
  have eB5 : JC B5 = some (.lst [.ref T5]) := by rw [← eH_]; exact upd_same
  clear eH_
  walk_at "go"
  intro T6 nT6
  generalize eH_ : upd JC T6 _ = JD
  have sD : Same JC JD := by rw [← eH_]; exact same_new nT6
  have eT6 : JD T6 = some (.tup [.str "endless", .ref B]) := by rw [← eH_]; exact upd_same
  clear eH_
  walk_at "go"
  intro B6 nB6
  generalize eH_ : upd JD B6 _ = JE
  have sE : Same JD JE := by rw [← eH_]; exact same_new nB6
  have eB6 : JE B6 = some (.lst [.ref T6]) := by rw [← eH_]; exact upd_same
  clear eH_
  walk_at "go"
  intro W1 nW1
  generalize eH_ : upd JE W1 _ = JF
  have sF : Same JE JF := by rw [← eH_]; exact same_new nW1
  have eW1 : JF W1 = some (.lst [.ref B, .ref M, .ref B2, .ref B3, .ref B4, .ref B5, .ref B6]) := by rw [← eH_]; exact upd_same
  clear eH_
  have s8F := ((((((s8.trans s9).trans sA).trans sB).trans sC).trans sD).trans sE).trans sF
  have hF := h7.mono s8F
  dsimp only [List.set]
  walk_at "go"
  refine rd_at hF.et (by decide) (by rw [hF.hts.1]; decide) ?_
  generalize ts.getD (5 : Int).toNat 0 = r5
  obtain ⟨j5, e5, hj5⟩ := modN r5 (show 0 < 6 by decide)
  have e5 : r5 % 6 = (j5 : Int) := e5
  obtain ⟨o5, f5, ho5⟩ := par_in hj5
  walk_at "go"
  refine ⟨_, _, o5, rfl, rfl, by decide, by rw [e5]; exact f5, ?_⟩
  walk_at "go"
  intro T7 nT7
  generalize eH_ : upd JF T7 _ = JG
  have sG : Same JF JG := by rw [← eH_]; exact same_new nT7
  have eT7 : JG T7 = some (.tup [.str "rounds", .str (S [o5]), .ref B]) := by rw [← eH_]; exact upd_same
  clear eH_
  walk_at "go"
  intro B7 nB7
  generalize eH_ : upd JG B7 _ = JH
  have sH : Same JG JH := by rw [← eH_]; exact same_new nB7
  have eB7 : JH B7 = some (.lst [.ref T7]) := by rw [← eH_]; exact upd_same
  clear eH_
  walk_at "go"
  refine rd_at (hF.mono (sG.trans sH)).et (by decide) (by rw [hF.hts.1]; decide) ?_
  generalize ts.getD (6 : Int).toNat 0 = r6
  obtain ⟨j6, e6, hj6⟩ := modN r6 (show 0 < 6 by decide)
  have e6 : r6 % 6 = (j6 : Int) := e6
  obtain ⟨o6, f6, ho6⟩ := par_in hj6
  walk_at "go"
  refine ⟨_, _, o6, rfl, rfl, by decide, by rw [e6]; exact f6, ?_⟩
  walk_at "go"
  intro O8 nO8
  generalize eH_ : upd JH O8 _ = JI
  have sI : Same JH JI := by rw [← eH_]; exact same_new nO8
  have eO8 : JI O8 = some (.lst [.ref B, .ref M]) := by rw [← eH_]; exact upd_same
  clear eH_
  walk_at "go"
  intro T8 nT8
  generalize eH_ : upd JI T8 _ = JK
  have sK : Same JI JK := by rw [← eH_]; exact same_new nT8
  have eT8 : JK T8 = some (.tup [.str "choice", .str (S [o6]), .ref O8]) := by rw [← eH_]; exact upd_same
  clear eH_
  walk_at "go"
  intro B8 nB8
  generalize eH_ : upd JK B8 _ = JL
  have sL : Same JK JL := by rw [← eH_]; exact same_new nB8
  have eB8 : JL B8 = some (.lst [.ref T8]) := by rw [← eH_]; exact upd_same
  clear eH_
  walk_at "go"
  intro W2 nW2
  generalize eH_ : upd JL W2 _ = JM
  have sM : Same JL JM := by rw [← eH_]; exact same_new nW2
  have eW2 : JM W2 = some (.lst [.ref B7, .ref B8]) := by rw [← eH_]; exact upd_same
  clear eH_
  walk_at "go"
  have sGM := ((((sG.trans sH).trans sI).trans sK).trans sL).trans sM
  refine ⟨W1, W2, _, _, rfl, rfl, sGM _ _ eW1, eW2, szl (show 7 + 2 ≤ 100000 by decide), ?_⟩
  intro W3 nW3
  generalize eH_ : upd JM W3 _ = JN
  have sN : Same JM JN := by rw [← eH_]; exact same_new nW3
  have eW3 : JN W3 = some (.lst ([.ref B, .ref M, .ref B2, .ref B3, .ref B4, .ref B5, .ref B6] ++ [.ref B7, .ref B8])) := by rw [← eH_]; exact upd_same
  clear eH_
  dsimp only [List.set]
  walk_at "go"
  have sGN := sGM.trans sN
  have s8N := s8F.trans sGN
  have hN7 := h7.mono s8N
  have hBN : DaAt JN b B := ⟨bs, s8N _ _ eB, hB.mono s8N _ _⟩
  have hB7 := hB.mono s8N _ _
  have s9N : Same J9 JN := ((((((sA.trans sB).trans sC).trans sD).trans sE).trans sF).trans sGN)
  have sBN : Same JB JN := (((sC.trans sD).trans sE).trans sF).trans sGN
  have sDN : Same JD JN := (sE.trans sF).trans sGN
  have one : ∀ (Bx Tx : Addr) (p : Pt), JN Bx = some (.lst [.ref Tx]) → DtAt JN p Tx → DaAt JN [p] Bx := fun Bx Tx p h1 h2 => ⟨[Tx], h1, dtsAt_one h2⟩
  have hT5 : DtAt JN (.ti 1 b) T5 := by rw [DtAt]; exact ⟨B, bs, sBN _ _ eT5, s8N _ _ eB, hB7⟩
  have hT6 : DtAt JN (.en b) T6 := by rw [DtAt]; exact ⟨B, bs, sDN _ _ eT6, s8N _ _ eB, hB7⟩
  have hT7 : DtAt JN (.rd o5 b) T7 := by rw [DtAt]; exact ⟨B, bs, ((((((sH.trans sI).trans sK).trans sL).trans sM).trans sN)) _ _ eT7, s8N _ _ eB, hB7⟩
  obtain ⟨ms, eM, hMs⟩ := id hN7.hM
  have hT8 : DtAt JN (.ch o6 [b, m]) T8 := by
    rw [DtAt]
    exact ⟨O8, [B, M], ((sL.trans sM).trans sN) _ _ eT8, (((sK.trans sL).trans sM).trans sN) _ _ eO8, by rw [DasAt]; exact ⟨B, [M], rfl, hBN, dasAt_one hN7.hM⟩⟩
  have trb : TrOk b := ⟨okb, by omega, by omega⟩
  have trm : TrOk m := ⟨hpm.ok, by omega, by omega⟩
  have k1 : Ok (.ti 1 b) := by rw [Ok]; exact ⟨by decide, okb⟩
  have k2 : Ok (.en b) := by rw [Ok]; exact okb
  have k3 : Ok (.rd o5 b) := by rw [Ok]; exact ⟨ho5, okb⟩
  have k4 : Ok (.ch o6 [b, m]) := by rw [Ok, OkLL, OkLL, OkLL]; exact ⟨ho6, (show 2 ≤ 2 by decide), (show 2 ≤ 6 by decide), okb, hpm.ok, True.intro⟩
  have tr1 : ∀ p : Pt, Ok p → wt p ≤ 400 → dp p ≤ 30 → TrOk [p] := fun p k1 k2 k3 => ⟨by rw [OkL, OkL]; exact ⟨k1, True.intro⟩, by rw [wtL, wtL]; omega, by rw [dpL, dpL]; omega⟩
  have dc : ∀ {b : List Pt} {x : Addr} {l : List (List Pt)} {r : List Addr}, DaAt JN b x → DasAt JN l r → DasAt JN (b :: l) (x :: r) := fun h1 h2 => by rw [DasAt]; exact ⟨_, _, rfl, h1, h2⟩
  refine ⟨W3, [B, M, B2, B3, B4, B5, B6, B7, B8], [b, m, b.reverse, b ++ b, c4, [.ti 1 b], [.en b], [.rd o5 b], [.ch o6 [b, m]]], rfl, eW3, ?_, ?_, (show 9 ≤ 100 by decide), fun JO sO => ?_⟩
  · refine dc hBN (dc hN7.hM (dc ⟨bs.reverse, (s9.trans s9N) _ _ eB2, dtsAt_rev _ _ hB7⟩ (dc ⟨bs ++ bs, by rw [s9N _ _ eB3, List.map_append], dtsAt_app _ _ _ _ hB7 hB7⟩ (dc (hB4.mono ((((((sB.trans sC).trans sD).trans sE).trans sF).trans sGN))) (dc (one _ _ _ (((sD.trans sE).trans sF).trans sGN _ _ eB5) hT5) (dc (one _ _ _ ((sF.trans sGN) _ _ eB6) hT6) (dc (one _ _ _ (((((sI.trans sK).trans sL).trans sM).trans sN) _ _ eB7) hT7) (dc (one _ _ _ ((sM.trans sN) _ _ eB8) hT8) (by rw [DasAt])))))))))
  · intro t' ht
    simp only [List.mem_cons, List.not_mem_nil, or_false] at ht
    rcases ht with rfl | rfl | rfl | rfl | rfl | rfl | rfl | rfl | rfl
    · exact trb
    · exact trm
    · exact ⟨okL_iff.mpr fun p hp => okL_iff.mp okb p (List.mem_reverse.mp hp), by rw [wtL_rev]; omega, dpL_all' fun p hp => Nat.le_trans (dpL_mem (List.mem_reverse.mp hp)) trb.dp⟩
    · exact ⟨okL_iff.mpr fun p hp => (List.mem_append.mp hp).elim (okL_iff.mp okb p) (okL_iff.mp okb p), by rw [wtL_app]; omega, by rw [dpL_app]; omega⟩
    · exact ⟨ok4, by omega, by omega⟩
    · exact tr1 _ k1 (by rw [wt]; show wtL b * 1 + 1 ≤ 400; omega) (by rw [dp]; omega)
    · exact tr1 _ k2 (by rw [wt]; omega) (by rw [dp]; omega)
    · exact tr1 _ k3 (by rw [wt]; omega) (by rw [dp]; omega)
    · exact tr1 _ k4 (by rw [wt, wtLL, wtLL, wtLL]; omega) (by rw [dp, dpLL, dpLL, dpLL]; omega)
  have h7 := hN7.mono sO
  walk_at "go"
  refine ⟨y, M, m, rfl, h7.hy, h7.hM, hpm.ok, by omega, by omega, fun JP sP => ?_⟩
  walk_at "go"
  have h7 := h7.mono sP
  refine ⟨x, L, l, rfl, h7.hx, h7.hL, h7.pl.ok, h7.pl.wt, h7.pl.dp, fun JQ sQ => ?_⟩
  exact qq JQ
end
end Z
set_option pp.maxSteps 700
set_option Elab.async false
set_option linter.all false
set_option maxRecDepth 100000
set_option maxHeartbeats 4000000
open SX (S S_inj S_len S_cat)
namespace Z
open Pk NdefX
open PySem PySem.Spec PyProof.Rows L2
open C8 (pss_cut tCut)
local macro_rules | `(tactic| walk_at "num") => `(tactic| first | rfl | omega | decide | exact Nat.le_of_lt (small1000 (by simp)) | exact ⟨by omega, by omega⟩ | exact ⟨by omega, by omega, by omega⟩ | exact ⟨by decide, by decide, by decide⟩ | exact Or.inl ⟨by omega, by omega⟩ | exact Or.inr ⟨by omega, by omega⟩)
local macro_rules | `(tactic| walk_at "go") => `(tactic| repeat (first | refine ⟨_, rfl, ?_⟩ | refine ⟨_, _, rfl, rfl, ?_⟩ | refine ⟨_, _, rfl, ?_⟩ | (refine ⟨_, _, rfl, rfl, ?_, ?_⟩; focus walk_at "num") | refine Or.inl ⟨_, rfl, ?_⟩ | refine ⟨_, _, _, _, rfl, rfl, (by assumption), (by rfl), ?_⟩ | refine ⟨_, _, _, _, _, rfl, (by assumption), (by assumption), (by assumption), (by rfl), ?_⟩ | refine ⟨rfl, ?_⟩ | (refine And.intro ?_ ?_; focus walk_at "num")))
theorem cutV_pre {α : Type} (f : α → V) {xs : List α} {n : Nat} : cutV (xs.map f) none (some (n : Int)) = (xs.take n).map f := by
  rcases Nat.le_total n xs.length with h | h
  · exact cutV_lo f h
  · unfold cutV
    rw [List.length_map, HT.sIx_nat, Nat.min_eq_right h, show HT.sIx xs.length 0 none = 0 from rfl, List.drop_zero, Nat.sub_zero, ← List.map_take, List.take_of_length_le (Nat.le_refl _), List.take_of_length_le h]
theorem cutV_any {α : Type} (f : α → V) {xs : List α} {a b : Nat} : ∃ ms : List α, cutV (xs.map f) (some (a : Int)) (some (b : Int)) = ms.map f ∧ ms.length ≤ b := by
  unfold cutV
  rw [List.length_map, HT.sIx_nat, HT.sIx_nat]
  refine ⟨(xs.drop (min a xs.length)).take (min b xs.length - min a xs.length), by rw [List.map_take, List.map_drop], ?_⟩
  rw [List.length_take]
  omega
section
variable {P : Program} {w : World} {K : PySem.W.Frag} {mg : Str → Option Value} {base : Heap} {f f2 : Addr} {k : Cs} {fd fd2 : FuncData}
def spLaw (K : PySem.W.Frag) : Sp := fun vs H Q _ => ∃ (a : Addr) (ns : List Int), vs = [.ref a] ∧ SqL K H a (ns.map V.int) ∧ ∀ H', Q (.bl true) H'
theorem ok_law (F : FnP K "law" s_law f fd) (m_int : mg "int" = none) (m_min : mg "min" = none) (m_max : mg "max" = none) (o_add : Bin2 P w K mg base 6 k.P "__add__" (spAd k K)) (o_mul : BinJ P w K mg base 7 k.P .Mult (spMu k K)) (c_cell : Cal P w K mg base 1 "_law_cell" (spCell K)) (c_draws : Cal P w K mg base 1 "_law_draws" spDraws) (c_marks : Cal P w K mg base 1 "_law_marks" spMk_) (c_pact : Cal P w K mg base (2 * 2 + 8) "_law_pact" (spPc K 3)) (c_part : Cal P w K mg base (2 * 2 + 7) "_law_part" (spPp K 2)) (c_drawn : Cal P w K mg base (2 * 5 + 9) "_law_drawn" (spDn K)) (c_weight : Cal P w K mg base (2 * 31 + 6) "_law_weight" (spWl 31)) (c_depth : Cal P w K mg base (2 * 31 + 6) "_law_depth" (spDl 31)) (c_build : Cal P w K mg base (2 * 31 + 6) "_law_build" (spBl k K 31)) (c_back : Cal P w K mg base 133 "_law_back" (spBa k K)) (c_cut : Cal P w K mg base (2 * 31 + 8) "_law_cut" (spCut 31)) (c_changed : Cal P w K mg base 33 "_law_changed" (spCg 31)) (c_apart : Cal P w K mg base 70 "_law_apart" spAp) : FnOk P w K mg base CX0 135 f fd P_law (spLaw K) := by
  refine F.ok sc_law (fun vs H Q E h => ?_) (fun cdv A outer s H vs Q E hr h => ?_)
  · obtain ⟨a, ns, rfl, _⟩ := h
    rfl
  · obtain ⟨a, ns, rfl, hS, qq⟩ := h
    obtain ⟨t11, h11, w11⟩ := law_t11 (P := P) (w := w) (base := base) (outer := outer) (H := H) (E := E) F m_int m_min m_max o_mul c_weight c_build c_back c_cut c_changed c_apart hr
    refine ⟨_, PSs.nox (pss_cons (ps_set (i := 1) sc_law.nd rfl (by first | exact .inl rfl | exact .inr rfl) (pe_cl c_draws hr (by decide) (by rfl) (pa_cons (pe_cl c_cell hr (by decide) (by rfl) (pa_cons (pv 0) (pa_cons pe_int pa_nil))) (pa_cons pe_int pa_nil))))
      (pss_cons (ps_set (i := 2) sc_law.nd rfl (by first | exact .inl rfl | exact .inr rfl) (pe_cl c_drawn hr (by decide) (by rfl) (pa_cons (pv 0) (pa_cons (pv 1) pa_nil))))
      (pss_cut (ps_if (pt_cmpR op_lt (pe_op op_mod (pe_callTy call_int1 (by rfl) m_int (by decide +kernel) (pa_cons (pe_ix ix_list (pv 1) pe_int (fun _ _ => rfl)) pa_nil)) pe_int) pe_int (nomark _)) (pss_cons (ps_for PassesOwn.never rfl (pi_list (pe_slice sl_list (pv 0) (po_some pe_int) (po_some pe_int))) (pg_name (i := 3) sc_law.nd rfl (by first | exact .inl rfl | exact .inr rfl))
        (pss_one (ps_set (i := 2) sc_law.nd rfl (by first | exact .inl rfl | exact .inr rfl) (pe_op op_cat (pv 2) (pe_lst (pa_cons (pe_cl c_part hr (by decide) (by rfl) (pa_cons (pe_cl c_draws hr (by decide) (by rfl) (pa_cons (pv 3) (pa_cons pe_int pa_nil))) (pa_cons (pe_lst (pa_cons pe_int pa_nil)) (pa_cons pe_int (pa_cons pe_str (pa_cons (pe_cl0 c_marks hr (by decide) (by rfl)) pa_nil)))))) pa_nil))))))
      (pss_one (ps_set (i := 2) sc_law.nd rfl (by first | exact .inl rfl | exact .inr rfl) (pe_cl c_cut hr (by decide) (by rfl) (pa_cons (pv 2) (pa_cons pe_int pa_nil)))))) pss_nil)
      (pss_cons (ps_set (i := 4) sc_law.nd rfl (by first | exact .inl rfl | exact .inr rfl) (pe_cl c_cut hr (by decide) (by rfl) (pa_cons (pe_cl c_pact hr (by decide) (by rfl) (pa_cons (pe_cl c_draws hr (by decide) (by rfl) (pa_cons (pe_cl c_cell hr (by decide) (by rfl) (pa_cons (pv 0) (pa_cons pe_int pa_nil))) (pa_cons pe_int pa_nil))) (pa_cons (pe_lst (pa_cons pe_int pa_nil)) (pa_cons pe_int (pa_cons pe_str (pa_cons (pe_cl0 c_marks hr (by decide) (by rfl)) pa_nil)))))) (pa_cons pe_int pa_nil))))
      (pss_cons (ps_set (i := 5) sc_law.nd rfl (by first | exact .inl rfl | exact .inr rfl) (pe_cl c_build hr (by decide) (by rfl) (pa_cons (pv 2) pa_nil)))
      (pss_cons (ps_set (i := 6) sc_law.nd rfl (by first | exact .inl rfl | exact .inr rfl) (pe_cl c_build hr (by decide) (by rfl) (pa_cons (pv 4) pa_nil)))
      (pss_cons (ps_if (PW.pt (pw_or (pt_not (pt_val (pe_cl c_back hr (by decide) (by rfl) (pa_cons (pv 5) (pa_cons (pv 2) pa_nil))))) (pw_or1 (pt_not (pt_val (pe_cl c_back hr (by decide) (by rfl) (pa_cons (pv 6) (pa_cons (pv 4) pa_nil)))))))) (pss_one (ps_ret pe_bl)) pss_nil)
      (pss_cons (ps_set (i := 7) sc_law.nd rfl (by first | exact .inl rfl | exact .inr rfl) (pe_cl c_cut hr (by decide) (by rfl) (pa_cons (pe_slice sl_list (pv 2) po_none (po_some pe_int)) (pa_cons pe_int pa_nil))))
      (pss_cons (ps_set (i := 8) sc_law.nd rfl (by first | exact .inl rfl | exact .inr rfl) (pe_cl c_build hr (by decide) (by rfl) (pa_cons (pv 7) pa_nil)))
      (pss_cons (ps_if (PW.pt (pw_or (pt_not (pt_val (pe_cl c_back hr (by decide) (by rfl) (pa_cons (pe_op (op_bin o_add hr (by decide)) (pv 8) (pv 6)) (pa_cons (pe_op op_cat (pv 7) (pv 4)) pa_nil))))) (pw_or1 (pt_not (pt_val (pe_cl c_back hr (by decide) (by rfl) (pa_cons (pe_op (op_bin o_add hr (by decide)) (pv 6) (pv 8)) (pa_cons (pe_op op_cat (pv 4) (pv 7)) pa_nil)))))))) (pss_one (ps_ret pe_bl)) pss_nil)
      (pss_cut (ps_if (pt_cmpR op_gt (pe_cl c_depth hr (by decide) (by rfl) (pa_cons (pv 7) pa_nil)) pe_int (nomark _)) (pss_one (ps_set (i := 7) sc_law.nd rfl (by first | exact .inl rfl | exact .inr rfl) (pv 4))) pss_nil)
      h11))))))))))), ?_⟩
    walk_at "go"
    refine ⟨a, ns, 0, rfl, hS, ?_⟩
    walk_at "go"
    intro t ts nt hT
    have s1 := same_new (o := .lst (ts.map V.int)) nt
    have et : (upd H t (.lst (ts.map V.int))) t = some (.lst (ts.map V.int)) := upd_same
    generalize upd H t (.lst (ts.map V.int)) = H1 at s1 et ⊢
    walk_at "go"
    refine ⟨a, t, ns, ts, rfl, s1.seq hS, et, hT, fun L l H2 s2 hL pb => ?_⟩
    have s12 := s1.trans s2
    have et2 := s2 _ _ et
    clear s1 s2 et
    walk_at "go"
    refine ⟨fun σ J => ∃ (L : Addr) (l : List Pt) (v3 : Option V), Same H2 J ∧ DaAt J l L ∧ Pb l 400 30 ∧ σ = [some (.ref a), some (.ref t), some (.ref L), v3, none, none, none, none, none, none, none, none, none], ?_, ?_⟩
    · walk_at "go"
      refine rd_at (SqL.of et2) (by decide) (by rw [hT.1]; decide) ?_
      walk_at "go"
      refine ite2 (fun _ => ?_) (fun _ => ?_)
      · walk_at "go"
        refine ⟨a, _, rfl, s12.seq hS, ?_⟩
        obtain ⟨ms, ems, lms⟩ := cutV_any V.int (xs := ns) (a := 6) (b := 60)
        rw [show cutV (ns.map V.int) (some 6) (some 60) = ms.map V.int from ems]
        intro Sx nSx
        generalize eH_ : upd H2 Sx _ = H3
        have s3 : Same H2 H3 := by rw [← eH_]; exact same_new nSx
        have eSx : H3 Sx = some (.lst (ms.map V.int)) := by rw [← eH_]; exact upd_same
        clear eH_
        walk_at "go"
        refine ⟨⟨_, SqL.of eSx⟩, ?_⟩
        have mx2 : mxw 2 ≤ 6175 := by decide
        have pw := pb.wt
        have pd := pb.dp
        have plw := len_wt l
        refine for_vs (SqL.of eSx) (fun i σ J => Same H3 J ∧ ∃ (L : Addr) (l : List Pt) (v3 : Option V), DaAt J l L ∧ OkL l ∧ wtL l ≤ 400 + 6175 * i ∧ dpL l ≤ 30 ∧ (∀ p ∈ l, GnO p) ∧ l.length ≤ 400 + i ∧ σ = [some (.ref a), some (.ref t), some (.ref L), v3, none, none, none, none, none, none, none, none, none]) ⟨Same.refl _, L, l, none, hL.mono s3, pb.ok, by omega, by omega, pb.go, by omega, rfl⟩ (fun i σ J h => h.1) (fun i x σ J ex h => ?_) (fun σ J h => ?_)
        · obtain ⟨sI, L1, l1, v3, hL1, ok1, w1, d1, g1, n1, rfl⟩ := h
          obtain ⟨c, rfl, hi⟩ : ∃ c : Int, x = .int c ∧ i < ms.length := by
            rw [List.getElem?_map] at ex
            cases hh : ms[i]? with
            | none => rw [hh] at ex; cases ex
            | some c =>
              rw [hh] at ex
              cases ex
              exact ⟨c, rfl, (List.getElem?_eq_some_iff.mp hh).1⟩
          walk_at "go"
          intro D ds nD hD
          have s4 := same_new (o := .lst (ds.map V.int)) nD
          have ed : (upd J D (.lst (ds.map V.int))) D = some (.lst (ds.map V.int)) := upd_same
          generalize upd J D (.lst (ds.map V.int)) = H4 at s4 ed ⊢
          walk_at "go"
          intro p np
          generalize eH_ : upd H4 p _ = H5
          have s5 : Same H4 H5 := by rw [← eH_]; exact same_new np
          have ep : H5 p = some (.lst [.int 0]) := by rw [← eH_]; exact upd_same
          clear eH_
          walk_at "go"
          have hT2 : Tk K D p ds 24 H5 H5 := ⟨s5 _ _ ed, hD, ne_of_none ed np, Z.Same.sb (Same.refl _), 0, ep⟩
          refine ⟨D, p, 24, 2, ds, PAR, MRK, rfl, hT2, pm_all, by omega, fun y x H6 hT6 hx okx hwx hdx vx => ?_⟩
          have s6 : Same H4 H6 := SB.same ((Z.Same.sb s5).trans hT6.sb) np
          have hx := hx.mono nw_same _ _
          walk_at "go"
          intro R1 nR1
          generalize eH_ : upd H6 R1 _ = H7
          have s7 : Same H6 H7 := by rw [← eH_]; exact same_new nR1
          have eR1 : H7 R1 = some (.lst [.ref y]) := by rw [← eH_]; exact upd_same
          clear eH_
          have s47 := (s4.trans s6).trans s7
          obtain ⟨as, eL, hA⟩ := hL1.mono s47
          have lA := DtsAt.len _ _ hA
          dsimp only [List.set]
          walk_at "go"
          refine ⟨L1, R1, _, _, rfl, rfl, eL, eR1, szl (by simp only [List.length_map, List.length_cons, List.length_nil]; omega), ?_⟩
          intro R2 nR2
          generalize eH_ : upd H7 R2 _ = H8
          have s8 : Same H7 H8 := by rw [← eH_]; exact same_new nR2
          have eR2 : H8 R2 = some (.lst (as.map V.ref ++ [V.ref y])) := by rw [← eH_]; exact upd_same
          clear eH_
          refine ⟨(sI.trans s47).trans s8, R2, l1 ++ [x], _, ⟨as ++ [y], by rw [eR2, List.map_append]; rfl, dtsAt_app _ _ _ _ (hA.mono s8 _ _) (dtsAt_one ((hx.mono s7 _ _).mono s8 _ _))⟩, okL_iff.mpr fun q hq => (List.mem_append.mp hq).elim (okL_iff.mp ok1 q) (fun e => by rw [List.mem_singleton.mp e]; exact okx), ?_, ?_, fun q hq => (List.mem_append.mp hq).elim (g1 q) (fun e => by rw [List.mem_singleton.mp e]; exact GnO.vs okx vx), by rw [List.length_append, List.length_cons, List.length_nil]; omega, rfl⟩
          · rw [wtL_app, wtL, wtL]
            omega
          · rw [dpL_app, dpL, dpL]
            omega
        · obtain ⟨sI, L1, l1, v3, hL1, ok1, w1, d1, g1, n1, rfl⟩ := h
          rw [List.length_map] at w1 n1
          walk_at "go"
          refine ⟨L1, l1, 150, rfl, hL1, ok1, by omega, by omega, fun M m bs H4 s4 _ e4 hb ok4 w4 d4 len4 mem4 => ?_⟩
          exact ⟨M, m, _, (s3.trans sI).trans s4, ⟨bs, e4, hb.mono s4 _ _⟩, ⟨ok4, by omega, by omega, fun x hx => g1 x (mem4 x hx)⟩, rfl⟩
      · exact ⟨L, l, none, Same.refl _, hL, pb, rfl⟩
    clear hL pb
    rintro σ J ⟨L, l, v3, sJ, hL, pb, rfl⟩
    have hSJ := (s12.trans sJ).seq hS
    have etJ := sJ _ _ et2
    walk_at "go"
    refine ⟨a, ns, 2, rfl, hSJ, ?_⟩
    walk_at "go"
    intro D ds nD hD
    have s4 := same_new (o := .lst (ds.map V.int)) nD
    have ed : (upd J D (.lst (ds.map V.int))) D = some (.lst (ds.map V.int)) := upd_same
    generalize upd J D (.lst (ds.map V.int)) = H4 at s4 ed ⊢
    walk_at "go"
    intro p np
    generalize eH_ : upd H4 p _ = H5
    have s5 : Same H4 H5 := by rw [← eH_]; exact same_new np
    have ep : H5 p = some (.lst [.int 0]) := by rw [← eH_]; exact upd_same
    clear eH_
    walk_at "go"
    have hT2 : Tk K D p ds 40 H5 H5 := ⟨s5 _ _ ed, hD, ne_of_none ed np, Z.Same.sb (Same.refl _), 0, ep⟩
    refine ⟨D, p, 40, 2, ds, PAR, MRK, rfl, hT2, pm_all, by omega, fun M0 m0 H6 hT6 hm okm hwm hdm lm um => ?_⟩
    have s6 : Same H4 H6 := SB.same ((Z.Same.sb s5).trans hT6.sb) np
    have mx2 : 3 * mxw 2 ≤ 1000000 := by decide
    have gm : ∀ x ∈ m0, GnO x := fun x hx => GnO.vs (okL_iff.mp okm x hx) (vsL_iff.mp um x hx)
    walk_at "go"
    refine ⟨M0, m0, 60, rfl, hm.mono nw_same, okm, by omega, by omega, fun M m bs2 H7 s7 n7 e7 hb7 ok7 w7 d7 len7 mem7 => ?_⟩
    have hM : DaAt H7 m M := ⟨bs2, e7, hb7.mono s7 _ _⟩
    have pm : Pb m 60 3 := ⟨ok7, w7, by omega, fun x hx => gm x (mem7 x hx)⟩
    have sJ7 := (s4.trans s6).trans s7
    have hL7 := hL.mono sJ7
    have et7 := sJ7 _ _ etJ
    clear hm um hL hb7 e7 sJ7 s4 s5 s6 s7 hT6 hT2 ed ep
    dsimp only [List.set]
    walk_at "go"
    refine ⟨L, l, rfl, hL7, pb.ok, pb.wt, pb.dp, by have := pb.dp; omega, fun x H8 s8 _ hx => ?_⟩
    walk_at "go"
    refine ⟨M, m, rfl, hM.mono s8, pm.ok, by have := pm.wt; omega, by have := pm.dp; omega, by have := pm.dp; omega, fun y H9 s9 _ hy => ?_⟩
    have h7 : L7 k K H9 t L M x y ts l m := ⟨SqL.of ((s8.trans s9) _ _ et7), hT, hL7.mono (s8.trans s9), pb, hM.mono (s8.trans s9), pm, hx.mono s9, hy⟩
    clear hx hL7 hM s8 s9 hy et7
    walk_at "go"
    have pw := pb.wt
    have pd := pb.dp
    have qw := pm.wt
    have qd := pm.dp
    refine ⟨x, L, l, rfl, h7.hx, h7.hL, pb.ok, pw, pd, fun JA sA => ?_⟩
    have h7 := h7.mono sA
    walk_at "go"
    refine ⟨y, M, m, rfl, h7.hy, h7.hM, pm.ok, by omega, by omega, fun JB sB => ?_⟩
    have h7 := h7.mono sB
    clear sA sB
    dsimp only [List.set]
    walk_at "go"
    obtain ⟨ls, eL, hLs⟩ := id h7.hL
    refine ⟨L, _, rfl, SqL.of eL, ?_⟩
    rw [show cutV (ls.map V.ref) none (some 100) = (ls.take 100).map V.ref from cutV_pre V.ref]
    intro C nC
    generalize eH_ : upd JB C _ = JC
    have sC : Same JB JC := by rw [← eH_]; exact same_new nC
    have eC : JC C = some (.lst ((ls.take 100).map V.ref)) := by rw [← eH_]; exact upd_same
    clear eH_
    walk_at "go"
    have tk : ∀ q ∈ l.take 100, q ∈ l := fun q hq => List.mem_of_mem_take hq
    have tw : wtL (l.take 100) ≤ wtL l := by
      have : wtL l = wtL (l.take 100) + wtL (l.drop 100) := by rw [← wtL_app, List.take_append_drop]
      omega
    have td : dpL (l.take 100) ≤ dpL l := dpL_all' fun q hq => dpL_mem (tk q hq)
    refine ⟨C, l.take 100, 150, rfl, ⟨ls.take 100, eC, (DtsAt.cut 100 _ _ (hLs.mono sC _ _)).1⟩, okL_iff.mpr fun q hq => okL_iff.mp pb.ok q (tk q hq), by omega, by omega, fun N n nb JD sD _ eN hN okn wn dn lenn memn => ?_⟩
    have pn : Pb n 150 30 := ⟨okn, wn, by omega, fun q hq => pb.go q (tk q (memn q hq))⟩
    have h7 := h7.mono (sC.trans sD)
    have hN : DaAt JD n N := ⟨nb, eN, hN.mono sD _ _⟩
    clear eC sC sD eL hLs eN
    dsimp only [List.set]
    walk_at "go"
    refine ⟨N, n, rfl, hN, pn.ok, by omega, pn.dp, by have := pn.dp; omega, fun z JE sE _ hz => ?_⟩
    have h7 := h7.mono sE
    have hN := hN.mono sE
    clear sE
    have nd := pn.dp
    walk_at "go"
    obtain ⟨dz, tz, az, ez, _⟩ := id hz
    obtain ⟨dy, ty, ay, ey, _⟩ := id h7.hy
    have okA : OkL (n ++ m) := okL_iff.mpr fun q hq => (List.mem_append.mp hq).elim (okL_iff.mp pn.ok q) (okL_iff.mp pm.ok q)
    have okB : OkL (m ++ n) := okL_iff.mpr fun q hq => (List.mem_append.mp hq).elim (okL_iff.mp pm.ok q) (okL_iff.mp pn.ok q)
    have wA : wtL (n ++ m) ≤ 400 := by rw [wtL_app]; omega
    have wB : wtL (m ++ n) ≤ 400 := by rw [wtL_app]; omega
    have dA : dpL (n ++ m) ≤ 30 := by rw [dpL_app]; omega
    have dB : dpL (m ++ n) ≤ 30 := by rw [dpL_app]; omega
    refine ⟨z, y, dz, dy, _, _, rfl, rfl, ez, ey, ⟨z, y, n, m, rfl, hz, h7.hy, okA, wA, dA, fun v JF sF _ hv => ⟨v, rfl, ?_⟩⟩⟩
    walk_at "go"
    obtain ⟨na, eN, hNa⟩ := hN.mono sF
    obtain ⟨ma, eM, hMa⟩ := h7.hM.mono sF
    have ln := DtsAt.len _ _ hNa
    have lm := DtsAt.len _ _ hMa
    have lnw := len_wt n
    have lmw := len_wt m
    refine ⟨N, M, _, _, rfl, rfl, eN, eM, szl (by simp only [List.length_map]; omega), ?_⟩
    intro R nR
    generalize eH_ : upd JF R _ = JG
    have sG : Same JF JG := by rw [← eH_]; exact same_new nR
    have eR : JG R = some (.lst (na.map V.ref ++ ma.map V.ref)) := by rw [← eH_]; exact upd_same
    clear eH_
    refine ⟨v, R, n ++ m, rfl, hv.mono sG, ⟨na ++ ma, by rw [eR, List.map_append], dtsAt_app _ _ _ _ (hNa.mono sG _ _) (hMa.mono sG _ _)⟩, okA, wA, dA, fun JH sH => ?_⟩
    have sEH := (sF.trans sG).trans sH
    have h7 := h7.mono sEH
    have hN := hN.mono sEH
    have hz := hz.mono sEH
    have ez := sEH _ _ ez
    have ey := sEH _ _ ey
    clear hv eN hNa eM hMa eR sF sG sH sEH
    walk_at "go"
    refine ⟨y, z, dy, dz, _, _, rfl, rfl, ey, ez, ⟨y, z, m, n, rfl, h7.hy, hz, okB, wB, dB, fun v JF sF _ hv => ⟨v, rfl, ?_⟩⟩⟩
    walk_at "go"
    obtain ⟨na, eN, hNa⟩ := hN.mono sF
    obtain ⟨ma, eM, hMa⟩ := h7.hM.mono sF
    have ln := DtsAt.len _ _ hNa
    have lm := DtsAt.len _ _ hMa
    refine ⟨M, N, _, _, rfl, rfl, eM, eN, szl (by simp only [List.length_map]; omega), ?_⟩
    intro R nR
    generalize eH_ : upd JF R _ = JG
    have sG : Same JF JG := by rw [← eH_]; exact same_new nR
    have eR : JG R = some (.lst (ma.map V.ref ++ na.map V.ref)) := by rw [← eH_]; exact upd_same
    clear eH_
    refine ⟨v, R, m ++ n, rfl, hv.mono sG, ⟨ma ++ na, by rw [eR, List.map_append], dtsAt_app _ _ _ _ (hMa.mono sG _ _) (hNa.mono sG _ _)⟩, okB, wB, dB, fun JI sI => ?_⟩
    have sEI := (sF.trans sG).trans sI
    have h7 := h7.mono sEI
    have hN := hN.mono sEI
    clear hv eN hNa eM hMa eR sF sG sI sEI ez ey hz
    dsimp only [List.set]
    walk_at "go"
    refine ⟨fun σ J => ∃ (N : Addr) (n : List Pt), Same JI J ∧ DaAt J n N ∧ Pb n 150 29 ∧ σ = [some (.ref a), some (.ref t), some (.ref L), v3, some (.ref M), some (.ref x), some (.ref y), some (.ref N), some (.ref z), none, none, none, none], ?_, ?_⟩
    · walk_at "go"
      refine ⟨N, n, rfl, hN, pn.ok, by omega, by omega, fun J2 s2 => ?_⟩
      walk_at "go"
      refine ite2 (fun _ => ?_) (fun e => ?_)
      · walk_at "go"
        exact ⟨M, m, s2, h7.hM.mono s2, ⟨pm.ok, by omega, by omega, pm.go⟩, rfl⟩
      · have e : ¬ ((29 : Int) < (dpL n : Int)) := fun z => e (decide_eq_true z)
        exact ⟨N, n, s2, hN.mono s2, ⟨pn.ok, by omega, by omega, pn.go⟩, rfl⟩
    · rintro σ J ⟨N, n, s2, hN, pn, rfl⟩
      exact w11 _ J a t L M x y N z ts l m n v3 (h7.mono s2) hN pn qq
end
end Z
set_option pp.maxSteps 700
set_option Elab.async false
set_option linter.all false
set_option maxRecDepth 100000
set_option maxHeartbeats 4000000
namespace Z
open PySem PySem.Spec PyProof.Rows L2 Pk NdefX Zr
/-! ### the head's facts of part classes; the inductions over the depth -/
theorem supI_of {P : Program} {K : PySem.W.Frag} {x y q fl : Str} {st : Stmt} (h1 : supObs K x = supVal q st) (h2 : supP fl K (He.ga K x) (He.ga K y) q = true) (hfl : ((P.main.file : Str) == fl) = true) (htop : (P.main.scope.names.lookup ("super" : Str)).isSome = false) :
    ∃ (fd : FuncData) (c cc : Addr) (kV doc pm ct : Value) (an : Option Addr), fd = PySem.W.fnX "__init__" q (defArgs st) (defBody st) (defScope st) [(("__class__" : Str), cc)] .none kV doc pm an (.ref c) ct ∧ SupI P K (He.ga K x) (He.ma K (He.ga K x) "__init__") (He.ma K (He.ga K y) "__init__") q st fd := by
  obtain ⟨g0, h2⟩ := He.ba h2
  obtain ⟨g1, h2⟩ := He.ba h2
  obtain ⟨g2, h2⟩ := He.ba h2
  obtain ⟨g3, h2⟩ := He.ba h2
  obtain ⟨g4, g5⟩ := He.ba h2
  unfold supObs at h1
  cases e : initFd K (He.ga K x) with
  | none =>
    rw [e] at h1
    cases h1
  | some fd =>
    rw [e] at h1 g0
    have lk : ∃ oc od osl, K.lookup (He.ma K (He.ga K x) "__init__") = some ⟨oc, od, .func fd, osl⟩ := by
      unfold initFd at e
      split at e
      · next oc od fd' osl l =>
        cases e
        exact ⟨_, _, _, l⟩
      · cases e
    obtain ⟨n1, n2, n3, n4, n5, n6, n7, n8, n9, n10, n11, n12, n13, n14, n15⟩ := fd
    have h1 : (some (n1, n2, n3, n4, n5, n6, n7.map (·.1), n8, n15) : SupV) = supVal q st := h1
    unfold supVal at h1
    simp only [Option.some.injEq, Prod.mk.injEq] at h1
    obtain ⟨a1, a2, a3, a4, a5, a6, a7, a8, a9⟩ := h1
    subst a1 a2 a3 a4 a5 a6 a8 a9
    dsimp only at g0
    split at g0
    · next c y' cc =>
      obtain ⟨b1, g0⟩ := He.ba g0
      obtain ⟨b2, b3⟩ := He.ba g0
      have ey : y' = "__class__" := by
        have := a7
        simpa using this
      subst ey
      refine ⟨_, c, cc, _, _, _, _, _, rfl, ⟨c, cc, _, _, _, _, _, _, rfl, ⟨lk, ?_, ?_, htop, of_decide_eq_true g1, He.eqO_ok g2, He.eqO_ok g3, of_decide_eq_true g4, g5⟩, b1⟩⟩
      · split at b2
        · next u1 u2 vs u3 l =>
          split at b2
          · next file tf ev =>
            refine ⟨_, _, vs, _, file, tf, l, ev, ?_⟩
            rw [beq_iff_eq.mp b2] at hfl
            exact hfl
          · cases b2
        · cases b2
      · split at b3
        · next u1 u2 D u3 l =>
          have := of_decide_eq_true b3
          subst this
          exact ⟨_, _, _, l⟩
        · cases b3
    · cases g0
theorem conB_ok {K : PySem.W.Frag} {C : Addr} {f z : Str} (hf : PySem.W.copiedNames.contains f = false) (h : conB K C f z = true) : ∃ u, Con K C f (.str z) u := by
  unfold conB at h
  split at h
  · next y t e =>
    obtain ⟨h1, h2⟩ := He.ba h
    have := of_decide_eq_true h1
    subst this
    exact ⟨_, e, ⟨t, rfl⟩, He.eqO_ok h2, hf⟩
  · cases h
theorem fnr_okX {P : Program} {w : World} {K : PySem.W.Frag} {mg : Str → Option Value} {base : Heap} {CX : CXT} {k : Nat} {f : Addr} {fd : FuncData} {ps : List Str} {sp : Sp} (F : FnOk P w K mg base CX k f fd ps sp) (b : Binds K fd ps []) : FnR P w K mg base CX k f sp := (FnOk.raw (dvs := []) F b .nil).imp fun vs H Q E h => by
  show sp (vs ++ []) H Q E
  rw [List.append_nil]
  exact h
section
variable {P : Program} {w : World} {K : PySem.W.Frag} {mg : Str → Option Value} {base : Heap} {f f2 f3 C CP CB CH : Addr} {k : Cs} {fd fd2 fd3 : FuncData}
theorem l23 (d : Nat) : 2 * (d + 1) + 6 = 2 * d + 8 := by omega
theorem l25 (d : Nat) : 2 * (d + 1) + 5 = 2 * d + 7 := by omega
theorem l35 (d : Nat) : 3 * (d + 1) + 5 = 3 * d + 8 := by omega
theorem all_build (F : FnP K "_law_build" s_build f fd) (g : mg "_law_build" = some (.ref f)) (b : Binds K fd P_build []) (F2 : FnP K "_law_build_part" s_build_part f2 fd2) (g2 : mg "_law_build_part" = some (.ref f2)) (b2 : Binds K fd2 P_build_part []) (y_Pact : MakY P w K mg base 4 "Pact" (spP k K)) (y_Transfer : MakY P w K mg base 5 "Transfer" (spT k K)) (y_Event : MakY P w K mg base 5 "Event" (spE k K)) (y_Choice : MakY P w K mg base 5 "Choice" (spC k K)) (y_Rounds : MakY P w K mg base 5 "Rounds" (spR k K)) (y_Endless : MakY P w K mg base 5 "Endless" (spN k K)) (y_Times : MakY P w K mg base 5 "Times" (spM k K)) : ∀ d, Cal P w K mg base (2 * d + 6) "_law_build" (spBl k K d)
  | 0 => cal_of F g b (no_fn fun vs H Q E h => by obtain ⟨L, l, _, _, _, _, _, z, _⟩ := h; omega)
  | d + 1 => by
    have c_build := all_build F g b F2 g2 b2 y_Pact y_Transfer y_Event y_Choice y_Rounds y_Endless y_Times d
    have c_part := cal_of F2 g2 b2 (ok_build_part F2 y_Transfer y_Event y_Choice y_Rounds y_Endless y_Times c_build)
    rw [l23]
    exact cal_of F g b (ok_build F y_Pact c_part)
theorem all_weight (F : FnP K "_law_weight" s_weight f fd) (g : mg "_law_weight" = some (.ref f)) (b : Binds K fd P_weight []) (F2 : FnP K "_law_part_weight" s_part_weight f2 fd2) (g2 : mg "_law_part_weight" = some (.ref f2)) (b2 : Binds K fd2 P_part_weight []) (m_sum : mg "sum" = none) (m_max : mg "max" = none) : ∀ d, Cal P w K mg base (2 * d + 6) "_law_weight" (spWl d)
  | 0 => cal_of F g b (no_fn fun vs H Q E h => by obtain ⟨L, l, _, _, _, _, z, _⟩ := h; omega)
  | d + 1 => by
    have c_weight := all_weight F g b F2 g2 b2 m_sum m_max d
    have c_part := cal_of F2 g2 b2 (ok_part_weight F2 m_sum m_max c_weight)
    rw [l23]
    exact cal_of F g b (ok_weight F m_sum c_part)
theorem all_pact (F : FnP K "_law_pact" s_pact f fd) (g : mg "_law_pact" = some (.ref f)) (b : Binds K fd P_pact []) (F2 : FnP K "_law_part" s_part f2 fd2) (g2 : mg "_law_part" = some (.ref f2)) (b2 : Binds K fd2 P_part []) (m_int : mg "int" = none) (m_len : mg "len" = none) (m_range : mg "range" = none) (c_take : Cal P w K mg base 1 "_law_take" (spTake K)) (c_amount : Cal P w K mg base 1 "_law_amount" spAm) : ∀ d, Cal P w K mg base (2 * d + 6) "_law_pact" (spPc K d)
  | 0 => cal_of F g b (no_fn fun vs H Q E h => by obtain ⟨a, p, n, e, ds, ps, ms, _, _, _, z, _⟩ := h; omega)
  | d + 1 => by
    have c_pact := all_pact F g b F2 g2 b2 m_int m_len m_range c_take c_amount d
    have c_part := cal_of F2 g2 b2 (ok_part_ F2 m_int m_len m_range c_take c_amount c_pact)
    rw [l23]
    exact cal_of F g b (ok_pact F m_int m_range c_take c_part)
theorem all_built (F : FnP K "built" s_built f fd) (g : mg "built" = some (.ref f)) (b : Binds K fd P_built []) (F2 : FnP K "built_part" s_built_part f2 fd2) (g2 : mg "built_part" = some (.ref f2)) (b2 : Binds K fd2 P_built_part []) (y_Pact : MakY P w K mg base 4 "Pact" (spP k K)) (y_Transfer : MakY P w K mg base 5 "Transfer" (spT k K)) (y_Event : MakY P w K mg base 5 "Event" (spE k K)) (y_Choice : MakY P w K mg base 5 "Choice" (spC k K)) (y_Rounds : MakY P w K mg base 5 "Rounds" (spR k K)) (y_Endless : MakY P w K mg base 5 "Endless" (spN k K)) (y_Times : MakY P w K mg base 5 "Times" (spM k K)) : ∀ d, Cal P w K mg base (2 * d + 6) "built" (spBu k K d)
  | 0 => cal_of F g b (no_fn fun vs H Q E h => by obtain ⟨L, l, _, _, _, _, _, z, _⟩ := h; omega)
  | d + 1 => by
    have c_built := all_built F g b F2 g2 b2 y_Pact y_Transfer y_Event y_Choice y_Rounds y_Endless y_Times d
    have c_part := cal_of F2 g2 b2 (ok_built_part F2 y_Transfer y_Event y_Choice y_Rounds y_Endless y_Times c_built)
    rw [l23]
    exact cal_of F g b (ok_built F y_Pact c_part)
theorem dp_pos : ∀ p : Pt, 1 ≤ dp p
  | .tr _ _ _ => by rw [dp]; omega
  | .ev _ => by rw [dp]; omega
  | .ch _ _ => by rw [dp]; omega
  | .rd _ _ => by rw [dp]; omega
  | .en _ => by rw [dp]; omega
  | .ti _ _ => by rw [dp]; omega
theorem l37 (d : Nat) : 3 * (d + 1) + 7 = 3 * d + 10 := by omega
theorem all_rpart {CR f4 : Addr} {fd4 : FuncData} (cl : Cls K CR) (rc : RdC K CR) (m1 : Meth K CR "read_part" f) (F1 : FnM K "read_part" "Reader.read_part" s_Reader_read_part f fd) (b1 : Binds K fd P_Reader_read_part []) (m2 : Meth K CR "read_pact" f2) (F2 : FnM K "read_pact" "Reader.read_pact" s_Reader_read_pact f2 fd2) (b2 : Binds K fd2 P_Reader_read_pact []) (m3 : Meth K CR "read_body" f3) (F3 : FnM K "read_body" "Reader.read_body" s_Reader_read_body f3 fd3) (b3 : Binds K fd3 P_Reader_read_body []) (m4 : Meth K CR "read_options" f4) (F4 : FnM K "read_options" "Reader.read_options" s_Reader_read_options f4 fd4) (b4 : Binds K fd4 P_Reader_read_options []) (m_len : mg "len" = none) (tok_MOST_OPTIONS : Tok) (g_MOST_OPTIONS : mg "MOST_OPTIONS" = some (.int 6 tok_MOST_OPTIONS)) (me_take : Met P w K mg base 5 CR "take" (spTk CR)) (me_read_opening : Met P w K mg base 6 CR "read_opening" (spRo CR)) : ∀ d, Met P w K mg base (3 * d + 7) CR "read_part" (spRpt CR d)
  | 0 => ⟨_, _, _, cl, m1, no_fn (fun vs H Q E h => by obtain ⟨r, T, p, rest, n, _, _, _, z, _⟩ := h; have := dp_pos p; omega), b1⟩
  | d + 1 => by
    have mp := all_rpart cl rc m1 F1 b1 m2 F2 b2 m3 F3 b3 m4 F4 b4 m_len tok_MOST_OPTIONS g_MOST_OPTIONS me_take me_read_opening d
    have mr : Met P w K mg base (3 * d + 8) CR "read_pact" (spRpc CR d) := ⟨_, _, _, cl, m2, ok_read_pact F2 rc me_take mp, b2⟩
    have mb : Met P w K mg base (3 * d + 9) CR "read_body" (spRbd CR d) := ⟨_, _, _, cl, m3, ok_read_body F3 rc me_take me_read_opening mr, b3⟩
    have mo : Met P w K mg base (3 * d + 9) CR "read_options" (spRos CR d) := ⟨_, _, _, cl, m4, ok_read_options F4 rc m_len tok_MOST_OPTIONS g_MOST_OPTIONS me_take me_read_opening mr, b4⟩
    rw [l37]
    exact ⟨_, _, _, cl, m1, ok_read_part F1 rc me_take mb mo, b1⟩
theorem mak_reader {CR : Addr} {si : FnOk P w K mg base CX0 5 f fd P_Reader___init__ (spRi CR)} (M : Mk K CR f) (hm : mg "Reader" = some (.ref CR)) (hb : Binds K fd P_Reader___init__ []) : Mak P w K mg base 5 "Reader" (spRn CR) := by
  refine ⟨CR, f, fd, _, _, M, si, hm, hb, ?_⟩
  rintro vs H Q E ⟨T, ws, rfl, hT, hs, g, qq⟩ n dx n1 n2 n3
  have s1 : Same H (upd (upd H dx (.own n)) n (.ins CR dx [])) := Z.Same.mut (same_new n2) n1
  refine ⟨n, dx, T, ws, rfl, upd_same, hT, hs, g, fun H' sb rd => ⟨rfl, qq n H' (SB.same ((Z.Same.sb s1).trans sb) n1) n1 rd⟩⟩
end
end Z
set_option pp.maxSteps 700
set_option Elab.async false
set_option linter.all false
set_option maxRecDepth 100000
set_option maxHeartbeats 4000000
set_option maxHeartbeats 0
namespace Z
open PySem PySem.Spec PyProof.Rows L2 Pk NdefX
open Zr hiding s_is_party s_is_mark s_check_party s_check_mark s_check_size s_as_pact s_Part___init__ s_Pact___init__ s_Pact___eq__ s_Pact___add__ s_Pact___mul__ s_end_of s_number_of s_word_token s_token_at s_built s_built_part s_parse_pact s_Reader___init__ s_Reader_take s_Reader_read_pact s_Reader_read_part s_Reader_read_opening s_Reader_read_body s_Reader_read_options s_cell s_draws s_take s_marks s_amount s_pact s_part s_weight s_part_weight s_depth s_part_depth s_cut s_text s_part_text s_build s_build_part s_is s_says s_most s_padded s_chain s_drawn s_sized s_same s_same_part s_back s_changed s_apart s_law s_Transfer___init__ s_Event___init__ s_Choice___init__ s_Rounds___init__ s_Endless___init__ s_Times___init__
abbrev kk (K : PySem.W.Frag) : Cs := ⟨He.ga K "Transfer", He.ga K "Event", He.ga K "Choice", He.ga K "Rounds", He.ga K "Endless", He.ga K "Times", He.ga K "Pact"⟩
theorem facts {P : Program} {w : World} {K : PySem.W.Frag} {h : Heap} {mg : Str → Option Value} {f : Addr} (X : K.In h) (G : h.Ns mainGlobals mg) (hfa : mg ("law" : Str) = some (.ref f)) (c : He.SaysD fa fn K) (cs : xns.map (fun f => f K) = xvs) (cx : ex K = true) (hfl : ((P.main.file : Str) == fl) = true) (htop : (P.main.scope.names.lookup ("super" : Str)).isSome = false) :
    ∃ fd : FuncData, (∀ (s : Shared) (v : Value), BindsTo s fd ⟨[v], []⟩ [("_law_script", v)]) ∧ ∀ base : Heap, K.In base → base.Ns mainGlobals mg → FnOk P w K mg base CX0 140 f fd ["_law_script"] (spLaw K) := by
  obtain ⟨cx, cu⟩ := He.ba cx
  obtain ⟨cu, cv⟩ := He.ba cu
  obtain ⟨cx, cy⟩ := He.ba cx
  obtain ⟨cp, cu⟩ := He.ba cu
  obtain ⟨ci, ck⟩ := He.ba cv
  obtain ⟨ck, cn⟩ := He.ba ck
  obtain ⟨fd_is_party, F_is_party⟩ := c.def_ 0 (d := d_is_party) rfl
  have F_is_party : FnP K "is_party" s_is_party _ fd_is_party := F_is_party
  have g_is_party := He.glo_ok X G (c.fact 0 (f := .glo "is_party") rfl)
  have b_is_party : Binds K fd_is_party P_is_party [] := F_is_party.bindsN fun _ _ _ _ _ _ us hl => match us, hl with | [_], _ => rfl
  obtain ⟨fd_is_mark, F_is_mark⟩ := c.def_ 1 (d := d_is_mark) rfl
  have F_is_mark : FnP K "is_mark" s_is_mark _ fd_is_mark := F_is_mark
  have g_is_mark := He.glo_ok X G (c.fact 1 (f := .glo "is_mark") rfl)
  have b_is_mark : Binds K fd_is_mark P_is_mark [] := F_is_mark.bindsN fun _ _ _ _ _ _ us hl => match us, hl with | [_], _ => rfl
  obtain ⟨fd_check_party, F_check_party⟩ := c.def_ 2 (d := d_check_party) rfl
  have F_check_party : FnP K "check_party" s_check_party _ fd_check_party := F_check_party
  have g_check_party := He.glo_ok X G (c.fact 2 (f := .glo "check_party") rfl)
  have b_check_party : Binds K fd_check_party P_check_party [] := F_check_party.bindsN fun _ _ _ _ _ _ us hl => match us, hl with | [_], _ => rfl
  obtain ⟨fd_check_mark, F_check_mark⟩ := c.def_ 3 (d := d_check_mark) rfl
  have F_check_mark : FnP K "check_mark" s_check_mark _ fd_check_mark := F_check_mark
  have g_check_mark := He.glo_ok X G (c.fact 3 (f := .glo "check_mark") rfl)
  have b_check_mark : Binds K fd_check_mark P_check_mark [] := F_check_mark.bindsN fun _ _ _ _ _ _ us hl => match us, hl with | [_], _ => rfl
  obtain ⟨fd_check_size, F_check_size⟩ := c.def_ 4 (d := d_check_size) rfl
  have F_check_size : FnP K "check_size" s_check_size _ fd_check_size := F_check_size
  have g_check_size := He.glo_ok X G (c.fact 4 (f := .glo "check_size") rfl)
  have b_check_size : Binds K fd_check_size P_check_size [] := F_check_size.bindsN fun _ _ _ _ _ _ us hl => match us, hl with | [_, _], _ => rfl
  obtain ⟨fd_as_pact, F_as_pact⟩ := c.def_ 5 (d := d_as_pact) rfl
  have F_as_pact : FnP K "as_pact" s_as_pact _ fd_as_pact := F_as_pact
  have g_as_pact := He.glo_ok X G (c.fact 5 (f := .glo "as_pact") rfl)
  have b_as_pact : Binds K fd_as_pact P_as_pact [] := F_as_pact.bindsN fun _ _ _ _ _ _ us hl => match us, hl with | [_], _ => rfl
  obtain ⟨fd_Part___init__, F_Part___init__⟩ := c.def_ 6 (d := d_Part___init__) rfl
  have F_Part___init__ : FnM K "__init__" "Part.__init__" s_Part___init__ (He.ma K (He.ga K "Part") "__init__") fd_Part___init__ := F_Part___init__
  have b_Part___init__ : Binds K fd_Part___init__ P_Part___init__ [] := F_Part___init__.bindsN fun _ _ _ _ _ _ us hl => match us, hl with | [_, _, _, _], _ => rfl
  obtain ⟨fd_Pact___init__, F_Pact___init__⟩ := c.def_ 7 (d := d_Pact___init__) rfl
  have F_Pact___init__ : FnM K "__init__" "Pact.__init__" s_Pact___init__ (He.ma K (He.ga K "Pact") "__init__") fd_Pact___init__ := F_Pact___init__
  have b_Pact___init__ : Binds K fd_Pact___init__ P_Pact___init__ [] := F_Pact___init__.bindsN fun _ _ _ _ _ _ us hl => match us, hl with | [_, _], _ => rfl
  obtain ⟨fd_Pact___eq__, F_Pact___eq__⟩ := c.def_ 8 (d := d_Pact___eq__) rfl
  have F_Pact___eq__ : FnM K "__eq__" "Pact.__eq__" s_Pact___eq__ (He.ma K (He.ga K "Pact") "__eq__") fd_Pact___eq__ := F_Pact___eq__
  have b_Pact___eq__ : Binds K fd_Pact___eq__ P_Pact___eq__ [] := F_Pact___eq__.bindsN fun _ _ _ _ _ _ us hl => match us, hl with | [_, _], _ => rfl
  obtain ⟨fd_Pact___add__, F_Pact___add__⟩ := c.def_ 9 (d := d_Pact___add__) rfl
  have F_Pact___add__ : FnM K "__add__" "Pact.__add__" s_Pact___add__ (He.ma K (He.ga K "Pact") "__add__") fd_Pact___add__ := F_Pact___add__
  have b_Pact___add__ : Binds K fd_Pact___add__ P_Pact___add__ [] := F_Pact___add__.bindsN fun _ _ _ _ _ _ us hl => match us, hl with | [_, _], _ => rfl
  obtain ⟨fd_Pact___mul__, F_Pact___mul__⟩ := c.def_ 10 (d := d_Pact___mul__) rfl
  have F_Pact___mul__ : FnM K "__mul__" "Pact.__mul__" s_Pact___mul__ (He.ma K (He.ga K "Pact") "__mul__") fd_Pact___mul__ := F_Pact___mul__
  have b_Pact___mul__ : Binds K fd_Pact___mul__ P_Pact___mul__ [] := F_Pact___mul__.bindsN fun _ _ _ _ _ _ us hl => match us, hl with | [_, _], _ => rfl
  obtain ⟨fd_end_of, F_end_of⟩ := c.def_ 11 (d := d_end_of) rfl
  have F_end_of : FnP K "end_of" s_end_of _ fd_end_of := F_end_of
  have g_end_of := He.glo_ok X G (c.fact 6 (f := .glo "end_of") rfl)
  have b_end_of : Binds K fd_end_of P_end_of [] := F_end_of.bindsN fun _ _ _ _ _ _ us hl => match us, hl with | [_, _, _], _ => rfl
  obtain ⟨fd_number_of, F_number_of⟩ := c.def_ 12 (d := d_number_of) rfl
  have F_number_of : FnP K "number_of" s_number_of _ fd_number_of := F_number_of
  have g_number_of := He.glo_ok X G (c.fact 7 (f := .glo "number_of") rfl)
  have b_number_of : Binds K fd_number_of P_number_of [] := F_number_of.bindsN fun _ _ _ _ _ _ us hl => match us, hl with | [_, _], _ => rfl
  obtain ⟨fd_word_token, F_word_token⟩ := c.def_ 13 (d := d_word_token) rfl
  have F_word_token : FnP K "word_token" s_word_token _ fd_word_token := F_word_token
  have g_word_token := He.glo_ok X G (c.fact 8 (f := .glo "word_token") rfl)
  have b_word_token : Binds K fd_word_token P_word_token [] := F_word_token.bindsN fun _ _ _ _ _ _ us hl => match us, hl with | [_], _ => rfl
  obtain ⟨fd_token_at, F_token_at⟩ := c.def_ 14 (d := d_token_at) rfl
  have F_token_at : FnP K "token_at" s_token_at _ fd_token_at := F_token_at
  have g_token_at := He.glo_ok X G (c.fact 9 (f := .glo "token_at") rfl)
  have b_token_at : Binds K fd_token_at P_token_at [] := F_token_at.bindsN fun _ _ _ _ _ _ us hl => match us, hl with | [_, _], _ => rfl
  obtain ⟨fd_built, F_built⟩ := c.def_ 15 (d := d_built) rfl
  have F_built : FnP K "built" s_built _ fd_built := F_built
  have g_built := He.glo_ok X G (c.fact 10 (f := .glo "built") rfl)
  have b_built : Binds K fd_built P_built [] := F_built.bindsN fun _ _ _ _ _ _ us hl => match us, hl with | [_], _ => rfl
  obtain ⟨fd_built_part, F_built_part⟩ := c.def_ 16 (d := d_built_part) rfl
  have F_built_part : FnP K "built_part" s_built_part _ fd_built_part := F_built_part
  have g_built_part := He.glo_ok X G (c.fact 11 (f := .glo "built_part") rfl)
  have b_built_part : Binds K fd_built_part P_built_part [] := F_built_part.bindsN fun _ _ _ _ _ _ us hl => match us, hl with | [_], _ => rfl
  obtain ⟨fd_parse_pact, F_parse_pact⟩ := c.def_ 17 (d := d_parse_pact) rfl
  have F_parse_pact : FnP K "parse_pact" s_parse_pact _ fd_parse_pact := F_parse_pact
  have g_parse_pact := He.glo_ok X G (c.fact 12 (f := .glo "parse_pact") rfl)
  have b_parse_pact : Binds K fd_parse_pact P_parse_pact [] := F_parse_pact.bindsN fun _ _ _ _ _ _ us hl => match us, hl with | [_], _ => rfl
  obtain ⟨fd_Reader___init__, F_Reader___init__⟩ := c.def_ 18 (d := d_Reader___init__) rfl
  have F_Reader___init__ : FnM K "__init__" "Reader.__init__" s_Reader___init__ (He.ma K (He.ga K "Reader") "__init__") fd_Reader___init__ := F_Reader___init__
  have b_Reader___init__ : Binds K fd_Reader___init__ P_Reader___init__ [] := F_Reader___init__.bindsN fun _ _ _ _ _ _ us hl => match us, hl with | [_, _], _ => rfl
  obtain ⟨fd_Reader_take, F_Reader_take⟩ := c.def_ 19 (d := d_Reader_take) rfl
  have F_Reader_take : FnM K "take" "Reader.take" s_Reader_take (He.ma K (He.ga K "Reader") "take") fd_Reader_take := F_Reader_take
  have b_Reader_take : Binds K fd_Reader_take P_Reader_take [] := F_Reader_take.bindsN fun _ _ _ _ _ _ us hl => match us, hl with | [_, _], _ => rfl
  obtain ⟨fd_Reader_read_pact, F_Reader_read_pact⟩ := c.def_ 20 (d := d_Reader_read_pact) rfl
  have F_Reader_read_pact : FnM K "read_pact" "Reader.read_pact" s_Reader_read_pact (He.ma K (He.ga K "Reader") "read_pact") fd_Reader_read_pact := F_Reader_read_pact
  have b_Reader_read_pact : Binds K fd_Reader_read_pact P_Reader_read_pact [] := F_Reader_read_pact.bindsN fun _ _ _ _ _ _ us hl => match us, hl with | [_], _ => rfl
  obtain ⟨fd_Reader_read_part, F_Reader_read_part⟩ := c.def_ 21 (d := d_Reader_read_part) rfl
  have F_Reader_read_part : FnM K "read_part" "Reader.read_part" s_Reader_read_part (He.ma K (He.ga K "Reader") "read_part") fd_Reader_read_part := F_Reader_read_part
  have b_Reader_read_part : Binds K fd_Reader_read_part P_Reader_read_part [] := F_Reader_read_part.bindsN fun _ _ _ _ _ _ us hl => match us, hl with | [_], _ => rfl
  obtain ⟨fd_Reader_read_opening, F_Reader_read_opening⟩ := c.def_ 22 (d := d_Reader_read_opening) rfl
  have F_Reader_read_opening : FnM K "read_opening" "Reader.read_opening" s_Reader_read_opening (He.ma K (He.ga K "Reader") "read_opening") fd_Reader_read_opening := F_Reader_read_opening
  have b_Reader_read_opening : Binds K fd_Reader_read_opening P_Reader_read_opening [] := F_Reader_read_opening.bindsN fun _ _ _ _ _ _ us hl => match us, hl with | [_, _], _ => rfl
  obtain ⟨fd_Reader_read_body, F_Reader_read_body⟩ := c.def_ 23 (d := d_Reader_read_body) rfl
  have F_Reader_read_body : FnM K "read_body" "Reader.read_body" s_Reader_read_body (He.ma K (He.ga K "Reader") "read_body") fd_Reader_read_body := F_Reader_read_body
  have b_Reader_read_body : Binds K fd_Reader_read_body P_Reader_read_body [] := F_Reader_read_body.bindsN fun _ _ _ _ _ _ us hl => match us, hl with | [_, _, _], _ => rfl
  obtain ⟨fd_Reader_read_options, F_Reader_read_options⟩ := c.def_ 24 (d := d_Reader_read_options) rfl
  have F_Reader_read_options : FnM K "read_options" "Reader.read_options" s_Reader_read_options (He.ma K (He.ga K "Reader") "read_options") fd_Reader_read_options := F_Reader_read_options
  have b_Reader_read_options : Binds K fd_Reader_read_options P_Reader_read_options [] := F_Reader_read_options.bindsN fun _ _ _ _ _ _ us hl => match us, hl with | [_], _ => rfl
  obtain ⟨fd_cell, F_cell⟩ := c.def_ 25 (d := d_cell) rfl
  have F_cell : FnP K "_law_cell" s_cell _ fd_cell := F_cell
  have g_cell := He.glo_ok X G (c.fact 13 (f := .glo "_law_cell") rfl)
  have b_cell : Binds K fd_cell P_cell [] := F_cell.bindsN fun _ _ _ _ _ _ us hl => match us, hl with | [_, _], _ => rfl
  obtain ⟨fd_draws, F_draws⟩ := c.def_ 26 (d := d_draws) rfl
  have F_draws : FnP K "_law_draws" s_draws _ fd_draws := F_draws
  have g_draws := He.glo_ok X G (c.fact 14 (f := .glo "_law_draws") rfl)
  have b_draws : Binds K fd_draws P_draws [] := F_draws.bindsN fun _ _ _ _ _ _ us hl => match us, hl with | [_, _], _ => rfl
  obtain ⟨fd_take, F_take⟩ := c.def_ 27 (d := d_take) rfl
  have F_take : FnP K "_law_take" s_take _ fd_take := F_take
  have g_take := He.glo_ok X G (c.fact 15 (f := .glo "_law_take") rfl)
  have b_take : Binds K fd_take P_take [] := F_take.bindsN fun _ _ _ _ _ _ us hl => match us, hl with | [_, _], _ => rfl
  obtain ⟨fd_marks, F_marks⟩ := c.def_ 28 (d := d_marks) rfl
  have F_marks : FnP K "_law_marks" s_marks _ fd_marks := F_marks
  have g_marks := He.glo_ok X G (c.fact 16 (f := .glo "_law_marks") rfl)
  have b_marks : Binds K fd_marks P_marks [] := F_marks.bindsN fun _ _ _ _ _ _ us hl => match us, hl with | [], _ => rfl
  obtain ⟨fd_amount, F_amount⟩ := c.def_ 29 (d := d_amount) rfl
  have F_amount : FnP K "_law_amount" s_amount _ fd_amount := F_amount
  have g_amount := He.glo_ok X G (c.fact 17 (f := .glo "_law_amount") rfl)
  have b_amount : Binds K fd_amount P_amount [] := F_amount.bindsN fun _ _ _ _ _ _ us hl => match us, hl with | [_], _ => rfl
  obtain ⟨fd_pact, F_pact⟩ := c.def_ 30 (d := d_pact) rfl
  have F_pact : FnP K "_law_pact" s_pact _ fd_pact := F_pact
  have g_pact := He.glo_ok X G (c.fact 18 (f := .glo "_law_pact") rfl)
  have b_pact : Binds K fd_pact P_pact [] := F_pact.bindsN fun _ _ _ _ _ _ us hl => match us, hl with | [_, _, _, _, _], _ => rfl
  obtain ⟨fd_part, F_part⟩ := c.def_ 31 (d := d_part) rfl
  have F_part : FnP K "_law_part" s_part _ fd_part := F_part
  have g_part := He.glo_ok X G (c.fact 19 (f := .glo "_law_part") rfl)
  have b_part : Binds K fd_part P_part [] := F_part.bindsN fun _ _ _ _ _ _ us hl => match us, hl with | [_, _, _, _, _], _ => rfl
  obtain ⟨fd_weight, F_weight⟩ := c.def_ 32 (d := d_weight) rfl
  have F_weight : FnP K "_law_weight" s_weight _ fd_weight := F_weight
  have g_weight := He.glo_ok X G (c.fact 20 (f := .glo "_law_weight") rfl)
  have b_weight : Binds K fd_weight P_weight [] := F_weight.bindsN fun _ _ _ _ _ _ us hl => match us, hl with | [_], _ => rfl
  obtain ⟨fd_part_weight, F_part_weight⟩ := c.def_ 33 (d := d_part_weight) rfl
  have F_part_weight : FnP K "_law_part_weight" s_part_weight _ fd_part_weight := F_part_weight
  have g_part_weight := He.glo_ok X G (c.fact 21 (f := .glo "_law_part_weight") rfl)
  have b_part_weight : Binds K fd_part_weight P_part_weight [] := F_part_weight.bindsN fun _ _ _ _ _ _ us hl => match us, hl with | [_], _ => rfl
  obtain ⟨fd_depth, F_depth⟩ := c.def_ 34 (d := d_depth) rfl
  have F_depth : FnP K "_law_depth" s_depth _ fd_depth := F_depth
  have g_depth := He.glo_ok X G (c.fact 22 (f := .glo "_law_depth") rfl)
  have b_depth : Binds K fd_depth P_depth [] := F_depth.bindsN fun _ _ _ _ _ _ us hl => match us, hl with | [_], _ => rfl
  obtain ⟨fd_part_depth, F_part_depth⟩ := c.def_ 35 (d := d_part_depth) rfl
  have F_part_depth : FnP K "_law_part_depth" s_part_depth _ fd_part_depth := F_part_depth
  have g_part_depth := He.glo_ok X G (c.fact 23 (f := .glo "_law_part_depth") rfl)
  have b_part_depth : Binds K fd_part_depth P_part_depth [] := F_part_depth.bindsN fun _ _ _ _ _ _ us hl => match us, hl with | [_], _ => rfl
  obtain ⟨fd_cut, F_cut⟩ := c.def_ 36 (d := d_cut) rfl
  have F_cut : FnP K "_law_cut" s_cut _ fd_cut := F_cut
  have g_cut := He.glo_ok X G (c.fact 24 (f := .glo "_law_cut") rfl)
  have b_cut : Binds K fd_cut P_cut [] := F_cut.bindsN fun _ _ _ _ _ _ us hl => match us, hl with | [_, _], _ => rfl
  obtain ⟨fd_text, F_text⟩ := c.def_ 37 (d := d_text) rfl
  have F_text : FnP K "_law_text" s_text _ fd_text := F_text
  have g_text := He.glo_ok X G (c.fact 25 (f := .glo "_law_text") rfl)
  have b_text : Binds K fd_text P_text [] := F_text.bindsN fun _ _ _ _ _ _ us hl => match us, hl with | [_], _ => rfl
  obtain ⟨fd_part_text, F_part_text⟩ := c.def_ 38 (d := d_part_text) rfl
  have F_part_text : FnP K "_law_part_text" s_part_text _ fd_part_text := F_part_text
  have g_part_text := He.glo_ok X G (c.fact 26 (f := .glo "_law_part_text") rfl)
  have b_part_text : Binds K fd_part_text P_part_text [] := F_part_text.bindsN fun _ _ _ _ _ _ us hl => match us, hl with | [_], _ => rfl
  obtain ⟨fd_build, F_build⟩ := c.def_ 39 (d := d_build) rfl
  have F_build : FnP K "_law_build" s_build _ fd_build := F_build
  have g_build := He.glo_ok X G (c.fact 27 (f := .glo "_law_build") rfl)
  have b_build : Binds K fd_build P_build [] := F_build.bindsN fun _ _ _ _ _ _ us hl => match us, hl with | [_], _ => rfl
  obtain ⟨fd_build_part, F_build_part⟩ := c.def_ 40 (d := d_build_part) rfl
  have F_build_part : FnP K "_law_build_part" s_build_part _ fd_build_part := F_build_part
  have g_build_part := He.glo_ok X G (c.fact 28 (f := .glo "_law_build_part") rfl)
  have b_build_part : Binds K fd_build_part P_build_part [] := F_build_part.bindsN fun _ _ _ _ _ _ us hl => match us, hl with | [_], _ => rfl
  obtain ⟨fd_is, F_is⟩ := c.def_ 41 (d := d_is) rfl
  have F_is : FnP K "_law_is" s_is _ fd_is := F_is
  have g_is := He.glo_ok X G (c.fact 29 (f := .glo "_law_is") rfl)
  have b_is : Binds K fd_is P_is [] := F_is.bindsN fun _ _ _ _ _ _ us hl => match us, hl with | [_, _], _ => rfl
  obtain ⟨fd_says, F_says⟩ := c.def_ 42 (d := d_says) rfl
  have F_says : FnP K "_law_says" s_says _ fd_says := F_says
  have g_says := He.glo_ok X G (c.fact 30 (f := .glo "_law_says") rfl)
  have b_says : Binds K fd_says P_says [] := F_says.bindsN fun _ _ _ _ _ _ us hl => match us, hl with | [_, _], _ => rfl
  obtain ⟨fd_most, F_most⟩ := c.def_ 43 (d := d_most) rfl
  have F_most : FnP K "_law_most" s_most _ fd_most := F_most
  have g_most := He.glo_ok X G (c.fact 31 (f := .glo "_law_most") rfl)
  have b_most : Binds K fd_most P_most [] := F_most.bindsN fun _ _ _ _ _ _ us hl => match us, hl with | [_], _ => rfl
  obtain ⟨fd_padded, F_padded⟩ := c.def_ 44 (d := d_padded) rfl
  have F_padded : FnP K "_law_padded" s_padded _ fd_padded := F_padded
  have g_padded := He.glo_ok X G (c.fact 32 (f := .glo "_law_padded") rfl)
  have b_padded : Binds K fd_padded P_padded [] := F_padded.bindsN fun _ _ _ _ _ _ us hl => match us, hl with | [_, _], _ => rfl
  obtain ⟨fd_chain, F_chain⟩ := c.def_ 45 (d := d_chain) rfl
  have F_chain : FnP K "_law_chain" s_chain _ fd_chain := F_chain
  have g_chain := He.glo_ok X G (c.fact 33 (f := .glo "_law_chain") rfl)
  have b_chain : Binds K fd_chain P_chain [] := F_chain.bindsN fun _ _ _ _ _ _ us hl => match us, hl with | [_, _, _, _], _ => rfl
  obtain ⟨fd_drawn, F_drawn⟩ := c.def_ 46 (d := d_drawn) rfl
  have F_drawn : FnP K "_law_drawn" s_drawn _ fd_drawn := F_drawn
  have g_drawn := He.glo_ok X G (c.fact 34 (f := .glo "_law_drawn") rfl)
  have b_drawn : Binds K fd_drawn P_drawn [] := F_drawn.bindsN fun _ _ _ _ _ _ us hl => match us, hl with | [_, _], _ => rfl
  obtain ⟨fd_sized, F_sized⟩ := c.def_ 47 (d := d_sized) rfl
  have F_sized : FnP K "_law_sized" s_sized _ fd_sized := F_sized
  have g_sized := He.glo_ok X G (c.fact 35 (f := .glo "_law_sized") rfl)
  have b_sized : Binds K fd_sized P_sized [] := F_sized.bindsN fun _ _ _ _ _ _ us hl => match us, hl with | [_, _, _, _], _ => rfl
  obtain ⟨fd_same, F_same⟩ := c.def_ 48 (d := d_same) rfl
  have F_same : FnP K "_law_same" s_same _ fd_same := F_same
  have g_same := He.glo_ok X G (c.fact 36 (f := .glo "_law_same") rfl)
  have b_same : Binds K fd_same P_same [] := F_same.bindsN fun _ _ _ _ _ _ us hl => match us, hl with | [_, _], _ => rfl
  obtain ⟨fd_same_part, F_same_part⟩ := c.def_ 49 (d := d_same_part) rfl
  have F_same_part : FnP K "_law_same_part" s_same_part _ fd_same_part := F_same_part
  have g_same_part := He.glo_ok X G (c.fact 37 (f := .glo "_law_same_part") rfl)
  have b_same_part : Binds K fd_same_part P_same_part [] := F_same_part.bindsN fun _ _ _ _ _ _ us hl => match us, hl with | [_, _], _ => rfl
  obtain ⟨fd_back, F_back⟩ := c.def_ 50 (d := d_back) rfl
  have F_back : FnP K "_law_back" s_back _ fd_back := F_back
  have g_back := He.glo_ok X G (c.fact 38 (f := .glo "_law_back") rfl)
  have b_back : Binds K fd_back P_back [] := F_back.bindsN fun _ _ _ _ _ _ us hl => match us, hl with | [_, _], _ => rfl
  obtain ⟨fd_changed, F_changed⟩ := c.def_ 51 (d := d_changed) rfl
  have F_changed : FnP K "_law_changed" s_changed _ fd_changed := F_changed
  have g_changed := He.glo_ok X G (c.fact 39 (f := .glo "_law_changed") rfl)
  have b_changed : Binds K fd_changed P_changed [] := F_changed.bindsN fun _ _ _ _ _ _ us hl => match us, hl with | [_, _], _ => rfl
  obtain ⟨fd_apart, F_apart⟩ := c.def_ 52 (d := d_apart) rfl
  have F_apart : FnP K "_law_apart" s_apart _ fd_apart := F_apart
  have g_apart := He.glo_ok X G (c.fact 40 (f := .glo "_law_apart") rfl)
  have b_apart : Binds K fd_apart P_apart [] := F_apart.bindsN fun _ _ _ _ _ _ us hl => match us, hl with | [_], _ => rfl
  obtain ⟨fd_law, F_law⟩ := c.def_ 53 (d := d_law) rfl
  have F_law : FnP K "law" s_law _ fd_law := F_law
  have g_law := He.glo_ok X G (c.fact 41 (f := .glo "law") rfl)
  have m_abs := He.free_ok X G (c.fact 42 (f := .free "abs") rfl)
  have m_all := He.free_ok X G (c.fact 43 (f := .free "all") rfl)
  have m_bool := He.free_ok X G (c.fact 44 (f := .free "bool") rfl)
  have m_int := He.free_ok X G (c.fact 45 (f := .free "int") rfl)
  have m_isinstance := He.free_ok X G (c.fact 46 (f := .free "isinstance") rfl)
  have m_len := He.free_ok X G (c.fact 47 (f := .free "len") rfl)
  have m_max := He.free_ok X G (c.fact 48 (f := .free "max") rfl)
  have m_min := He.free_ok X G (c.fact 49 (f := .free "min") rfl)
  have m_range := He.free_ok X G (c.fact 50 (f := .free "range") rfl)
  have m_str := He.free_ok X G (c.fact 51 (f := .free "str") rfl)
  have m_sum := He.free_ok X G (c.fact 52 (f := .free "sum") rfl)
  have m_super := He.free_ok X G (c.fact 53 (f := .free "super") rfl)
  have m_tuple := He.free_ok X G (c.fact 54 (f := .free "tuple") rfl)
  have g_Part := He.glo_ok X G (c.fact 55 (f := .glo "Part") rfl)
  have cls_Part := He.cls_ok (c.fact 56 (f := .cls "Part") rfl)
  have mk_Part := He.mkr_ok (c.fact 57 (f := .mkr "Part") rfl)
  have g_Pact := He.glo_ok X G (c.fact 58 (f := .glo "Pact") rfl)
  have cls_Pact := He.cls_ok (c.fact 59 (f := .cls "Pact") rfl)
  have mk_Pact := He.mkr_ok (c.fact 60 (f := .mkr "Pact") rfl)
  have n_Pact_parts := He.noat_ok (c.fact 61 (f := .noat "Pact" "parts") rfl)
  have n_Pact_weight := He.noat_ok (c.fact 62 (f := .noat "Pact" "weight") rfl)
  have n_Pact_depth := He.noat_ok (c.fact 63 (f := .noat "Pact" "depth") rfl)
  have n_Pact_text := He.noat_ok (c.fact 64 (f := .noat "Pact" "text") rfl)
  have g_Transfer := He.glo_ok X G (c.fact 65 (f := .glo "Transfer") rfl)
  have cls_Transfer := He.cls_ok (c.fact 66 (f := .cls "Transfer") rfl)
  have mk_Transfer := He.mkr_ok (c.fact 67 (f := .mkr "Transfer") rfl)
  have n_Transfer_payer := He.noat_ok (c.fact 68 (f := .noat "Transfer" "payer") rfl)
  have n_Transfer_payee := He.noat_ok (c.fact 69 (f := .noat "Transfer" "payee") rfl)
  have n_Transfer_amount := He.noat_ok (c.fact 70 (f := .noat "Transfer" "amount") rfl)
  have n_Transfer_weight := He.noat_ok (c.fact 71 (f := .noat "Transfer" "weight") rfl)
  have n_Transfer_depth := He.noat_ok (c.fact 72 (f := .noat "Transfer" "depth") rfl)
  have n_Transfer_text := He.noat_ok (c.fact 73 (f := .noat "Transfer" "text") rfl)
  have g_Event := He.glo_ok X G (c.fact 74 (f := .glo "Event") rfl)
  have cls_Event := He.cls_ok (c.fact 75 (f := .cls "Event") rfl)
  have mk_Event := He.mkr_ok (c.fact 76 (f := .mkr "Event") rfl)
  have n_Event_mark := He.noat_ok (c.fact 77 (f := .noat "Event" "mark") rfl)
  have n_Event_weight := He.noat_ok (c.fact 78 (f := .noat "Event" "weight") rfl)
  have n_Event_depth := He.noat_ok (c.fact 79 (f := .noat "Event" "depth") rfl)
  have n_Event_text := He.noat_ok (c.fact 80 (f := .noat "Event" "text") rfl)
  have g_Choice := He.glo_ok X G (c.fact 81 (f := .glo "Choice") rfl)
  have cls_Choice := He.cls_ok (c.fact 82 (f := .cls "Choice") rfl)
  have mk_Choice := He.mkr_ok (c.fact 83 (f := .mkr "Choice") rfl)
  have n_Choice_owner := He.noat_ok (c.fact 84 (f := .noat "Choice" "owner") rfl)
  have n_Choice_options := He.noat_ok (c.fact 85 (f := .noat "Choice" "options") rfl)
  have n_Choice_weight := He.noat_ok (c.fact 86 (f := .noat "Choice" "weight") rfl)
  have n_Choice_depth := He.noat_ok (c.fact 87 (f := .noat "Choice" "depth") rfl)
  have n_Choice_text := He.noat_ok (c.fact 88 (f := .noat "Choice" "text") rfl)
  have g_Rounds := He.glo_ok X G (c.fact 89 (f := .glo "Rounds") rfl)
  have cls_Rounds := He.cls_ok (c.fact 90 (f := .cls "Rounds") rfl)
  have mk_Rounds := He.mkr_ok (c.fact 91 (f := .mkr "Rounds") rfl)
  have n_Rounds_owner := He.noat_ok (c.fact 92 (f := .noat "Rounds" "owner") rfl)
  have n_Rounds_body := He.noat_ok (c.fact 93 (f := .noat "Rounds" "body") rfl)
  have n_Rounds_weight := He.noat_ok (c.fact 94 (f := .noat "Rounds" "weight") rfl)
  have n_Rounds_depth := He.noat_ok (c.fact 95 (f := .noat "Rounds" "depth") rfl)
  have n_Rounds_text := He.noat_ok (c.fact 96 (f := .noat "Rounds" "text") rfl)
  have g_Endless := He.glo_ok X G (c.fact 97 (f := .glo "Endless") rfl)
  have cls_Endless := He.cls_ok (c.fact 98 (f := .cls "Endless") rfl)
  have mk_Endless := He.mkr_ok (c.fact 99 (f := .mkr "Endless") rfl)
  have n_Endless_body := He.noat_ok (c.fact 100 (f := .noat "Endless" "body") rfl)
  have n_Endless_weight := He.noat_ok (c.fact 101 (f := .noat "Endless" "weight") rfl)
  have n_Endless_depth := He.noat_ok (c.fact 102 (f := .noat "Endless" "depth") rfl)
  have n_Endless_text := He.noat_ok (c.fact 103 (f := .noat "Endless" "text") rfl)
  have g_Times := He.glo_ok X G (c.fact 104 (f := .glo "Times") rfl)
  have cls_Times := He.cls_ok (c.fact 105 (f := .cls "Times") rfl)
  have mk_Times := He.mkr_ok (c.fact 106 (f := .mkr "Times") rfl)
  have n_Times_count := He.noat_ok (c.fact 107 (f := .noat "Times" "count") rfl)
  have n_Times_body := He.noat_ok (c.fact 108 (f := .noat "Times" "body") rfl)
  have n_Times_weight := He.noat_ok (c.fact 109 (f := .noat "Times" "weight") rfl)
  have n_Times_depth := He.noat_ok (c.fact 110 (f := .noat "Times" "depth") rfl)
  have n_Times_text := He.noat_ok (c.fact 111 (f := .noat "Times" "text") rfl)
  have g_Reader := He.glo_ok X G (c.fact 112 (f := .glo "Reader") rfl)
  have cls_Reader := He.cls_ok (c.fact 113 (f := .cls "Reader") rfl)
  have mk_Reader := He.mkr_ok (c.fact 114 (f := .mkr "Reader") rfl)
  have n_Reader_source := He.noat_ok (c.fact 115 (f := .noat "Reader" "source") rfl)
  have n_Reader_token := He.noat_ok (c.fact 116 (f := .noat "Reader" "token") rfl)
  have n_Reader_nesting := He.noat_ok (c.fact 117 (f := .noat "Reader" "nesting") rfl)
  have me_Reader_take := He.meth_ok (c.fact 118 (f := .meth "Reader" "take") rfl)
  have me_Reader_read_pact := He.meth_ok (c.fact 119 (f := .meth "Reader" "read_pact") rfl)
  have me_Reader_read_part := He.meth_ok (c.fact 120 (f := .meth "Reader" "read_part") rfl)
  have me_Reader_read_opening := He.meth_ok (c.fact 121 (f := .meth "Reader" "read_opening") rfl)
  have me_Reader_read_body := He.meth_ok (c.fact 122 (f := .meth "Reader" "read_body") rfl)
  have me_Reader_read_options := He.meth_ok (c.fact 123 (f := .meth "Reader" "read_options") rfl)
  have g0_MOST_AMOUNT := He.int_ok X G (c.fact 124 (f := .int "MOST_AMOUNT" (1000000000000000000000000000000000000000000000000000000000000)) rfl)
  obtain ⟨tok_MOST_AMOUNT, g_MOST_AMOUNT⟩ := g0_MOST_AMOUNT
  have g0_MOST_WEIGHT := He.int_ok X G (c.fact 125 (f := .int "MOST_WEIGHT" (400)) rfl)
  obtain ⟨tok_MOST_WEIGHT, g_MOST_WEIGHT⟩ := g0_MOST_WEIGHT
  have g0_MOST_DEPTH := He.int_ok X G (c.fact 126 (f := .int "MOST_DEPTH" (30)) rfl)
  obtain ⟨tok_MOST_DEPTH, g_MOST_DEPTH⟩ := g0_MOST_DEPTH
  have g0_MOST_COUNT := He.int_ok X G (c.fact 127 (f := .int "MOST_COUNT" (100)) rfl)
  obtain ⟨tok_MOST_COUNT, g_MOST_COUNT⟩ := g0_MOST_COUNT
  have g0_MOST_OPTIONS := He.int_ok X G (c.fact 128 (f := .int "MOST_OPTIONS" (6)) rfl)
  obtain ⟨tok_MOST_OPTIONS, g_MOST_OPTIONS⟩ := g0_MOST_OPTIONS
  have g0_MOST_DIGITS := He.int_ok X G (c.fact 129 (f := .int "MOST_DIGITS" (61)) rfl)
  obtain ⟨tok_MOST_DIGITS, g_MOST_DIGITS⟩ := g0_MOST_DIGITS
  have g0_PARTIES := He.str_ok X G (c.fact 130 (f := .str "PARTIES" "abcdef") rfl)
  obtain ⟨tok_PARTIES, g_PARTIES⟩ := g0_PARTIES
  have g0_MARKS := He.str_ok X G (c.fact 131 (f := .str "MARKS" "ABCDEFGHIJKLMNOPQRSTUVWXYZ") rfl)
  obtain ⟨tok_MARKS, g_MARKS⟩ := g0_MARKS
  have g0_DIGITS := He.str_ok X G (c.fact 132 (f := .str "DIGITS" "0123456789") rfl)
  obtain ⟨tok_DIGITS, g_DIGITS⟩ := g0_DIGITS
  have g0_LETTERS := He.str_ok X G (c.fact 133 (f := .str "LETTERS" "abcdefghijklmnopqrstuvwxyzABCDEFGHIJKLMNOPQRSTUVWXYZ") rfl)
  obtain ⟨tok_LETTERS, g_LETTERS⟩ := g0_LETTERS
  have g0_SIGNS := He.str_ok X G (c.fact 134 (f := .str "SIGNS" "()[]|,.") rfl)
  obtain ⟨tok_SIGNS, g_SIGNS⟩ := g0_SIGNS
  have g_HouseError := He.glo_ok X G (c.fact 135 (f := .glo "HouseError") rfl)
  have g_BadParty := He.glo_ok X G (c.fact 136 (f := .glo "BadParty") rfl)
  have f_BadParty := exnB_ok (all_at cy 0)
  have x_BadParty : ∀ base : Heap, Exn P w K mg base "BadParty" (He.ga K "BadParty") "party" := fun base => xn_BadParty (y_at cs 0) f_BadParty hfl htop g_BadParty m_super
  obtain ⟨fd_Transfer___init__, c_, cc_, kV_, doc_, pm_, ct_, an_, hfd_, SI_Transfer⟩ := supI_of (P := P) (x := "Transfer") (y := "Part") (q := "Transfer.__init__") (st := s_Transfer___init__) (y_at cs 1) (all_at cu 0) hfl htop
  have b_Transfer___init__ : Binds K fd_Transfer___init__ P_Transfer___init__ [] := by
    subst hfd_
    exact Binds.all fun us hl => match us, hl with | [_, _, _, _], _ => rfl
  obtain ⟨fd_Event___init__, c_, cc_, kV_, doc_, pm_, ct_, an_, hfd_, SI_Event⟩ := supI_of (P := P) (x := "Event") (y := "Part") (q := "Event.__init__") (st := s_Event___init__) (y_at cs 2) (all_at cu 1) hfl htop
  have b_Event___init__ : Binds K fd_Event___init__ P_Event___init__ [] := by
    subst hfd_
    exact Binds.all fun us hl => match us, hl with | [_, _], _ => rfl
  obtain ⟨fd_Choice___init__, c_, cc_, kV_, doc_, pm_, ct_, an_, hfd_, SI_Choice⟩ := supI_of (P := P) (x := "Choice") (y := "Part") (q := "Choice.__init__") (st := s_Choice___init__) (y_at cs 3) (all_at cu 2) hfl htop
  have b_Choice___init__ : Binds K fd_Choice___init__ P_Choice___init__ [] := by
    subst hfd_
    exact Binds.all fun us hl => match us, hl with | [_, _, _], _ => rfl
  obtain ⟨fd_Rounds___init__, c_, cc_, kV_, doc_, pm_, ct_, an_, hfd_, SI_Rounds⟩ := supI_of (P := P) (x := "Rounds") (y := "Part") (q := "Rounds.__init__") (st := s_Rounds___init__) (y_at cs 4) (all_at cu 3) hfl htop
  have b_Rounds___init__ : Binds K fd_Rounds___init__ P_Rounds___init__ [] := by
    subst hfd_
    exact Binds.all fun us hl => match us, hl with | [_, _, _], _ => rfl
  obtain ⟨fd_Endless___init__, c_, cc_, kV_, doc_, pm_, ct_, an_, hfd_, SI_Endless⟩ := supI_of (P := P) (x := "Endless") (y := "Part") (q := "Endless.__init__") (st := s_Endless___init__) (y_at cs 5) (all_at cu 4) hfl htop
  have b_Endless___init__ : Binds K fd_Endless___init__ P_Endless___init__ [] := by
    subst hfd_
    exact Binds.all fun us hl => match us, hl with | [_, _], _ => rfl
  obtain ⟨fd_Times___init__, c_, cc_, kV_, doc_, pm_, ct_, an_, hfd_, SI_Times⟩ := supI_of (P := P) (x := "Times") (y := "Part") (q := "Times.__init__") (st := s_Times___init__) (y_at cs 6) (all_at cu 5) hfl htop
  have b_Times___init__ : Binds K fd_Times___init__ P_Times___init__ [] := by
    subst hfd_
    exact Binds.all fun us hl => match us, hl with | [_, _, _], _ => rfl
  have isP := isB_ok cls_Pact (all_at cx 0)

  have fl_Transfer : Fl3 K (He.ga K "Transfer") := ⟨cls_Transfer, n_Transfer_weight, n_Transfer_depth, n_Transfer_text⟩
  have pk_Transfer : PtK K (He.ga K "Part") (He.ga K "Transfer") := ⟨fl_Transfer, of_decide_eq_true (all_at ck 0), isB_ok cls_Transfer (all_at ci 0)⟩
  have kd_Transfer : ∃ u, Con K (He.ga K "Transfer") "KIND" (.str "transfer") u := conB_ok (by decide +kernel) (all_at cn 0)
  have fl_Event : Fl3 K (He.ga K "Event") := ⟨cls_Event, n_Event_weight, n_Event_depth, n_Event_text⟩
  have pk_Event : PtK K (He.ga K "Part") (He.ga K "Event") := ⟨fl_Event, of_decide_eq_true (all_at ck 1), isB_ok cls_Event (all_at ci 1)⟩
  have kd_Event : ∃ u, Con K (He.ga K "Event") "KIND" (.str "event") u := conB_ok (by decide +kernel) (all_at cn 1)
  have fl_Choice : Fl3 K (He.ga K "Choice") := ⟨cls_Choice, n_Choice_weight, n_Choice_depth, n_Choice_text⟩
  have pk_Choice : PtK K (He.ga K "Part") (He.ga K "Choice") := ⟨fl_Choice, of_decide_eq_true (all_at ck 2), isB_ok cls_Choice (all_at ci 2)⟩
  have kd_Choice : ∃ u, Con K (He.ga K "Choice") "KIND" (.str "choice") u := conB_ok (by decide +kernel) (all_at cn 2)
  have fl_Rounds : Fl3 K (He.ga K "Rounds") := ⟨cls_Rounds, n_Rounds_weight, n_Rounds_depth, n_Rounds_text⟩
  have pk_Rounds : PtK K (He.ga K "Part") (He.ga K "Rounds") := ⟨fl_Rounds, of_decide_eq_true (all_at ck 3), isB_ok cls_Rounds (all_at ci 3)⟩
  have kd_Rounds : ∃ u, Con K (He.ga K "Rounds") "KIND" (.str "rounds") u := conB_ok (by decide +kernel) (all_at cn 3)
  have fl_Endless : Fl3 K (He.ga K "Endless") := ⟨cls_Endless, n_Endless_weight, n_Endless_depth, n_Endless_text⟩
  have pk_Endless : PtK K (He.ga K "Part") (He.ga K "Endless") := ⟨fl_Endless, of_decide_eq_true (all_at ck 4), isB_ok cls_Endless (all_at ci 4)⟩
  have kd_Endless : ∃ u, Con K (He.ga K "Endless") "KIND" (.str "endless") u := conB_ok (by decide +kernel) (all_at cn 4)
  have fl_Times : Fl3 K (He.ga K "Times") := ⟨cls_Times, n_Times_weight, n_Times_depth, n_Times_text⟩
  have pk_Times : PtK K (He.ga K "Part") (He.ga K "Times") := ⟨fl_Times, of_decide_eq_true (all_at ck 5), isB_ok cls_Times (all_at ci 5)⟩
  have kd_Times : ∃ u, Con K (He.ga K "Times") "KIND" (.str "times") u := conB_ok (by decide +kernel) (all_at cn 5)
  obtain ⟨eq1, eq2, eq3⟩ := spB_ok (all_at cx 1)
  obtain ⟨ad1, ad2, ad3⟩ := spB_ok (all_at cx 2)
  obtain ⟨mu1, mu2, mu3⟩ := spB_ok (all_at cx 3)
  have sfP := all_at cx 4
  have hr0 := He.eqO_ok (all_at cx 5)
  obtain ⟨fo, hfo⟩ := Option.isSome_iff_exists.mp (all_at cx 6)
  obtain ⟨ro, hro⟩ := Option.isSome_iff_exists.mp (all_at cx 7)
  have hsub := of_decide_eq_true (all_at cx 8)
  have pts : PtsK K (He.ga K "Part") (kk K) := ⟨pk_Transfer, pk_Event, pk_Choice, pk_Rounds, pk_Endless, pk_Times⟩
  have paK : PaK K (kk K).P := ⟨isP, ⟨cls_Pact, n_Pact_weight, n_Pact_depth, n_Pact_text⟩, n_Pact_parts⟩
  have pa : PtA K (kk K) := ⟨cls_Transfer, n_Transfer_payer, n_Transfer_payee, n_Transfer_amount, cls_Event, n_Event_mark, cls_Choice, n_Choice_owner, n_Choice_options, cls_Rounds, n_Rounds_owner, n_Rounds_body, cls_Endless, n_Endless_body, cls_Times, n_Times_count, n_Times_body, cls_Pact, n_Pact_parts, kd_Transfer, kd_Event, kd_Choice, kd_Rounds, kd_Endless, kd_Times, n_Transfer_text, n_Event_text⟩
  have ic : Ic6 K (kk K) := ⟨isB_ok cls_Transfer (all_at ci 0), isB_ok cls_Event (all_at ci 1), isB_ok cls_Choice (all_at ci 2), isB_ok cls_Rounds (all_at ci 3), isB_ok cls_Endless (all_at ci 4), isB_ok cls_Times (all_at ci 5)⟩
  have g_AMT : mg "MOST_AMOUNT" = some (.int (10 ^ 60) tok_MOST_AMOUNT) := by
    rw [g_MOST_AMOUNT, show (10 : Int) ^ 60 = 1000000000000000000000000000000000000000000000000000000000000 by decide +kernel]
  have e := hfa.symm.trans g_law
  cases e
  have b := FunD.bindsA (ps := ["_law_script"]) F_law fun _ _ _ _ _ _ us hl => match us, hl with | [_], _ => rfl
  refine ⟨fd_law, fun s v => b s [v] rfl, fun base _ _ => ?_⟩
  have c_cell : Cal P w K mg base 1 "_law_cell" (spCell K) := cal_of F_cell g_cell b_cell (ok_cell F_cell m_len m_int)
  have c_draws : Cal P w K mg base 1 "_law_draws" spDraws := cal_of F_draws g_draws b_draws (ok_draws F_draws m_int m_abs m_range)
  have c_take : Cal P w K mg base 1 "_law_take" (spTake K) := cal_of F_take g_take b_take (ok_take F_take m_len)
  have c_is_party : Cal P w K mg base 1 "is_party" spIsP := cal_of F_is_party g_is_party b_is_party (ok_is_party F_is_party m_len tok_PARTIES g_PARTIES)
  have c_is_mark : Cal P w K mg base 1 "is_mark" spIsM := cal_of F_is_mark g_is_mark b_is_mark (ok_is_mark F_is_mark m_len tok_MARKS g_MARKS)
  have c_check_party : CalX P w K mg base 3 "check_party" (spChP (He.ga K "BadParty")) := ⟨_, _, _, ok_check_party F_check_party c_is_party (x_BadParty base), g_check_party, F_check_party.kp, b_check_party⟩
  have c_check_mark : CalX P w K mg base 3 "check_mark" spChM := ⟨_, _, _, ok_check_mark F_check_mark c_is_mark, g_check_mark, F_check_mark.kp, b_check_mark⟩
  have c_check_size : CalX P w K mg base 3 "check_size" spSize := ⟨_, _, _, ok_check_size F_check_size tok_MOST_WEIGHT g_MOST_WEIGHT tok_MOST_DEPTH g_MOST_DEPTH, g_check_size, F_check_size.kp, b_check_size⟩
  have FB : FnB P w K mg base (He.ma K (He.ga K "Part") "__init__") := fnr_okX (ok_part F_Part___init__ c_check_size) b_Part___init__
  have c_as_pact : CalX P w K mg base 1 "as_pact" (spAsP (kk K) K) := ⟨_, _, _, ok_as_pact F_as_pact m_isinstance paK g_Pact, g_as_pact, F_as_pact.kp, b_as_pact⟩
  have y_Transfer : MakY P w K mg base 5 "Transfer" (spT (kk K) K) := mk_T ⟨_, _, _, mk_Transfer, ok_tinit SI_Transfer FB m_super fl_Transfer n_Transfer_payer n_Transfer_payee n_Transfer_amount tok_MOST_AMOUNT g_AMT c_check_party, g_Transfer, b_Transfer___init__⟩
  have y_Event : MakY P w K mg base 5 "Event" (spE (kk K) K) := mk_E ⟨_, _, _, mk_Event, ok_einit SI_Event FB m_super fl_Event n_Event_mark c_check_mark, g_Event, b_Event___init__⟩
  have y_Choice : MakY P w K mg base 5 "Choice" (spC (kk K) K) := mk_C ⟨_, _, _, mk_Choice, ok_cinit SI_Choice FB m_super m_len m_tuple m_sum m_max tok_MOST_OPTIONS g_MOST_OPTIONS fl_Choice n_Choice_owner n_Choice_options paK c_check_party c_as_pact, g_Choice, b_Choice___init__⟩
  have y_Rounds : MakY P w K mg base 5 "Rounds" (spR (kk K) K) := mk_R ⟨_, _, _, mk_Rounds, ok_rinit SI_Rounds FB m_super fl_Rounds n_Rounds_owner n_Rounds_body paK c_check_party c_as_pact, g_Rounds, b_Rounds___init__⟩
  have y_Endless : MakY P w K mg base 5 "Endless" (spN (kk K) K) := mk_N ⟨_, _, _, mk_Endless, ok_ninit SI_Endless FB m_super fl_Endless n_Endless_body paK c_as_pact, g_Endless, b_Endless___init__⟩
  have y_Times : MakY P w K mg base 5 "Times" (spM (kk K) K) := mk_M ⟨_, _, _, mk_Times, ok_timesinit SI_Times FB m_super m_max tok_MOST_COUNT g_MOST_COUNT fl_Times n_Times_count n_Times_body paK c_as_pact, g_Times, b_Times___init__⟩
  have y_Pact : MakY P w K mg base 4 "Pact" (spP (kk K) K) := mk_P ⟨_, _, _, mk_Pact, ok_pinit F_Pact___init__ m_len m_tuple m_sum m_max m_isinstance g_Part paK pts c_check_size, g_Pact, b_Pact___init__⟩
  have rc : RdC K (He.ga K "Reader") := ⟨cls_Reader, n_Reader_source, n_Reader_token, n_Reader_nesting⟩
  have c_end_of : Cal P w K mg base 1 "end_of" spEn := cal_of F_end_of g_end_of b_end_of (ok_end_of F_end_of m_len)
  have c_number_of : Cal P w K mg base 2 "number_of" spNb := cal_of F_number_of g_number_of b_number_of (ok_number_of F_number_of m_len m_int tok_DIGITS g_DIGITS tok_MOST_DIGITS g_MOST_DIGITS c_end_of)
  have c_word_token : Cal P w K mg base 3 "word_token" spWt := cal_of F_word_token g_word_token b_word_token (ok_word_token F_word_token tok_MOST_AMOUNT g_AMT tok_MOST_COUNT g_MOST_COUNT c_is_party c_is_mark c_number_of)
  have c_token_at : Cal P w K mg base 4 "token_at" spTa := cal_of F_token_at g_token_at b_token_at (ok_token_at F_token_at m_len tok_SIGNS g_SIGNS tok_LETTERS g_LETTERS tok_DIGITS g_DIGITS c_end_of c_word_token)
  have me_take : Met P w K mg base 5 (He.ga K "Reader") "take" (spTk (He.ga K "Reader")) := ⟨_, _, _, cls_Reader, me_Reader_take, ok_rtake F_Reader_take rc c_token_at, b_Reader_take⟩
  have me_read_opening : Met P w K mg base 6 (He.ga K "Reader") "read_opening" (spRo (He.ga K "Reader")) := ⟨_, _, _, cls_Reader, me_Reader_read_opening, ok_read_opening F_Reader_read_opening rc tok_MOST_DEPTH g_MOST_DEPTH me_take, b_Reader_read_opening⟩
  have me_rpart := all_rpart cls_Reader rc me_Reader_read_part F_Reader_read_part b_Reader_read_part me_Reader_read_pact F_Reader_read_pact b_Reader_read_pact me_Reader_read_body F_Reader_read_body b_Reader_read_body me_Reader_read_options F_Reader_read_options b_Reader_read_options m_len tok_MOST_OPTIONS g_MOST_OPTIONS me_take me_read_opening 30
  have me_read_pact : Met P w K mg base 98 (He.ga K "Reader") "read_pact" (spRpc (He.ga K "Reader") 30) := ⟨_, _, _, cls_Reader, me_Reader_read_pact, ok_read_pact F_Reader_read_pact rc me_take me_rpart, b_Reader_read_pact⟩
  have k_Reader : Mak P w K mg base 5 "Reader" (spRn (He.ga K "Reader")) := mak_reader (si := ok_rdinit F_Reader___init__ rc c_token_at) mk_Reader g_Reader b_Reader___init__
  have c_built := all_built F_built g_built b_built F_built_part g_built_part b_built_part y_Pact y_Transfer y_Event y_Choice y_Rounds y_Endless y_Times 31
  have c_parse_pact : Cal P w K mg base 100 "parse_pact" (spPa (kk K) K) := cal_of F_parse_pact g_parse_pact b_parse_pact (ok_parse_pact F_parse_pact k_Reader me_read_pact me_take c_built)
  have c_amount : Cal P w K mg base 1 "_law_amount" (spAm) := cal_of F_amount g_amount b_amount (ok_amount F_amount m_int m_range)
  have c_pact1 := all_pact F_pact g_pact b_pact F_part g_part b_part m_int m_len m_range c_take c_amount 2
  have c_pact := all_pact F_pact g_pact b_pact F_part g_part b_part m_int m_len m_range c_take c_amount 3
  have c_part : Cal P w K mg base (2 * 2 + 7) "_law_part" (spPp K 2) := cal_of F_part g_part b_part (ok_part_ F_part m_int m_len m_range c_take c_amount c_pact1)
  have c_weight : Cal P w K mg base (2 * 5 + 6) "_law_weight" (spWl 5) := all_weight F_weight g_weight b_weight F_part_weight g_part_weight b_part_weight m_sum m_max 5
  have c_weight30 : Cal P w K mg base (2 * 30 + 6) "_law_weight" (spWl 30) := all_weight F_weight g_weight b_weight F_part_weight g_part_weight b_part_weight m_sum m_max 30
  have c_weight31 : Cal P w K mg base (2 * 31 + 6) "_law_weight" (spWl 31) := all_weight F_weight g_weight b_weight F_part_weight g_part_weight b_part_weight m_sum m_max 31
  have c_part_weight : Cal P w K mg base (2 * 5 + 7) "_law_part_weight" (spWp 5) := cal_of F_part_weight g_part_weight b_part_weight (ok_part_weight F_part_weight m_sum m_max c_weight)
  have c_part_weight30 : Cal P w K mg base (2 * 30 + 7) "_law_part_weight" (spWp 30) := cal_of F_part_weight g_part_weight b_part_weight (ok_part_weight F_part_weight m_sum m_max c_weight30)
  have c_part_weight31 : Cal P w K mg base (2 * 31 + 7) "_law_part_weight" (spWp 31) := cal_of F_part_weight g_part_weight b_part_weight (ok_part_weight F_part_weight m_sum m_max c_weight31)
  have c_cut : Cal P w K mg base (2 * 5 + 8) "_law_cut" (spCut 5) := cal_of F_cut g_cut b_cut (ok_cut F_cut c_weight c_part_weight)
  have c_cut31 : Cal P w K mg base (2 * 31 + 8) "_law_cut" (spCut 31) := cal_of F_cut g_cut b_cut (ok_cut F_cut c_weight31 c_part_weight31)
  have c_depth : Cal P w K mg base (2 * 5 + 6) "_law_depth" (spDl 5) := all_depth F_depth g_depth b_depth F_part_depth g_part_depth b_part_depth m_max 5
  have c_depth30 : Cal P w K mg base (2 * 30 + 6) "_law_depth" (spDl 30) := all_depth F_depth g_depth b_depth F_part_depth g_part_depth b_part_depth m_max 30
  have c_depth31 : Cal P w K mg base (2 * 31 + 6) "_law_depth" (spDl 31) := all_depth F_depth g_depth b_depth F_part_depth g_part_depth b_part_depth m_max 31
  have c_part_depth30 : Cal P w K mg base (2 * 30 + 7) "_law_part_depth" (spDp 30) := cal_of F_part_depth g_part_depth b_part_depth (ok_part_depth F_part_depth m_max c_depth30)
  have c_build := all_build F_build g_build b_build F_build_part g_build_part b_build_part y_Pact y_Transfer y_Event y_Choice y_Rounds y_Endless y_Times 31
  have c_text30 : Cal P w K mg base (2 * 30 + 6) "_law_text" (spTl 30) := all_text F_text g_text b_text F_part_text g_part_text b_part_text m_len m_str 30
  have c_text31 : Cal P w K mg base (2 * 31 + 6) "_law_text" (spTl 31) := all_text F_text g_text b_text F_part_text g_part_text b_part_text m_len m_str 31
  have c_part_text : Cal P w K mg base (2 * 30 + 7) "_law_part_text" (spTp 30) := cal_of F_part_text g_part_text b_part_text (ok_part_text F_part_text m_str c_text30)
  have c_marks : Cal P w K mg base 1 "_law_marks" (spMk_) := cal_of F_marks g_marks b_marks (ok_marks F_marks)
  have c_is : Cal P w K mg base 1 "_law_is" (spIs) := cal_of F_is g_is b_is (ok_is F_is m_isinstance m_int m_bool)
  have c_says : Cal P w K mg base 1 "_law_says" (spSays) := cal_of F_says g_says b_says (ok_says F_says m_isinstance m_str)
  have c_most : Cal P w K mg base 1 "_law_most" spMs := cal_of F_most g_most b_most (ok_most F_most m_int)
  have c_padded : Cal P w K mg base (2 * 5 + 7) "_law_padded" (spPd 5) := cal_of F_padded g_padded b_padded (ok_padded F_padded m_int m_range c_weight c_marks)
  have c_chain : Cal P w K mg base 2 "_law_chain" (spCn K) := cal_of F_chain g_chain b_chain (ok_chain F_chain m_int m_range c_take)
  have c_drawn : Cal P w K mg base (2 * 5 + 9) "_law_drawn" (spDn K) := cal_of F_drawn g_drawn b_drawn (ok_drawn F_drawn m_int m_len m_range c_cell c_draws c_marks c_pact c_part c_cut c_most c_padded c_depth c_chain)
  have e_Pact : Eqo P w K mg base 1 (kk K).P (spEq (kk K) K) := ⟨_, _, _, ok_peq F_Pact___eq__ paK m_isinstance g_Pact, eq1, eq2, b_Pact___eq__⟩
  have o_add : Bin2 P w K mg base 6 (kk K).P "__add__" (spAd (kk K) K) := ⟨_, _, _, ok_add F_Pact___add__ pa y_Pact c_as_pact, ad1, ad2, b_Pact___add__, sfP⟩
  have o_mul : BinJ P w K mg base 7 (kk K).P .Mult (spMu (kk K) K) := ⟨_, _, _, fo, ro, ok_mul F_Pact___mul__ y_Pact y_Times, mu1, mu2, b_Pact___mul__, sfP, hr0, hfo, hro, hsub⟩
  have c_sized : Cal P w K mg base 2 "_law_sized" (spSz K) := cal_of F_sized g_sized b_sized (ok_sized F_sized c_is c_says)
  have c_same := all_same F_same g_same b_same F_same_part g_same_part b_same_part pa pts ic paK m_isinstance m_tuple m_len m_range m_all g_Pact g_Transfer g_Event g_Choice g_Rounds g_Endless g_Times c_sized c_is c_says c_part_weight30 c_part_depth30 c_part_text c_weight31 c_depth31 c_text31 31
  have c_back : Cal P w K mg base 133 "_law_back" (spBa (kk K) K) := cal_of F_back g_back b_back (ok_back F_back g_HouseError paK e_Pact c_parse_pact c_same)
  have c_changed := all_changed F_changed g_changed b_changed m_int m_len c_marks 31
  have c_apart : Cal P w K mg base 70 "_law_apart" spAp := cal_of F_apart g_apart b_apart (ok_apart F_apart m_isinstance m_len m_range m_bool paK e_Pact c_build)
  exact (ok_law F_law m_int m_min m_max o_add o_mul c_cell c_draws c_marks c_pact c_part c_drawn c_weight31 c_depth31 c_build c_back c_cut31 c_changed c_apart).mono (by decide)
end Z
open PySem PySem.W PySem.Calls PyProof.Rows
theorem PySem.Challenge.cw_signedpacts_k26_whole_pact_round_trip_holds : PySem.Challenge.rw_signedpacts_k26_whole_pact_round_trip.Holds := by
  w_on; o_law
  refine HandSHeadRun.head_any (r := OpenLaw.row PySem.Challenge.rw_signedpacts_k26_whole_pact_round_trip) (q := view (OpenLaw.row PySem.Challenge.rw_signedpacts_k26_whole_pact_round_trip).prog [74]) (H := Zr.hk) (ob := Zr.ob) (M := 8000) (loose := Zr.loose) (d := HandSHeadRun.topDef (OpenLaw.row PySem.Challenge.rw_signedpacts_k26_whole_pact_round_trip).prog 74) (kwd := []) Zr.ob_eq
    (by kernel_rfl) (fun s => by kernel_rfl) Zr.run (by kernel_rfl) (by kernel_rfl) (by kernel_rfl) (by rfl) (by first | assumption | decide +kernel) (by decide +kernel) ⟨rfl, rfl, rfl, rfl, rfl, by decide +kernel⟩ ?hw ?hc
  case hw => w_witness2
  case hc =>
    refine L2.walk_ofE (l := PySem.Challenge.rw_signedpacts_k26_whole_pact_round_trip) (n := 63) (k := 140) (x := "_law_script") (CX := L2.CX0) rfl (by decide) (by kernel_rfl) ⟨rfl, by decide, by decide⟩ ?F (fun _ _ _ _ z => z)
    intro w mg fa h Y G hmg0
    obtain ⟨K, KX, c, cs, cx⟩ := Y
    have hmg : mg ("law" : PySem.Str) = some (.ref fa) := by
      have e : (HandSHeadRun.topDef (OpenLaw.row PySem.Challenge.rw_signedpacts_k26_whole_pact_round_trip).prog 74).name = ("law" : PySem.Str) := by kernel_rfl
      rw [← e]
      exact hmg0
    obtain ⟨fd, hb, hF⟩ := Z.facts (P := (PySem.Challenge.rw_signedpacts_k26_whole_pact_round_trip).prog) (w := w) KX G hmg c cs cx (by kernel_rfl) (by kernel_rfl)
    exact ⟨K, fd, Z.spLaw K, KX, hb, fun H a ns hl _ hS => ⟨a, ns, rfl, hS, fun _ => rfl⟩, hF⟩
