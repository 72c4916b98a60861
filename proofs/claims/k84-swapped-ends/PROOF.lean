import PyProof.Rows.All
import Wide.All
import OpenK.AllK
import Wide.FinOn
import HandS.ForMost
import HandS.Zip
import HandS.TupMul
import HandS.Codes
import KE.GoesMore
import KE.GoesEnum
import HandS.Defaults
import HandS.IsInst
import HandS.Wide
import HandS.WideBits
import HandS.NoneIn
import HandS.OwnEq
import HandS.Star
import HandS.SetTxtIn
import HandS.Dict
import HandS.SetKeys
import HandS.TupLen
import KE.KeyNested
import PyProof.DictMoreH
import PyProof.DictRoadsH
import HandS.ExcInit
import HandS.ExcField
import HandS.ExcIs
import HandS.Nested
import HandS.ClsMeth
import HandS.HeadHook1
import KE.KSuper
import KE.KExcSuper
import HandS.WordsExc
import HandS.ExcInitHot
import KE.KExcIs
import HandS.HeadHook2
import HandS.Property
import HandS.Head0
import HandS.Head1
import HandS.Head2
import HandS.HeadEnd
import HandS.NamedTupGet
import HandS.ExcCtx
import HandS.ExcOwn
import HandS.Strs
import OpenK.KMeth
import HandS.Replace
import HandS.Conv
import PyProof.StrLawsFirst
import HandS.Style
import HandS.Deep
import HandS.MakeKw
import HandS.Sort
import HandS.ListItems
import HandS.Text
import PySem.Challenge.RW_signedpacts_k84_swapped_ends
set_option Elab.async false
set_option linter.all false
set_option maxRecDepth 100000
set_option maxHeartbeats 4000000
namespace Z
open PySem PySem.Spec PyProof.Rows L2
/-! ### zip over two sequences, each a list (true) or a tuple (false) -/
def SqK (b : Bool) (K : PySem.W.Frag) (H : Hp) (a : Addr) (xs : List V) : Prop := match b with
  | true => SqL K H a xs
  | false => SqT K H a xs
def ItK (b : Bool) (h : Heap) (it l : Addr) (i : Nat) : Prop := match b with
  | true => h.IsListIter it l i
  | false => h.IsTupleIter it l i
def IsK (b : Bool) (h : Heap) (l : Addr) (xs : Array Value) : Prop := match b with
  | true => h.IsList l xs
  | false => h.IsTuple l xs
theorem ItK.at' {b : Bool} {h h' : Heap} {it l : Addr} {i : Nat} (x : ItK b h it l i) (k : ∀ o, h.get? it = some o → h'.get? it = some o) : ItK b h' it l i := by
  cases b
  · exact Heap.IsTupleIter.at x k
  · exact Heap.IsListIter.at x k
theorem ItK.obj {b : Bool} {h : Heap} {it l : Addr} {i : Nat} (x : ItK b h it l i) : ∃ o, h.get? it = some o ∧ ∀ v, o.data ≠ .cell v := by
  cases b
  · obtain ⟨o, e, _, d⟩ := (show h.IsTupleIter it l i from x)
    exact ⟨o, e, fun v q => by rw [d] at q; cases q⟩
  · obtain ⟨o, e, _, d⟩ := (show h.IsListIter it l i from x)
    exact ⟨o, e, fun v q => by rw [d] at q; cases q⟩
theorem sqk_is {X : Cx} {pins : List (Addr × Obj)} {σ : L2.St} {H : Hp} {s : Shared} {b : Bool} {a : Addr} {xs : List V} (I : Inv X pins σ H s) (h : SqK b X.K H a xs) :
    ∃ its : List Value, Vals xs its ∧ IsK b s.heap a its.toArray ∧ a < s.heap.objs.size := by
  cases b
  · obtain ⟨its, r, p, _⟩ := I.tuple h
    obtain ⟨o, ho, _⟩ := id p
    exact ⟨its, r, p, Heap.lt_size ho⟩
  · obtain ⟨its, r, p, _⟩ := I.list h
    exact ⟨its, r, p.isList, p.lt⟩
theorem sqk_inj {X : Cx} {pins : List (Addr × Obj)} {σ : L2.St} {H : Hp} {s : Shared} {b : Bool} {a : Addr} {xs ys : List V} (I : Inv X pins σ H s) (h : SqK b X.K H a xs) (h' : SqK b X.K H a ys) : xs = ys := by
  cases b
  · exact I.tuple_inj h h'
  · exact I.list_inj h h'
theorem drawsK {prog : Program} {w : World} {A : Around} (b : Bool) (hh : A.handled = none) (it l : Addr) (hne : l ≠ it) (items : Array Value) :
    Draws prog w A it [it, l] items.size (fun i v => items[i]? = some v) (fun i h => ItK b h it l i ∧ IsK b h l items) := by
  cases b
  · exact Draws.tuple hh it l hne items
  · exact Draws.list hh it l hne items
def ItzM (p q : Bool) (K : PySem.W.Frag) (a b : Addr) : It :=
  ⟨fun i H => ∃ (xs ys : List V) (x y : V), SqK p K H a xs ∧ SqK q K H b ys ∧ xs[i]? = some x ∧ ys[i]? = some y,
   fun i H v H' => ∃ T x y, v = .ref T ∧ H T = none ∧ H' = upd H T (.tup [x, y]) ∧ (∀ xs, SqK p K H a xs → xs[i]? = some x) ∧ (∀ ys, SqK q K H b ys → ys[i]? = some y),
   fun i H => ∃ xs ys : List V, SqK p K H a xs ∧ SqK q K H b ys ∧ (xs.length ≤ i ∨ ys.length ≤ i) ∧ i ≤ xs.length ∧ i ≤ ys.length⟩
theorem zsep {z TI TO i1 i2 a b : Addr} (D : ZipApart z TI TO i1 i2 a b) : ZipSep2 z TI TO i1 i2 [i1, a] [i2, b] where
  TIz := D.TIz
  TOz := D.TOz
  TITO := D.TITO
  TIi1 := D.TIi1
  mem1 := List.mem_cons_self
  zf1 := fun h => by rcases List.mem_cons.mp h with e | h; exact D.i1z e.symm; exact D.l1z (List.mem_singleton.mp h).symm
  Tf1 := fun h => by rcases List.mem_cons.mp h with e | h; exact D.TOi1 e; exact D.l1TO (List.mem_singleton.mp h).symm
  TIi2 := D.TIi2
  mem2 := List.mem_cons_self
  zf2 := fun h => by rcases List.mem_cons.mp h with e | h; exact D.i2z e.symm; exact D.l2z (List.mem_singleton.mp h).symm
  Tf2 := fun h => by rcases List.mem_cons.mp h with e | h; exact D.TOi2 e; exact D.l2TO (List.mem_singleton.mp h).symm
  sep1_2 := fun h => by rcases List.mem_cons.mp h with e | h; exact D.i12 e; exact D.l2i1 (List.mem_singleton.mp h).symm
  sep2_1 := fun h => by rcases List.mem_cons.mp h with e | h; exact D.i12 e.symm; exact D.l1i2 (List.mem_singleton.mp h).symm
theorem five {c z TI TO i1 i2 : Addr} {Pr : Addr → Prop} (hc : c ∈ [z, TI, TO, i1, i2]) (a : Pr z) (b : Pr TI) (d : Pr TO) (e : Pr i1) (f : Pr i2) : Pr c := by
  have q : c = z ∨ c = TI ∨ c = TO ∨ c = i1 ∨ c = i2 := by simpa using hc
  rcases q with rfl | rfl | rfl | rfl | rfl <;> assumption
theorem turn_zipM {p q : Bool} {P : Program} {w : World} {K : PySem.W.Frag} {elts : List Expr} {kk : Nat} {tpos : Pos} {a b z TI TO i1 i2 : Addr} (D : ZipApart z TI TO i1 i2 a b) :
    Turn P w K (.Tuple elts kk tpos) (ItzM p q K a b) [z, TI, TO, i1, i2] z (fun i h => IsZip h z TI TO .none ∧ IsTupOf2 h TI (.ref i1) (.ref i2) ∧ (∃ x y, IsTupOf2 h TO x y) ∧ ItK p h i1 a i ∧ ItK q h i2 b i) where
  mem := by simp
  obj := fun i h st c hc => by
    obtain ⟨hz, hI, ⟨x, y, hO⟩, h1, h2⟩ := st
    exact five (Pr := fun c => ∃ o, h.get? c = some o ∧ ∀ v, o.data ≠ .cell v) hc ⟨_, hz, fun v q => nomatch q⟩ ⟨_, hI, fun v q => nomatch q⟩ ⟨_, hO, fun v q => nomatch q⟩ h1.obj h2.obj
  keep := fun i h h' st k => by
    obtain ⟨hz, hI, ⟨x, y, hO⟩, h1, h2⟩ := st
    exact ⟨k z (by simp) _ hz, k TI (by simp) _ hI, ⟨x, y, k TO (by simp) _ hO⟩, h1.at' (fun o e => k i1 (by simp) o e), h2.at' (fun o e => k i2 (by simp) o e)⟩
  item := by
    intro X hP hw hK hc i pins s σ H E I hf st hg
    subst hP hw hK
    obtain ⟨hz, hI, ⟨x0, y0, hO⟩, h1, h2⟩ := st
    obtain ⟨xs, ys, x, y, qx, qy, ex, ey⟩ := hg
    obtain ⟨us, rx, kx, _⟩ := sqk_is I qx
    obtain ⟨vs, ry, ky, _⟩ := sqk_is I qy
    obtain ⟨u, eu, ru⟩ := rx.get ex
    obtain ⟨v, ev, rv⟩ := ry.get ey
    have hzl : z < s.heap.objs.size := Heap.lt_size hz
    have lu : i < us.toArray.size := by simpa using (List.getElem?_eq_some_iff.mp eu).1
    have lv : i < vs.toArray.size := by simpa using (List.getElem?_eq_some_iff.mp ev).1
    have hh : X.A.in1.handled = none := I.ok.hd hc
    refine wpAny_pyNext_zipD2_item (zsep D) (drawsK p hh i1 a D.l1i1 us.toArray) (drawsK q hh i2 b D.l2i2 vs.toArray) hz hI hO ⟨h1, kx⟩ ⟨h2, ky⟩ lu lv fun m1 m2 g tk p1 p2 gz gO g1 g2 gT gs gk => ?_
    have e1 : m1 = u := by
      have t1 : us.toArray[i]? = some u := by simpa using eu
      exact Option.some.inj (p1.symm.trans t1)
    have e2 : m2 = v := by
      have t1 : vs.toArray[i]? = some v := by simpa using ev
      exact Option.some.inj (p2.symm.trans t1)
    subst e1 e2
    refine ⟨_, rfl, wpAny_letOwnedTupleGo_zip (s := { s with heap := g, toks := tk }) gz fun g' gz' sb => ?_⟩
    have gT' : g'.get? s.heap.objs.size = some { cls := .type "tuple", data := .seq #[m1, m2] } := (sb.2 _ (Nat.ne_of_gt hzl)).trans gT
    have nw : ObjOk X.prog X.w (upd H s.heap.objs.size (.tup [x, y])) g' s.heap.objs.size (.tup [x, y]) := ⟨by show 2 ≤ sizeLine; decide, [m1, m2], .cons ru (.cons rv .nil), ⟨_, gT', rfl, _, rfl⟩⟩
    have I1 : Inv X pins σ (upd H s.heap.objs.size (.tup [x, y])) { s with heap := g', toks := tk } :=
      I.turnedNew (t' := tk) (ch := [z, TI, TO, i1, i2]) (fun c o nb e => (sb.2 c (fun w => nb (by simp [w]))).trans (gk c o (fun w => nb (by simp [w])) (fun w => nb (by simp [w])) (fun w => nb (by simp [w])) (fun w => nb (by simp [w])) e)) hf (Nat.le_refl _) nw
    refine ⟨.ref s.heap.objs.size, _, I1, rfl, ⟨_, x, y, rfl, I.hok.fresh (Nat.le_refl _), rfl, fun l hl => by rw [sqk_inj I hl qx]; exact ex, fun l hl => by rw [sqk_inj I hl qy]; exact ey⟩, ⟨gz', ?_, ⟨m1, m2, ?_⟩, ?_, ?_⟩, fun c hcm => ?_⟩
    · exact (sb.2 _ D.TIz).trans (gk _ _ D.TIz D.TITO D.TIi1 D.TIi2 hI)
    · exact (sb.2 _ D.TOz).trans gO
    · exact ItK.at' g1.1 (fun o e => (sb.2 _ D.i1z).trans e)
    · exact ItK.at' g2.1 (fun o e => (sb.2 _ D.i2z).trans e)
    · have lt : c < s.heap.objs.size := by
        obtain ⟨o1, q1, _⟩ := h1.obj
        obtain ⟨o2, q2, _⟩ := h2.obj
        exact five (Pr := fun c => c < s.heap.objs.size) hcm hzl (Heap.lt_size hI) (Heap.lt_size hO) (Heap.lt_size q1) (Heap.lt_size q2)
      rw [upd_ne (Nat.ne_of_lt lt)]
      exact (hf c hcm).1
  done := by
    intro X hP hw hK hc i pins s σ H E I hf st hg
    subst hP hw hK
    obtain ⟨hz, hI, ⟨x0, y0, hO⟩, h1, h2⟩ := st
    obtain ⟨xs, ys, qx, qy, hend, le1, le2⟩ := hg
    obtain ⟨us, rx, kx, _⟩ := sqk_is I qx
    obtain ⟨vs, ry, ky, _⟩ := sqk_is I qy
    have l1 := rx.length
    have l2 := ry.length
    have n1 : us.toArray.size = us.length := by simp
    have n2 : vs.toArray.size = vs.length := by simp
    have hh : X.A.in1.handled = none := I.ok.hd hc
    refine wpAny_pyNext_zipD2_end (i := i) (zsep D) (drawsK p hh i1 a D.l1i1 us.toArray) (drawsK q hh i2 b D.l2i2 vs.toArray) hz hI hO ⟨h1, kx⟩ ⟨h2, ky⟩ (by omega) (by omega) (by omega) fun g tk gk => ?_
    exact ⟨rfl, I.turnedL (t' := tk) (ch := [z, TI, TO, i1, i2]) (fun c o nb e => gk c o (fun w => nb (by simp [w])) (fun w => nb (by simp [w])) (fun w => nb (by simp [w])) (fun w => nb (by simp [w])) e) hf⟩
  self := fun A i s Q E st h => wpAny_pyIter_zip st.1 h
def iZipM (K : PySem.W.Frag) (ta : TA) : TI := fun σ H R => ta σ H fun vs H1 => ∃ p q a b xs ys, vs = [.ref a, .ref b] ∧ SqK p K H1 a xs ∧ SqK q K H1 b ys ∧ R (ItzM p q K a b) H1
theorem begK {p : Bool} {h : Heap} {a : Addr} {xs : Array Value} (k : IsK p h a xs) : ∃ o Hp', Begins (.ref a) o Hp' ∧ Hp' h ∧ ∀ h' it, h'.get? it = some o → ItK p h' it a 0 := by
  cases p
  · exact ⟨_, _, begins_tuple a xs, k, fun h' it e => ⟨_, e, rfl, rfl⟩⟩
  · exact ⟨_, _, begins_list a xs, k, fun h' it e => ⟨_, e, rfl, rfl⟩⟩
theorem pi_zipM {X : Cx} {e e2 : Expr} {ta : TA} {p pos tpos : Pos} {elts : List Expr} {kk : Nat} (hg : Gl X "zip") (hm : X.mg "zip" = none) (ha : PA X [e, e2] ta)
    (hs : starEach [e, e2] X.env = (false, eval e X.env) :: starEach [e2] X.env := by rfl) (hpl : (backTo pos (starEach [e2] X.env)).any (·.1) = false := by rfl) :
    PI X (.Tuple elts kk tpos) (.Call (.Name "zip" p) [e, e2] [] pos) (iZipM X.K ta) := by
  constructor
  intro pins s σ H R I h
  refine Call_ (ld_blt I hg hm PyProof.Rows.boot_zip (PyProof.Rows.callWith_type1 (thn (ha.run pos pins s σ H _ I h) fun us s1 ⟨vs, H1, I1, r1, q1⟩ => ?_) hs hpl))
  obtain ⟨k1, k2, a, b, xs, ys, ex, qx, qy, q⟩ := q1
  subst ex
  obtain ⟨u, v, rfl, ru, rv⟩ := Vals.two r1
  cases ru
  cases rv
  obtain ⟨i1, _, p1, lt1⟩ := sqk_is I1 qx
  obtain ⟨i2, _, p2, lt2⟩ := sqk_is I1 qy
  obtain ⟨o1, G1, B1, g1, w1⟩ := begK p1
  obtain ⟨o2, G2, B2, g2, w2⟩ := begK p2
  refine zip_begins2 B1 B2 g1 g2 fun h' hz hI hO e1 e2 hsz hk => wpAny_pyIter_zip hz ?_
  have I2 : Inv X pins σ H1 { s1 with heap := h' } := I1.kept (t' := s1.toks) hk
  refine ⟨s1.heap.objs.size + 4, [s1.heap.objs.size + 4, s1.heap.objs.size + 2, s1.heap.objs.size + 3, s1.heap.objs.size, s1.heap.objs.size + 1], _, _, H1, rfl, I2, turn_zipM (PySem.W.ktu_apart s1.heap.objs.size a b lt1 lt2), ⟨hz, hI, ⟨_, _, hO⟩, w1 _ _ e1, w2 _ _ e2⟩, fun c hcm => ?_, q⟩
  have hle : s1.heap.objs.size ≤ c := five (Pr := fun c => s1.heap.objs.size ≤ c) hcm (Nat.le_add_right _ _) (Nat.le_add_right _ _) (Nat.le_add_right _ _) (Nat.le_refl _) (Nat.le_add_right _ _)
  exact I1.fpOk hle (I1.hok.fresh hle)
end Z
set_option Elab.async false
set_option linter.all false
set_option maxRecDepth 100000
set_option maxHeartbeats 4000000
namespace Z
open PySem PySem.Spec PyProof.Rows L2
/-! ### (v,) * k for 0 ≤ k -/
theorem tmul0 (l : Addr) (v : Value) (n : Nat) (dd : Option Addr) (sl : Array (Option Value)) (u : Tok) :
    Meets (Builtin.«tuple.__mul__» ⟨[.ref l, .int 0 u], []⟩) (fun _ R s => s.heap.get? l = some { cls := .type "tuple", dict := dd, data := .seq #[v] n, slots := sl } ∧
      R (.ok (.ret (Value.ref s.heap.objs.size))) { s with heap := s.heap.push { cls := Value.type "tuple", data := Data.seq #[] }, toks := s.toks }) :=
  .of_wp fun prog w A R s h => by
    obtain ⟨hp, g, d, tk, os⟩ := s
    obtain ⟨hl, h⟩ := h
    have f1 := AutoSeq1.idx_int
    wp_walk using AutoSeq1.wpAny_loadPart' hl
    exact ⟨_, rfl, h⟩
theorem tmul1 (l : Addr) (items : Array Value) (n : Nat) (dd : Option Addr) (sl : Array (Option Value)) (u : Tok) :
    Meets (Builtin.«tuple.__mul__» ⟨[.ref l, .int 1 u], []⟩) (fun _ R s => s.heap.get? l = some { cls := .type "tuple", dict := dd, data := .seq items n, slots := sl } ∧ R (.ok (.ret (Value.ref l))) s) :=
  .of_wp fun prog w A R s h => by
    obtain ⟨hp, g, d, tk, os⟩ := s
    obtain ⟨hl, h⟩ := h
    have f1 := AutoSeq1.idx_int
    wp_walk using AutoSeq1.wpAny_loadPart' hl
    exact ⟨_, rfl, h⟩
theorem same_new {H : Hp} {p : Addr} {o : HO} (h : H p = none) : Same H (upd H p o) := fun b x e => by
  rw [upd_ne (ne_of_none e h)]
  exact e
def rRepU : R2 := fun x y H Q => ∃ l k v, x = .ref l ∧ y = .int k ∧ H l = some (.tup [v]) ∧ 0 ≤ k ∧ k ≤ 1000 ∧ ∀ p H', Same H H' → H' p = some (.tup (List.replicate k.toNat v)) → Q (.ref p) H'
theorem op_repU {X : Cx} : OpR X (binaryOp .Mult) rRepU := by
  intro pins s σ H x y vv uu Q I rx ry h
  obtain ⟨l, k, v, rfl, rfl, hT, h0, h1, q⟩ := id h
  by_cases k2 : 2 ≤ k
  · refine op_repT pins s σ H _ _ vv uu Q I rx ry ⟨l, k, [v], rfl, rfl, .inl (.inl hT), by simp, k2, h1, by simp, fun p np => q p _ (same_new np) ?_⟩
    rw [upd_same]
    congr 2
    generalize k.toNat = m
    induction m with
    | zero => rfl
    | succ m ih => rw [List.replicate_succ, List.flatten_cons, ih, List.replicate_succ]; rfl
  · cases rx
    obtain ⟨t, rfl⟩ := ry
    obtain ⟨its, r, ⟨⟨cls, dd, data, sl⟩, ho, hc, n, hd⟩, hs⟩ := I.tuple (.inl (.inl hT) : SqT X.K H l [v])
    simp only at hc hd
    subst hc hd
    obtain ⟨u, rfl, ru⟩ := Vals.one r
    by_cases k1 : k = 1
    · subst k1
      refine wpAny_binaryOp_repeat_ref (T := "tuple") (U := "int") (by decide) ⟨_, ho, rfl⟩ (fun s' => typeIs_int s' 1 t) noFill_tuple_mul F.fills_int_mul F.slot_int_rmul repeat_tuple F.slot_int_index.lookup
        (call_meets F.slot_int_rmul (typeIs_int s 1 t) F.entry_int_rmul (F.args_int_rmul_2 _ _) (int_rmul_tuple 1 t l [u].toArray n dd sl)
          ⟨ho, rfl, ⟨_, ho, rfl⟩, call_meets F.slot_tuple_mul ⟨_, ho, rfl⟩ F.entry_tuple_mul (F.args_tuple_mul_2 _ _) (tmul1 l [u].toArray n dd sl t) ⟨ho, ?_⟩⟩)
      exact ⟨.ref l, H, I, rfl, q l H (Same.refl H) hT⟩
    · have k0 : k = 0 := by omega
      subst k0
      refine wpAny_binaryOp_repeat_ref (T := "tuple") (U := "int") (by decide) ⟨_, ho, rfl⟩ (fun s' => typeIs_int s' 0 t) noFill_tuple_mul F.fills_int_mul F.slot_int_rmul repeat_tuple F.slot_int_index.lookup
        (call_meets F.slot_int_rmul (typeIs_int s 0 t) F.entry_int_rmul (F.args_int_rmul_2 _ _) (int_rmul_tuple 0 t l [u].toArray n dd sl)
          ⟨ho, rfl, ⟨_, ho, rfl⟩, call_meets F.slot_tuple_mul ⟨_, ho, rfl⟩ F.entry_tuple_mul (F.args_tuple_mul_2 _ _) (tmul0 l u n dd sl t) ⟨ho, ?_⟩⟩)
      refine ⟨.ref s.heap.objs.size, _, I.laid (t' := s.toks) (o := .tup []) (fun b ob z => Heap.get?_push_of_some _ z) (Nat.le_refl _) ?_, rfl, q _ _ (same_new (I.hok.fresh (Nat.le_refl _))) upd_same⟩
      exact ⟨Nat.zero_le _, [], .nil, IsTup.new _ _⟩
/-! ### loops and comprehensions over any iterator -/
def forW (J : It) (g : TG) (tb : TS) (D : Ends) (σ : L2.St) (H : Hp) : Prop := ∃ W : Nat → Nat → L2.St → Hp → Prop, (∃ m, W 0 m σ H) ∧ ∀ i m σ H, W i m σ H →
  (J.stop i H ∧ D.nx σ H) ∨ (J.go i H ∧ ∃ N : L2.St → Hp → Prop, (∀ σ' H', N σ' H' → ∃ m', m' < m ∧ W (i + 1) m' σ' H') ∧ ∀ x H', J.yld i H x H' → g x σ H' fun σ2 H2 => tb { D with nx := N, ct := N, bk := D.nx } σ2 H2)
theorem for_gen {J : It} {n : Nat} {g : TG} {tb : TS} {D : Ends} {σ : L2.St} {H : Hp} (Pv : Nat → L2.St → Hp → Prop) (h0 : Pv 0 σ H) (hgo : ∀ i σ H, i < n → Pv i σ H → J.go i H) (hst : ∀ σ H, Pv n σ H → J.stop n H)
    (hs : ∀ i σ H x H', i < n → Pv i σ H → J.yld i H x H' → g x σ H' fun σ2 H2 => tb { D with nx := Pv (i + 1), ct := Pv (i + 1), bk := D.nx } σ2 H2) (hd : ∀ σ H, Pv n σ H → D.nx σ H) : forW J g tb D σ H := by
  refine ⟨fun i m σ H => m = n - i ∧ i ≤ n ∧ Pv i σ H, ⟨n, by omega, Nat.zero_le _, h0⟩, fun i m σ H w => ?_⟩
  obtain ⟨rfl, hi, p⟩ := w
  by_cases hlt : i < n
  · exact .inr ⟨hgo i σ H hlt p, Pv (i + 1), fun σ' H' z => ⟨n - (i + 1), by omega, rfl, hlt, z⟩, fun x H' y => hs i σ H x H' hlt p y⟩
  · have e : i = n := by omega
    subst e
    exact .inl ⟨hst σ H p, hd σ H p⟩
def lcW (J : It) (g : TG) (tt : TT) (te : TE) (vs : List Nat) (σ : L2.St) (D : Addr) (Qd : Hp → Prop) (H1 : Hp) : Prop := ∃ W : Nat → Nat → Hp → Prop, (∃ m, W 0 m (upd H1 D (.lst []))) ∧ ∀ i m H, W i m H →
  (J.stop i H ∧ Qd H) ∨ (J.go i H ∧ ∃ Nx : Hp → Prop, (∀ H', Nx H' → ∃ m', m' < m ∧ W (i + 1) m' H') ∧ ∀ x H', J.yld i H x H' → g x (wipe σ vs) H' fun σ2 H2 => wipe σ2 vs = wipe σ vs ∧ tt σ2 H2 fun b H3 =>
    if b = true then te σ2 H3 fun y H4 => ∃ acc, H4 D = some (.lst acc) ∧ acc.length < sizeLine ∧ Nx (upd H4 D (.lst (acc ++ [y]))) else Nx H3)
theorem lc_gen {J : It} {n : Nat} {g : TG} {tt : TT} {te : TE} {vs : List Nat} {σ : L2.St} {H1 : Hp} {D : Addr} {Qd : Hp → Prop} (Pv : Nat → Hp → Prop) (h0 : Pv 0 (upd H1 D (.lst []))) (hgo : ∀ i H, i < n → Pv i H → J.go i H) (hst : ∀ H, Pv n H → J.stop n H)
    (hs : ∀ i H x H', i < n → Pv i H → J.yld i H x H' → g x (wipe σ vs) H' fun σ2 H2 => wipe σ2 vs = wipe σ vs ∧ tt σ2 H2 fun b H3 =>
      if b = true then te σ2 H3 fun y H4 => ∃ acc, H4 D = some (.lst acc) ∧ acc.length < sizeLine ∧ Pv (i + 1) (upd H4 D (.lst (acc ++ [y]))) else Pv (i + 1) H3) (hd : ∀ H, Pv n H → Qd H) : lcW J g tt te vs σ D Qd H1 := by
  refine ⟨fun i m H => m = n - i ∧ i ≤ n ∧ Pv i H, ⟨n, by omega, Nat.zero_le _, h0⟩, fun i m H w => ?_⟩
  obtain ⟨rfl, hi, p⟩ := w
  by_cases hlt : i < n
  · exact .inr ⟨hgo i H hlt p, Pv (i + 1), fun H' z => ⟨n - (i + 1), by omega, rfl, hlt, z⟩, fun x H' y => hs i H x H' hlt p y⟩
  · have e : i = n := by omega
    subst e
    exact .inl ⟨hst H p, hd H p⟩
/-! ### a def of the module that may be called by its name -/
structure Cal (P : Program) (w : World) (K : PySem.W.Frag) (mg : Str → Option Value) (base : Heap) (k : Nat) (x : Str) (sp : Sp) : Prop where
  ex : ∃ (f : Addr) (fd : FuncData) (ps : List Str), FnOk P w K mg base CX0 k f fd ps sp ∧ mg x = some (.ref f) ∧ PySem.W.keepIn K (.ref f) = true ∧ Binds K fd ps []
section
variable {X : Cx} {k j : Nat} {x : Str} {sp : Sp} {p pos : Pos} {e : Expr} {es : List Expr} {t : TA}
theorem pe_cl (c : Cal X.prog X.w X.K X.mg X.base k x sp) (hr : Room j X.A) (hk : k ≤ j) (hg : Gl X x) (ha : PA X (e :: es) t)
    (hdb : (x == ("__debug__" : Str)) = false := by decide) (he : starEach (e :: es) X.env = (false, eval e X.env) :: starEach es X.env := by rfl) (hpl : (backTo pos (starEach es X.env)).any (·.1) = false := by rfl) : PE X (.Call (.Name x p) (e :: es) [] pos) (tCall sp [] E0 t) := by
  obtain ⟨f, fd, ps, F, hm, kp, b⟩ := c.ex
  exact pe_call F (hr.mono hk) hg hm kp b .nil pass0 ha hdb he hpl
end
structure CalK (P : Program) (w : World) (K : PySem.W.Frag) (mg : Str → Option Value) (base : Heap) (k : Nat) (x : Str) (n : Nat) (ks : List Str) (gV : List V → List V → List V) (sp : Sp) : Prop where
  ex : ∃ (f : Addr) (fd : FuncData) (ps : List Str) (g : List Value → List Value → List Value), FnOk P w K mg base CX0 k f fd ps sp ∧ mg x = some (.ref f) ∧ PySem.W.keepIn K (.ref f) = true ∧ KBn K fd ps n ks g gV
section
variable {X : Cx} {k j n : Nat} {x : Str} {sp : Sp} {ks : List Str} {gV : List V → List V → List V} {p pos : Pos} {e : Expr} {es : List Expr} {kws : List Keyword} {t tk : TA}
theorem pe_clK (c : CalK X.prog X.w X.K X.mg X.base k x n ks gV sp) (hr : Room j X.A) (hk : k ≤ j) (hg : Gl X x) (ha : PA X (e :: es) t) (hkw : PK X kws tk)
    (hall : (backToKw pos (keywordEach kws X.env)).all (·.1.isSome) = true := by rfl) (hks : (backToKw pos (keywordEach kws X.env)).filterMap (·.1) = ks := by rfl) (hdb : (x == ("__debug__" : Str)) = false := by decide)
    (he : starEach (e :: es) X.env = (false, eval e X.env) :: starEach es X.env := by rfl) (hpl : ((backTo pos (starEach (e :: es) X.env)).any (·.1) || (backToKw pos (keywordEach kws X.env)).any (·.1.isNone)) = false := by rfl) :
    PE X (.Call (.Name x p) (e :: es) kws pos) (tCallN n ks.length sp gV E0 t tk) := by
  obtain ⟨f, fd, ps, g, F, hm, kp, b⟩ := c.ex
  exact pe_callN F (hr.mono hk) hg hm kp b pass0 ha hkw hall hks hdb he hpl
end
/-! ### heaps -/
/-- all but p stands -/
def SB (p : Addr) (H H' : Hp) : Prop := ∀ b o, b ≠ p → H b = some o → H' b = some o
theorem Same.sb {p : Addr} {H H' : Hp} (s : Same H H') : SB p H H' := fun b o _ h => s b o h
theorem SB.trans {p : Addr} {H H1 H2 : Hp} (a : SB p H H1) (b : SB p H1 H2) : SB p H H2 := fun c o n h => b c o n (a c o n h)
theorem SB.upd {p : Addr} {H H' : Hp} {o : HO} (s : SB p H H') : SB p H (upd H' p o) := fun b u n h => by
  rw [upd_ne n]
  exact s b u n h
theorem SB.same {p : Addr} {H H' : Hp} (s : SB p H H') (n : H p = none) : Same H H' := fun b o h => s b o (ne_of_none h n) h
theorem Same.mut {p : Addr} {H H' : Hp} {o : HO} (s : Same H H') (n : H p = none) : Same H (L2.upd H' p o) := fun b u h => by
  rw [upd_ne (ne_of_none h n)]
  exact s b u h
theorem SB.sq {K : PySem.W.Frag} {p a : Addr} {H H' : Hp} {xs : List V} (s : SB p H H') (n : a ≠ p) (h : SqL K H a xs) : SqL K H' a xs := by
  rcases h with (h | ⟨o, h⟩) | h
  · exact .inl (.inl (s _ _ n h))
  · exact .inl (.inr ⟨o, s _ _ n h⟩)
  · exact .inr h
theorem Same.sqT {K : PySem.W.Frag} {a : Addr} {H H' : Hp} {xs : List V} (s : Same H H') (h : SqT K H a xs) : SqT K H' a xs := by
  rcases h with (h | ⟨o, h⟩) | h
  · exact .inl (.inl (s _ _ h))
  · exact .inl (.inr ⟨o, s _ _ h⟩)
  · exact .inr h
theorem Same.sqK {b : Bool} {K : PySem.W.Frag} {a : Addr} {H H' : Hp} {xs : List V} (s : Same H H') (h : SqK b K H a xs) : SqK b K H' a xs := by
  cases b
  · exact Z.Same.sqT s h
  · exact s.seq h
theorem at_map {α : Type} {f : α → V} {xs : List α} {i : Nat} {x : α} (h : xs[i]? = some x) : atI (xs.map f) (i : Int) = some (f x) := atI_nat (by rw [List.getElem?_map, h]; rfl)
theorem of_map {α : Type} {f : α → V} {xs : List α} {i : Nat} {v : V} (h : (xs.map f)[i]? = some v) : ∃ x, xs[i]? = some x ∧ v = f x := by
  rw [List.getElem?_map] at h
  cases e : xs[i]? with
  | none => rw [e] at h; cases h
  | some x => rw [e] at h; exact ⟨x, rfl, (Option.some.inj h).symm⟩
end Z
set_option Elab.async false
set_option linter.all false
set_option maxRecDepth 100000
set_option maxHeartbeats 4000000
namespace Z
open PySem PySem.Spec PyProof.Rows L2
/-! ### data -/
def sqD (b : Bool) (ds : List PyData) : PyData := match b with
  | true => .list ds
  | false => .tuple ds
def intsD (b : Bool) (ns : List Int) : PyData := sqD b (ns.map PyData.int)
def matD (b : Bool) (rs : List (List Int)) : PyData := sqD b (rs.map (intsD b))
theorem dp_sq {b : Bool} {K : PySem.W.Frag} {H : Hp} {a : Addr} {xs : List V} {ds : List PyData} (h : SqK b K H a xs) (d : DpAll K H xs ds) : Dp K H (.ref a) (sqD b ds) := by
  cases b
  · exact .tup h d
  · exact .lst h d
theorem dpa_ints {K : PySem.W.Frag} {H : Hp} : ∀ ns : List Int, DpAll K H (ns.map V.int) (ns.map PyData.int)
  | [] => .nil
  | n :: r => .cons (.int n) (dpa_ints r)
theorem dp_ints {b : Bool} {K : PySem.W.Frag} {H : Hp} {a : Addr} {ns : List Int} (h : SqK b K H a (ns.map V.int)) : Dp K H (.ref a) (intsD b ns) := dp_sq h (dpa_ints ns)
/-- a matrix: a list (or tuple) of lists (or tuples) of ints, at ps -/
def Mat (b : Bool) (K : PySem.W.Frag) (H : Hp) (a : Addr) (ps : List Addr) (rs : List (List Int)) : Prop := SqK b K H a (ps.map V.ref) ∧ ps.length = rs.length ∧ ∀ (i : Nat) (p : Addr) (r : List Int), ps[i]? = some p → rs[i]? = some r → SqK b K H p (r.map V.int)
theorem Mat.mono {b : Bool} {K : PySem.W.Frag} {H H' : Hp} {a : Addr} {ps : List Addr} {rs : List (List Int)} (s : Same H H') (m : Mat b K H a ps rs) : Mat b K H' a ps rs := ⟨Z.Same.sqK s m.1, m.2.1, fun i p r h1 h2 => Z.Same.sqK s (m.2.2 i p r h1 h2)⟩
theorem dpa_mat {b : Bool} {K : PySem.W.Frag} {H : Hp} : ∀ (ps : List Addr) (rs : List (List Int)), ps.length = rs.length → (∀ (i : Nat) (p : Addr) (r : List Int), ps[i]? = some p → rs[i]? = some r → SqK b K H p (r.map V.int)) → DpAll K H (ps.map V.ref) (rs.map (intsD b))
  | [], [], _, _ => .nil
  | p :: ps, r :: rs, hl, h => .cons (dp_ints (h 0 p r rfl rfl)) (dpa_mat ps rs (by simpa using hl) fun i q s h1 h2 => h (i + 1) q s h1 h2)
theorem Mat.dp {b : Bool} {K : PySem.W.Frag} {H : Hp} {a : Addr} {ps : List Addr} {rs : List (List Int)} (m : Mat b K H a ps rs) : Dp K H (.ref a) (matD b rs) := dp_sq m.1 (dpa_mat ps rs m.2.1 m.2.2)
theorem lay_ints : ∀ ns : List Int, PyData.canLayAll0 (ns.map PyData.int) = true
  | [] => rfl
  | n :: r => by
    rw [List.map_cons, PyData.canLayAll0, lay_ints r]
    rfl
theorem dep_ints : ∀ ns : List Int, PyData.depthAll (ns.map PyData.int) = 0
  | [] => rfl
  | n :: r => by
    rw [List.map_cons, PyData.depthAll, dep_ints r]
    rfl
theorem shaped_ints (b : Bool) (ns : List Int) : SeqAt.shaped (intsD b ns) = true := by
  unfold SeqAt.shaped intsD
  cases b
  · show (PyData.canLayAll0 (ns.map PyData.int) && decide (PyData.depthAll (ns.map PyData.int) + 1 ≤ 64)) = true
    rw [lay_ints, dep_ints]
    rfl
  · show (PyData.canLayAll0 (ns.map PyData.int) && decide (PyData.depthAll (ns.map PyData.int) + 1 ≤ 64)) = true
    rw [lay_ints, dep_ints]
    rfl
theorem lay_mat (b : Bool) : ∀ rs : List (List Int), PyData.canLayAll0 (rs.map (intsD b)) = true
  | [] => rfl
  | n :: r => by
    rw [List.map_cons, PyData.canLayAll0, lay_mat b r, SeqAt.canLay_of_shaped (shaped_ints b n)]
    rfl
theorem dep_mat (b : Bool) : ∀ rs : List (List Int), PyData.depthAll (rs.map (intsD b)) ≤ 1
  | [] => Nat.zero_le _
  | n :: r => by
    rw [List.map_cons, PyData.depthAll]
    have h := dep_mat b r
    have h2 : (intsD b n).depth = 1 := by
      cases b
      · show PyData.depthAll (n.map PyData.int) + 1 = 1
        rw [dep_ints]
      · show PyData.depthAll (n.map PyData.int) + 1 = 1
        rw [dep_ints]
    omega
theorem shaped_mat (b : Bool) (rs : List (List Int)) : SeqAt.shaped (matD b rs) = true := by
  have h := dep_mat b rs
  unfold SeqAt.shaped matD
  cases b
  · show (PyData.canLayAll0 (rs.map (intsD false)) && decide (PyData.depthAll (rs.map (intsD false)) + 1 ≤ 64)) = true
    rw [lay_mat, decide_eq_true (by omega)]
    rfl
  · show (PyData.canLayAll0 (rs.map (intsD true)) && decide (PyData.depthAll (rs.map (intsD true)) + 1 ≤ 64)) = true
    rw [lay_mat, decide_eq_true (by omega)]
    rfl
theorem same2 {K : PySem.W.Frag} {H : Hp} {x y : V} {d : PyData} {R : PyData → PyData → Prop} (hx : Dp K H x d) (hy : Dp K H y d) (hs : SeqAt.shaped d = true) (q : R d d) : ∃ d' e', Dp K H x d' ∧ Dp K H y e' ∧ SeqAt.shaped d' = true ∧ SeqAt.shaped e' = true ∧ R d' e' := ⟨d, d, hx, hy, hs, hs, q⟩
theorem eqv_same {d : PyData} (hs : SeqAt.shaped d = true) : PyData.eqv d d = true := SeqAt.eqv_refl d (SeqAt.canLay_of_shaped hs)
/-! ### a target that is one of two kinds -/
def gOr (t u : TG) : TG := fun v σ H Q => t v σ H Q ∨ u v σ H Q
theorem pg_or {X : Cx} {e : Expr} {t u : TG} (h1 : PG X e t) (h2 : PG X e u) : PG X e (gOr t u) := by
  refine ⟨fun pins s σ H v uu Q I r hw => ?_⟩
  rcases hw with h | h
  · exact h1.run pins s σ H v uu Q I r h
  · exact h2.run pins s σ H v uu Q I r h
/-! ### isinstance of built-in kinds -/
theorem isi {K : PySem.W.Frag} {H : Hp} {x : V} {T c : String} {b : Bool} {R : Bool → Prop} (t : TyOf K H x (.type T)) (h : kitB T c = some b) (q : R b) : ∃ (x' c' : V) (t' u' : Value) (b' : Bool), [x, .ty c] = [x', c'] ∧ ClsV c' u' ∧ TyX K H x' t' ∧ PySem.W.kitOne K t' u' = some b' ∧ R b' :=
  ⟨x, .ty c, .type T, .type c, b, rfl, .ty c, .base t, kit_ty h, q⟩
/-! ### rules by the written part itself (within a comprehension's block) -/
section
variable {X : Cx} {K : PySem.W.Frag}
theorem ix_list_K (h : X.K = K) : IxR X (rIxL K) := by subst h; exact ix_list
theorem ix_tup_K (h : X.K = K) : IxR X (rIxT K) := by subst h; exact ix_tup
theorem ix_seq_K (h : X.K = K) : IxR X (rIx K) := by subst h; exact ix_seq
theorem call_len_seq_K (h : X.K = K) : CallR X (.builtin "len") (fun xs H Q => ∃ p ys, xs = [.ref p] ∧ (SqL K H p ys ∨ SqT K H p ys) ∧ Q (.int ys.length) H) := by subst h; exact call_len_seq
theorem call_list_of_K (h : X.K = K) : CallR X (.type "list") (fun xs H Q => ∃ p ys, xs = [.ref p] ∧ (SqL K H p ys ∨ SqT K H p ys) ∧ ∀ l, H l = none → Q (.ref l) (upd H l (.lst ys))) := by subst h; exact call_list_of
theorem call_tuple_of_K (h : X.K = K) : CallR X (.type "tuple") (fun xs H Q => ∃ p ys, xs = [.ref p] ∧ ((SqL K H p ys ∧ ∀ l, H l = none → Q (.ref l) (upd H l (.tup ys))) ∨ (SqT K H p ys ∧ Q (.ref p) H))) := by subst h; exact call_tuple_of
theorem op_in_seq_K (h : X.K = K) : OpR X (compareOp .In) (rIn K false) := by subst h; exact op_in_seq
theorem op_notIn_seq_K (h : X.K = K) : OpR X (compareOp .NotIn) (rIn K true) := by subst h; exact op_notIn_seq
theorem op_eqD_K (h : X.K = K) (hu : X.A.units + 64 < cLine) : OpR X (compareOp .Eq) (rEqD K) := by subst h; exact op_eqD hu
theorem op_neD_K (h : X.K = K) (hu : X.A.units + 64 < cLine) : OpR X (compareOp .NotEq) (rNeD K) := by subst h; exact op_neD hu
theorem call_isi_K (h : X.K = K) : CallR X (.builtin "isinstance") (rIsi K) := by subst h; exact call_isi
end
/-! ### great products -/
theorem big_mul {i j : Int} (hi : i.natAbs < 2 ^ 4000) (hj : j.natAbs < 2 ^ 4000) : CMulX i j := mulx_ok hi hj (by decide)
/-! ### sums of multiples of rows -/
def combN (rs : List (List Int)) (fs : List Int) (w : Nat) : Nat → List Int
  | 0 => List.replicate w 0
  | n + 1 => List.zipWith (fun a b => a + fs.getD n 0 * b) (combN rs fs w n) (rs.getD n [])
theorem combN_len {rs : List (List Int)} {fs : List Int} {w : Nat} (h : ∀ r ∈ rs, r.length = w) : ∀ n, n ≤ rs.length → (combN rs fs w n).length = w
  | 0, _ => List.length_replicate
  | n + 1, hn => by
    rw [combN, List.length_zipWith, combN_len h n (by omega), List.getD_eq_getElem?_getD, List.getElem?_eq_getElem (by omega), Option.getD_some, h _ (List.getElem_mem _)]
    omega
theorem combN_at {rs : List (List Int)} {fs : List Int} {w i c : Nat} (hi : i < rs.length) (hf : i < fs.length) (c1 : c < (combN rs fs w i).length) (c2 : c < rs[i].length) : (combN rs fs w (i + 1))[c]? = some ((combN rs fs w i)[c] + fs[i] * rs[i][c]) := by
  have g1 : fs.getD i 0 = fs[i] := by rw [List.getD_eq_getElem?_getD, List.getElem?_eq_getElem hf]; rfl
  have g2 : rs.getD i [] = rs[i] := by rw [List.getD_eq_getElem?_getD, List.getElem?_eq_getElem hi]; rfl
  rw [combN, List.getElem?_zipWith, g1, g2, List.getElem?_eq_getElem c1, List.getElem?_eq_getElem c2]
end Z
set_option Elab.async false
set_option linter.all false
set_option maxRecDepth 100000
set_option maxHeartbeats 4000000
namespace Z
open PySem PySem.Spec PyProof.Rows L2
open C8 (pss_cut tCut)
local macro_rules | `(tactic| walk_at "num") => `(tactic| first | omega | decide | exact ⟨by omega, by omega⟩ | exact ⟨by omega, by omega, by omega⟩ | exact ⟨by decide, by decide, by decide⟩ | exact Or.inl ⟨by omega, by omega⟩ | exact Or.inr ⟨by omega, by omega⟩)
local macro_rules | `(tactic| walk_at "go") => `(tactic| repeat (first | refine ⟨_, rfl, ?_⟩ | refine ⟨_, _, rfl, rfl, ?_⟩ | refine ⟨_, _, rfl, rfl, (by walk_at "num"), ?_⟩ | refine Or.inl ⟨_, rfl, ?_⟩ | refine ⟨rfl, ?_⟩ | refine And.intro (by walk_at "num") ?_))
def topS (i : Nat) : Stmt := PySem.Challenge.pw_signedpacts_k84_swapped_ends.main.body.getD i (.Pass ⟨0, 0, 0, 0⟩)
abbrev s_cell : Stmt := topS 63
abbrev N_cell : List Str := ["_law_script", "_law_k"]
abbrev P_cell : List Str := ["_law_script", "_law_k"]
theorem sc_cell : FnScope N_cell P_cell (defScope s_cell) := ⟨rfl, rfl, rfl, by decide +kernel, rfl, by decide +kernel, by decide +kernel⟩
abbrev s_draws : Stmt := topS 64
abbrev N_draws : List Str := ["_law_cell_here", "_law_many", "_law_rest", "_law_large", "_law_seed", "_law_found", "_law_k"]
abbrev P_draws : List Str := ["_law_cell_here", "_law_many"]
theorem sc_draws : FnScope N_draws P_draws (defScope s_draws) := ⟨rfl, rfl, rfl, by decide +kernel, rfl, by decide +kernel, by decide +kernel⟩
abbrev s_take : Stmt := topS 65
abbrev N_take : List Str := ["_law_draws_here", "_law_place"]
abbrev P_take : List Str := ["_law_draws_here", "_law_place"]
theorem sc_take : FnScope N_take P_take (defScope s_take) := ⟨rfl, rfl, rfl, by decide +kernel, rfl, by decide +kernel, by decide +kernel⟩
abbrev FnP (K : PySem.W.Frag) (x : Str) (st : Stmt) (f : Addr) (fd : FuncData) : Prop := FunD K x x (defArgs st) (defBody st) (defScope st) [] [] f fd
section
variable {P : Program} {w : World} {K : PySem.W.Frag} {mg : Str → Option Value} {base : Heap} {f : Addr} {fd : FuncData}
theorem cal_of {k : Nat} {x : Str} {st : Stmt} {ps : List Str} {sp : Sp} (F : FnP K x st f fd) (g : mg x = some (.ref f)) (b : Binds K fd ps []) (h : FnOk P w K mg base CX0 k f fd ps sp) : Cal P w K mg base k x sp := ⟨f, fd, ps, h, g, F.kp, b⟩
/-! ### _law_cell -/
def spCell (K : PySem.W.Frag) : Sp := fun vs H Q _ => ∃ (a : Addr) (ns : List Int) (k : Nat), vs = [.ref a, .int (k : Int)] ∧ SqL K H a (ns.map V.int) ∧ Q (.int (ns.getD k 0)) H
theorem ok_cell (F : FnP K "_law_cell" s_cell f fd) (m_len : mg "len" = none) (m_int : mg "int" = none) : FnOk P w K mg base CX0 1 f fd P_cell (spCell K) := by
  refine F.ok sc_cell (fun vs H Q E h => ?_) (fun cdv A outer s H vs Q E hr h => ?_)
  · obtain ⟨a, ns, k, rfl, _⟩ := h
    rfl
  · obtain ⟨a, ns, k, rfl, hS, q⟩ := h
    refine ⟨_, PSs.nox (pss_cons (ps_if (pt_cmpR op_lt (pv 1) (pe_callB call_len_seq (by rfl) m_len PySem.boot_len (pa_cons (pv 0) pa_nil)) (nomark _)) (pss_one (ps_ret (pe_callTy call_int1 (by rfl) m_int (by decide +kernel) (pa_cons (pe_ix ix_list (pv 0) (pv 1) (fun _ _ => rfl)) pa_nil)))) pss_nil)
      (pss_one (ps_ret pe_int))), ?_⟩
    walk_at "go"
    refine ⟨a, _, rfl, .inl hS, ?_⟩
    walk_at "go"
    rw [List.length_map]
    refine ite2 (fun e => ?_) (fun e => ?_)
    · have hk : k < ns.length := by have := of_decide_eq_true e; omega
      walk_at "go"
      refine ⟨a, _, _, _, rfl, rfl, hS, at_map (List.getElem?_eq_getElem hk), ?_⟩
      walk_at "go"
      rw [List.getD_eq_getElem?_getD, List.getElem?_eq_getElem hk] at q
      exact q
    · have hk : ¬ k < ns.length := fun z => e (decide_eq_true (by omega))
      rw [List.getD_eq_getElem?_getD, List.getElem?_eq_none (by omega)] at q
      exact q
/-! ### _law_draws -/
def Dr (n : Nat) (ds : List Int) : Prop := ds.length = n ∧ ∀ d ∈ ds, 0 ≤ d ∧ d < 1000000
def spDraws : Sp := fun vs H Q _ => ∃ (c : Int) (n : Nat), vs = [.int c, .int (n : Int)] ∧ n ≤ 100000 ∧ ∀ p ds, H p = none → Dr n ds → Q (.ref p) (upd H p (.lst (ds.map V.int)))
theorem ok_draws (F : FnP K "_law_draws" s_draws f fd) (m_int : mg "int" = none) (m_abs : mg "abs" = none) (m_range : mg "range" = none) : FnOk P w K mg base CX0 1 f fd P_draws spDraws := by
  refine F.ok sc_draws (fun vs H Q E h => ?_) (fun cdv A outer s H vs Q E hr h => ?_)
  · obtain ⟨c, n, rfl, _⟩ := h
    rfl
  · obtain ⟨c, n, rfl, hn, q⟩ := h
    refine ⟨_, PSs.nox (pss_cons (ps_set (i := 2) sc_draws.nd rfl (by first | exact .inl rfl | exact .inr rfl) (pe_callB call_abs (by rfl) m_abs (by decide +kernel) (pa_cons (pe_callTy call_int1 (by rfl) m_int (by decide +kernel) (pa_cons (pv 0) pa_nil)) pa_nil)))
      (pss_cons (ps_set (i := 3) sc_draws.nd rfl (by first | exact .inl rfl | exact .inr rfl) (pe_cmpR op_ge (pv 2) (pe_op op_pow pe_int pe_int) (nomark _)))
      (pss_cons (ps_set (i := 4) sc_draws.nd rfl (by first | exact .inl rfl | exact .inr rfl) (pe_op op_mod (pe_callTy call_int1 (by rfl) m_int (by decide +kernel) (pa_cons (pv 2) pa_nil)) pe_int))
      (pss_cons (ps_set (i := 5) sc_draws.nd rfl (by first | exact .inl rfl | exact .inr rfl) (pe_lst pa_nil))
      (pss_cons (ps_for PassesOwn.never rfl (pi_range1 (by rfl) m_range (pa_cons (pv 1) pa_nil)) (pg_name (i := 6) sc_draws.nd rfl (by first | exact .inl rfl | exact .inr rfl))
        (pss_cons (ps_set (i := 4) sc_draws.nd rfl (by first | exact .inl rfl | exact .inr rfl) (pe_op op_mod (pe_callTy call_int1 (by rfl) m_int (by decide +kernel) (pa_cons (pe_op op_add (pe_op op_add (pe_op op_mul (pv 4) pe_int) (pe_op op_mul pe_int (pv 6))) pe_int) pa_nil)) pe_int))
      (pss_one (ps_if (PW.pt (pw_and (pt_val (pv 3)) (pw_and1 (pt_cmpR op_gt (pv 2) pe_int (nomark _))))) (pss_cons (ps_expr (pe_bm PySem.F.plainAttrs_list PySem.F.slot_list_append PySem.F.type_list_append mt_append (pv 5) (pa_cons (pe_op op_mod (pe_callTy call_int1 (by rfl) m_int (by decide +kernel) (pa_cons (pv 2) pa_nil)) pe_int) pa_nil)))
      (pss_one (ps_set (i := 2) sc_draws.nd rfl (by first | exact .inl rfl | exact .inr rfl) (pe_op op_fdiv (pv 2) pe_int)))) (pss_one (ps_expr (pe_bm PySem.F.plainAttrs_list PySem.F.slot_list_append PySem.F.type_list_append mt_append (pv 5) (pa_cons (pe_op op_mod (pe_callTy call_int1 (by rfl) m_int (by decide +kernel) (pa_cons (pe_op op_fdiv (pe_op op_mod (pe_callTy call_int1 (by rfl) m_int (by decide +kernel) (pa_cons (pe_op op_add (pe_op op_mul (pv 4) pe_int) (pe_op op_mul pe_int (pv 6))) pa_nil)) pe_int) pe_int) pa_nil)) pe_int) pa_nil))))))))
      (pss_one (ps_ret (pv 5)))))))), ?_⟩
    walk_at "go"
    intro p np
    walk_at "go"
    refine for_gen (n := n) (fun i σ H1 => ∃ (r : Int) (z : Int) (ds : List Int) (v : Option V), 0 ≤ r ∧ 0 ≤ z ∧ z < 2147483647 ∧ Dr i ds ∧ H1 = upd H p (.lst (ds.map V.int)) ∧
      σ = [some (.int c), some (.int (n : Int)), some (.int r), some (.bl (decide ((10 : Int) ^ 18 ≤ (if c < 0 then -c else c)))), some (.int z), some (.ref p), v]) ?_ ?_ ?_ ?_ ?_
    · refine ⟨_, _, [], none, ?_, ?_, ?_, ⟨rfl, fun d hd => nomatch hd⟩, rfl, rfl⟩
      · split <;> omega
      · omega
      · omega
    · intro i σ H1 hi _
      show i < (n : Int).toNat
      omega
    · intro σ H1 _
      show (n : Int).toNat ≤ n
      omega
    · rintro i σ H1 x H' hi ⟨r, z, ds, v, hr0, hz0, hz1, hd, rfl, rfl⟩ ⟨rfl, rfl⟩
      have hlen : (ds.map V.int).length < sizeLine := by
        rw [List.length_map, hd.1]
        exact Nat.lt_of_lt_of_le hi (Nat.le_trans hn (by decide))
      have fin : ∀ (r' z' d : Int) (u : Option V), 0 ≤ r' → 0 ≤ z' → z' < 2147483647 → 0 ≤ d → d < 1000000 → ∃ (r : Int) (z : Int) (es : List Int) (v : Option V), 0 ≤ r ∧ 0 ≤ z ∧ z < 2147483647 ∧ Dr (i + 1) es ∧ upd (upd H p (.lst (ds.map V.int))) p (.lst (ds.map V.int ++ [.int d])) = upd H p (.lst (es.map V.int)) ∧
          [some (.int c), some (.int (n : Int)), some (.int r'), some (.bl (decide ((10 : Int) ^ 18 ≤ (if c < 0 then -c else c)))), some (.int z'), some (.ref p), u] = [some (.int c), some (.int (n : Int)), some (.int r), some (.bl (decide ((10 : Int) ^ 18 ≤ (if c < 0 then -c else c)))), some (.int z), some (.ref p), v] := by
        intro r' z' d u a1 a2 a3 a4 a5
        refine ⟨r', z', ds ++ [d], u, a1, a2, a3, ⟨by rw [List.length_append, hd.1]; rfl, fun x hx => ?_⟩, ?_, rfl⟩
        · rcases List.mem_append.mp hx with h | h
          · exact hd.2 x h
          · rw [List.mem_singleton.mp h]
            exact ⟨a4, a5⟩
        · rw [upd_upd, List.map_append]
          rfl
      walk_at "go"
      refine ite2 (fun e => ?_) (fun e => ?_)
      · walk_at "go"
        refine ite2 (fun e2 => ?_) (fun e2 => ?_)
        · walk_at "go"
          refine ⟨.inl ⟨rfl, _, .inl (.inl upd_same)⟩, ?_⟩
          walk_at "go"
          refine ⟨_, _, _, rfl, rfl, upd_same, hlen, ?_⟩
          walk_at "go"
          exact fin _ _ _ _ (by omega) (by omega) (by omega) (by omega) (by omega)
        · walk_at "go"
          refine ⟨.inl ⟨rfl, _, .inl (.inl upd_same)⟩, ?_⟩
          walk_at "go"
          refine ⟨_, _, _, rfl, rfl, upd_same, hlen, ?_⟩
          walk_at "go"
          exact fin _ _ _ _ (by omega) (by omega) (by omega) (by omega) (by omega)
      · walk_at "go"
        refine ⟨.inl ⟨rfl, _, .inl (.inl upd_same)⟩, ?_⟩
        walk_at "go"
        refine ⟨_, _, _, rfl, rfl, upd_same, hlen, ?_⟩
        walk_at "go"
        exact fin _ _ _ _ (by omega) (by omega) (by omega) (by omega) (by omega)
    · rintro σ H1 ⟨r, z, ds, v, hr0, hz0, hz1, hd, rfl, rfl⟩
      walk_at "go"
      exact q p ds np hd
/-! ### _law_take -/
def spTake (K : PySem.W.Frag) : Sp := fun vs H Q _ => ∃ (a p : Addr) (n m : Nat) (ds : List Int), vs = [.ref a, .ref p] ∧ SqL K H a (ds.map V.int) ∧ Dr n ds ∧ H p = some (.lst [.int (m : Int)]) ∧ a ≠ p ∧ ∀ r : Int, 0 ≤ r → r < 1000000 → Q (.int r) (upd H p (.lst [.int ((m + 1 : Nat) : Int)]))
theorem ok_take (F : FnP K "_law_take" s_take f fd) (m_len : mg "len" = none) : FnOk P w K mg base CX0 1 f fd P_take (spTake K) := by
  refine F.ok sc_take (fun vs H Q E h => ?_) (fun cdv A outer s H vs Q E hr h => ?_)
  · obtain ⟨a, p, n, m, ds, rfl, _⟩ := h
    rfl
  · obtain ⟨a, p, n, m, ds, rfl, hS, hd, hp, ne, q⟩ := h
    refine ⟨_, PSs.nox (pss_cons (ps_asg (pe_op op_add (pe_ix ix_list (pv 1) pe_int (fun _ _ => rfl)) pe_int) (pg_sub (pv 1) pe_int set_list))
      (pss_cons (ps_if (pt_cmpR op_gt (pe_ix ix_list (pv 1) pe_int (fun _ _ => rfl)) (pe_callB call_len_seq (by rfl) m_len PySem.boot_len (pa_cons (pv 0) pa_nil)) (nomark _)) (pss_one (ps_ret pe_int)) pss_nil)
      (pss_one (ps_ret (pe_ix ix_list (pv 0) (pe_op op_sub (pe_ix ix_list (pv 1) pe_int (fun _ _ => rfl)) pe_int) (fun _ _ => rfl)))))), ?_⟩
    have sb : SB p H (upd H p (.lst [.int ((m + 1 : Nat) : Int)])) := SB.upd (Z.Same.sb (Same.refl H))
    have hS' := sb.sq ne hS
    walk_at "go"
    refine ⟨p, _, 0, _, rfl, rfl, SqL.of hp, rfl, ?_⟩
    walk_at "go"
    refine ⟨p, _, 0, 0, rfl, rfl, hp, rfl, ?_⟩
    show tSeq _ _ _ _ (upd H p (.lst [.int ((m : Int) + 1)]))
    rw [show ((m : Int) + 1) = ((m + 1 : Nat) : Int) by omega]
    walk_at "go"
    refine ⟨p, _, 0, _, rfl, rfl, SqL.of upd_same, rfl, ?_⟩
    walk_at "go"
    refine ⟨a, _, rfl, .inl hS', ?_⟩
    walk_at "go"
    rw [List.length_map]
    refine ite2 (fun e => ?_) (fun e => ?_)
    · exact q 0 (by omega) (by omega)
    · have hk : m < ds.length := by
        apply Decidable.byContradiction
        intro z
        exact e (decide_eq_true (by omega))
      walk_at "go"
      refine ⟨p, _, 0, _, rfl, rfl, SqL.of upd_same, rfl, ?_⟩
      walk_at "go"
      refine ⟨a, _, _, _, rfl, rfl, hS', at_of (by omega) (show (ds.map V.int)[m]? = some (.int ds[m]) by rw [List.getElem?_map, List.getElem?_eq_getElem hk]; rfl), ?_⟩
      have h1 := hd.2 ds[m] (List.getElem_mem hk)
      exact q _ h1.1 h1.2
end
end Z
set_option Elab.async false
set_option linter.all false
set_option maxRecDepth 100000
set_option maxHeartbeats 4000000
namespace Z
open PySem PySem.Spec PyProof.Rows L2
/-! ### own classes: making, methods, calls of instances, == -/
structure Mak (P : Program) (w : World) (K : PySem.W.Frag) (mg : Str → Option Value) (base : Heap) (k : Nat) (x : Str) (sp : Sp) : Prop where
  ex : ∃ (C f : Addr) (fd : FuncData) (ps : List Str) (si : Sp), Mk K C f ∧ FnOk P w K mg base CX0 k f fd ps si ∧ mg x = some (.ref C) ∧ Binds K fd ps [] ∧
    ∀ vs H Q E, sp vs H Q E → ∀ n dx, H n = none → H dx = none → dx ≠ n → si (.ref n :: vs) (upd (upd H dx (.own n)) n (.ins C dx [])) (fun v H2 => v = .non ∧ Q (.ref n) H2) E
structure Met (P : Program) (w : World) (K : PySem.W.Frag) (mg : Str → Option Value) (base : Heap) (k : Nat) (C : Addr) (m : Str) (sp : Sp) : Prop where
  ex : ∃ (f : Addr) (fd : FuncData) (ps : List Str), Cls K C ∧ Meth K C m f ∧ FnOk P w K mg base CX0 k f fd ps sp ∧ Binds K fd ps []
section
variable {X : Cx} {k j : Nat} {x m : Str} {sp : Sp} {C : Addr} {p pos apos : Pos} {e o : Expr} {es : List Expr} {t : TA} {ta : TE}
theorem pe_mk (c : Mak X.prog X.w X.K X.mg X.base k x sp) (hr : Room j X.A) (hk : k + 1 ≤ j) (hg : Gl X x) (ha : PA X (e :: es) t)
    (hdb : (x == ("__debug__" : Str)) = false := by decide) (he : starEach (e :: es) X.env = (false, eval e X.env) :: starEach es X.env := by rfl) (hpl : (backTo pos (starEach es X.env)).any (·.1) = false := by rfl) : PE X (.Call (.Name x p) (e :: es) [] pos) (tCall sp [] E0 t) := by
  obtain ⟨C, f, fd, ps, si, M, F, hm, b, imp⟩ := c.ex
  constructor
  intro pins s σ H Q I h
  refine wpAny_Call_Name_kw (ld_glob I hg hm ?_ hdb)
  refine PySem.W.callWith_K (h₀ := X.base) I.ok.mod.kin M.kp (thn (ha.run pos pins s σ H _ I h) fun us s1 ⟨vs, H1, I1, r, q⟩ => ⟨I1.kIn, ?_⟩) he hpl
  have q2 : sp vs H1 Q E0 := by
    have z : sp (vs ++ []) H1 Q E0 := q
    rw [List.append_nil] at z
    exact z
  refine run_make (dvs := []) M F (hr.mono hk) b .nil pass0 I1 r (fun n dx n1 n2 n3 => ?_)
  rw [List.append_nil]
  exact imp _ _ _ _ q2 n dx n1 n2 n3
theorem pe_me {pl : Sem Bool} (c : Met X.prog X.w X.K X.mg X.base k C m sp) (he : PE X o ta) (hr : Room j X.A) (hk : k ≤ j) (ha : PA X (e :: es) t)
    (hst : starEach (e :: es) X.env = (false, eval e X.env) :: starEach es X.env := by rfl) (hpl : (backTo pos (starEach es X.env)).any (·.1) = false := by rfl)
    (ht : eval (.Call (.Attribute o m apos) (e :: es) [] pos) X.env = (do
      let ov ← eval o X.env
      standAt apos.atName
      let (f, first) ← holding [ov] (getMethod ov m pl)
      callWith pos f first (backTo pos (starEach (e :: es) X.env)) (backToKw pos (keywordEach [] X.env))) := by rfl) : PE X (.Call (.Attribute o m apos) (e :: es) [] pos) (tMeth C m sp [] E0 ta t) := by
  obtain ⟨f, fd, ps, cl, me, F, b⟩ := c.ex
  exact pe_meth he cl me F (hr.mono hk) b .nil pass0 ha hst hpl ht
theorem pe_me0 {pl : Sem Bool} (c : Met X.prog X.w X.K X.mg X.base k C m sp) (he : PE X o ta) (hr : Room j X.A) (hk : k ≤ j)
    (ht : eval (.Call (.Attribute o m apos) [] [] pos) X.env = (do
      let ov ← eval o X.env
      standAt apos.atName
      let (f, first) ← holding [ov] (getMethod ov m pl)
      callWith pos f first (backTo pos (starEach [] X.env)) (backToKw pos (keywordEach [] X.env))) := by rfl) : PE X (.Call (.Attribute o m apos) [] [] pos) (tMeth C m sp [] E0 ta tNil) := by
  obtain ⟨f, fd, ps, cl, me, F, b⟩ := c.ex
  exact pe_meth0 he cl me F (hr.mono hk) b .nil pass0 ht
end
/-! ### f(e, ..), f an instance of C -/
structure Cob (P : Program) (w : World) (K : PySem.W.Frag) (mg : Str → Option Value) (base : Heap) (k : Nat) (C : Addr) (sp : Sp) : Prop where
  ex : ∃ g : Addr, StX.CallO K C g ∧ FnR P w K mg base CX0 k g sp
def tCo (C : Addr) (sp : Sp) (tf : TE) (t : TA) : TE := fun σ H Q => tf σ H fun y H1 => ∃ a, y = V.ref a ∧ t σ H1 fun vs H2 => (∃ dx fs, H2 a = some (.ins C dx fs)) ∧ sp (V.ref a :: vs) H2 Q E0
section
variable {X : Cx} {k j : Nat} {sp : Sp} {C : Addr} {pos : Pos} {e fe : Expr} {es : List Expr} {t : TA} {tf : TE}
theorem pe_co (c : Cob X.prog X.w X.K X.mg X.base k C sp) (hf : PE X fe tf) (hr : Room j X.A) (hk : k ≤ j) (ha : PA X (e :: es) t)
    (ht : eval (.Call fe (e :: es) [] pos) X.env = (do callWith pos (← eval fe X.env) [] (backTo pos (starEach (e :: es) X.env)) (backToKw pos (keywordEach [] X.env))) := by rfl)
    (he : starEach (e :: es) X.env = (false, eval e X.env) :: starEach es X.env := by rfl) (hpl : (backTo pos (starEach es X.env)).any (·.1) = false := by rfl) : PE X (.Call fe (e :: es) [] pos) (tCo C sp tf t) := by
  obtain ⟨g, co, F⟩ := c.ex
  constructor
  intro pins s σ H Q I h
  refine Call_ (thn (hf.run pins s σ H _ I h) fun u s1 ⟨y, H1, I1, ry, a, ey, q⟩ => ?_) ht
  subst ey
  obtain rfl : u = Value.ref a := ry
  refine StX.callO_with (thn (ha.run pos pins s1 σ H1 _ I1 q) fun us s2 ⟨vs, H2, I2, r, hi, q2⟩ => ?_) he hpl
  have hi2 : StX.InsC X H2 a C := .inr hi
  obtain ⟨ox, od, J, hd⟩ := StX.insC_at I2 hi2
  exact ⟨⟨C, ox, od, J, hd⟩, StX.run_callO co F (hr.mono hk) pass0 I2 hi2 r q2⟩
end
/-! ### a == b by the class's own __eq__ -/
structure Eqo (P : Program) (w : World) (K : PySem.W.Frag) (mg : Str → Option Value) (base : Heap) (k : Nat) (C : Addr) (sp : Sp) : Prop where
  ex : ∃ (f : Addr) (fd : FuncData) (ps : List Str), FnOk P w K mg base CX0 k f fd ps sp ∧ PySem.W.findIn K (.ref C) "__eq__" = some (some (.ref f)) ∧ PySem.W.isFn K (.ref f) = true ∧ Binds K fd ps []
def rOwn (C : Addr) (sp : Sp) : R2 := fun x y H Q => ∃ a b dx dy fs gs, x = .ref a ∧ y = .ref b ∧ H a = some (.ins C dx fs) ∧ H b = some (.ins C dy gs) ∧ sp [.ref a, .ref b] H (fun v H' => ∃ r, v = .bl r ∧ Q v H') E0
theorem op_own {X : Cx} {k j : Nat} {C : Addr} {sp : Sp} (c : Eqo X.prog X.w X.K X.mg X.base k C sp) (hr : Room j X.A) (hk : k ≤ j) : OpR X (compareOp .Eq) (rOwn C sp) := by
  intro pins s σ H x y v u Q I rx ry hq
  obtain ⟨f, fd, ps, F, hs, hf, hb⟩ := c.ex
  obtain ⟨a, b, dx, dy, fs, gs, rfl, rfl, ha, hb', q⟩ := hq
  cases rx
  cases ry
  obtain ⟨mA, J, _⟩ := ins_get I.hok ha
  obtain ⟨mB, J', _⟩ := ins_get I.hok hb'
  obtain ⟨od, J, _⟩ := J.look
  obtain ⟨od', J', _⟩ := J'.look
  obtain ⟨m, hF⟩ := I.fr
  show wpAny (model X.prog X.w) X.A (richCompare .Eq (Value.ref a) (Value.ref b)) (EP X pins σ Q) X.xe s
  refine PySem.W.cmp_K (op := .Eq) (tb := .ref C) (hr.mono hk).units0 hF I.ok.mod.kin J J'.type (by simp [PySem.W.notFirst]) hs hf ?_
  have r2 : Vals [V.ref a, V.ref b] [Value.ref a, Value.ref b] := .cons rfl (.cons rfl .nil)
  refine thn (run_fn (dvs := []) F (hr.mono hk) hb .nil pass0 I r2 q) fun r s' z => ?_
  obtain ⟨v, H', I', rv, b', rfl, q'⟩ := z
  cases rv
  exact ⟨.bl b', H', I', rfl, q'⟩
end Z
set_option linter.all false
set_option maxRecDepth 100000
set_option maxHeartbeats 4000000
namespace Z
open PySem PySem.Spec PyProof.Rows L2
/-! ### dicts whose keys are tuples of ints, texts, None, bools and such tuples; the values are ints -/
mutual
inductive NkV (H : Hp) : NestedKey → V → Prop
  | none : NkV H .none .non
  | bl (b : Bool) : NkV H (.num (if b = true then 1 else 0)) (.bl b)
  | int (i : Int) : NkV H (.num i) (.int i)
  | str (x : Str) : NkV H (.text x) (.str x)
  | tup {a : Addr} {ks : List NestedKey} {vs : List V} : H a = some (.tup vs) → NkA H ks vs → NkV H (.tup ks) (.ref a)
inductive NkA (H : Hp) : List NestedKey → List V → Prop
  | nil : NkA H [] []
  | cons {k : NestedKey} {v : V} {ks : List NestedKey} {vs : List V} : NkV H k v → NkA H ks vs → NkA H (k :: ks) (v :: vs)
end
mutual
theorem NkV.mono {H H' : Hp} (s : Same H H') : ∀ {k : NestedKey} {v : V}, NkV H k v → NkV H' k v
  | _, _, .none => .none
  | _, _, .bl b => .bl b
  | _, _, .int i => .int i
  | _, _, .str x => .str x
  | _, _, .tup e t => .tup (s _ _ e) (NkA.mono s t)
theorem NkA.mono {H H' : Hp} (s : Same H H') : ∀ {ks : List NestedKey} {vs : List V}, NkA H ks vs → NkA H' ks vs
  | _, _, .nil => .nil
  | _, _, .cons x t => .cons (NkV.mono s x) (NkA.mono s t)
end
mutual
theorem NkV.keepT {H H' : Hp} (s : ∀ c vs, H c = some (.tup vs) → H' c = some (.tup vs)) : ∀ {k : NestedKey} {v : V}, NkV H k v → NkV H' k v
  | _, _, .none => .none
  | _, _, .bl b => .bl b
  | _, _, .int i => .int i
  | _, _, .str x => .str x
  | _, _, .tup e t => .tup (s _ _ e) (NkA.keepT s t)
theorem NkA.keepT {H H' : Hp} (s : ∀ c vs, H c = some (.tup vs) → H' c = some (.tup vs)) : ∀ {ks : List NestedKey} {vs : List V}, NkA H ks vs → NkA H' ks vs
  | _, _, .nil => .nil
  | _, _, .cons x t => .cons (NkV.keepT s x) (NkA.keepT s t)
end
mutual
theorem NkV.is {P : Program} {w : World} {H : Hp} {h : Heap} (ok : HOk P w H h) : ∀ {k : NestedKey} {y : V} {u : Value}, NkV H k y → RelV y u → NestedIs h k u
  | _, _, u, .none, r => by
    cases (show u = Value.none from r)
    exact .none
  | _, _, u, .bl b, r => by
    cases (show u = Value.bool b from r)
    exact .bool rfl
  | _, _, u, .int i, r => by
    obtain ⟨t, rfl⟩ := (show ∃ t, u = Value.int i t from r)
    exact .int i t
  | _, _, u, .str x, r => by
    obtain ⟨t, rfl⟩ := (show ∃ t, u = Value.str x t from r)
    exact .text x t
  | _, _, u, @NkV.tup _ a ks vs e t, r => by
    cases (show u = Value.ref a from r)
    obtain ⟨_, its, rv, o, h1, h2, n, h3⟩ := (show ObjOk P w H h a (.tup vs) from ok a _ e)
    exact .tup h1 h2 h3 (by simpa using NkA.is ok t rv)
theorem NkA.is {P : Program} {w : World} {H : Hp} {h : Heap} (ok : HOk P w H h) : ∀ {ks : List NestedKey} {vs : List V} {us : List Value}, NkA H ks vs → Vals vs us → NestedAll h ks us
  | _, _, _, .nil, .nil => .nil
  | _, _, _, .cons x t, .cons r rs => .cons (NkV.is ok x r) (NkA.is ok t rs)
end
/-- the dict's own object -/
def DNo (P : Program) (w : World) (a : Addr) (kvs : List (NestedKey × Addr × Int)) : HO := .ext fun h => kvs.length ≤ sizeLine ∧ (a == sysModules) = false ∧ ∃ xs : List (NestedKey × Addr × Value),
  Paired (fun (p : NestedKey × Addr × Int) (q : NestedKey × Addr × Value) => p.1 = q.1 ∧ p.2.1 = q.2.1 ∧ ∃ t, q.2.2 = .int p.2.2 t) kvs xs ∧
  ∃ o es ep, h.get? a = some o ∧ o.ExactDict ∧ o.data = .dict es ep ∧ es.toList = xs.map (entryOfKey (nestedKind P w)) ∧ (xs.map (·.1)).Nodup
/-- a dict, its keys there -/
structure DN (P : Program) (w : World) (H : Hp) (a : Addr) (kvs : List (NestedKey × Addr × Int)) : Prop where
  at_ : H a = some (DNo P w a kvs)
  ks : ∀ x ∈ kvs, NkV H x.1 (.ref x.2.1) ∧ x.1.depth ≤ 8
theorem DN.mono {P : Program} {w : World} {H H' : Hp} {a : Addr} {kvs : List (NestedKey × Addr × Int)} (s : Same H H') (d : DN P w H a kvs) : DN P w H' a kvs := ⟨s _ _ d.at_, fun x m => ⟨(d.ks x m).1.mono s, (d.ks x m).2⟩⟩
abbrev Prn (p : NestedKey × Addr × Int) (q : NestedKey × Addr × Value) : Prop := p.1 = q.1 ∧ p.2.1 = q.2.1 ∧ ∃ t, q.2.2 = .int p.2.2 t
theorem dn_of {P : Program} {w : World} {H : Hp} {h : Heap} {a : Addr} {kvs : List (NestedKey × Addr × Int)} (ok : HOk P w H h) (d : DN P w H a kvs) : kvs.length ≤ sizeLine ∧ (a == sysModules) = false ∧ ∃ xs, Paired Prn kvs xs ∧ h.DictOfH (nestedKind P w) a xs := by
  obtain ⟨⟨z, y, xs, r, o, es, ep, h1, h2, h3, h4, h5⟩, _⟩ := (show ObjOk P w H h a (DNo P w a kvs) from ok a _ d.at_)
  refine ⟨z, y, xs, r, o, es, ep, h1, h2, h3, h4, ?_, h5⟩
  have all : ∀ {l : List (NestedKey × Addr × Int)} {m : List (NestedKey × Addr × Value)}, Paired Prn l m → (∀ x ∈ l, NkV H x.1 (.ref x.2.1) ∧ x.1.depth ≤ 8) → ∀ x ∈ m, (nestedKind P w).is h x.1 x.2.1 := by
    intro l m q
    induction q with
    | nil => intro _ x hx; exact nomatch hx
    | @cons p q ps qs hq t ih =>
      intro hk x hx
      rcases List.mem_cons.mp hx with e | hx
      · subst e
        obtain ⟨k1, k2⟩ := hk p List.mem_cons_self
        rw [← hq.1, ← hq.2.1]
        exact ⟨k1.is ok rfl, k2⟩
      · exact ih (fun y m => hk y (List.mem_cons_of_mem _ m)) x hx
  exact all r d.ks
theorem dno_ok {P : Program} {w : World} {H : Hp} {h : Heap} {a : Addr} {kvs : List (NestedKey × Addr × Int)} {xs : List (NestedKey × Addr × Value)} (z : kvs.length ≤ sizeLine) (y : (a == sysModules) = false) (r : Paired Prn kvs xs) (dd : h.DictOfH (nestedKind P w) a xs) : ObjOk P w H h a (DNo P w a kvs) := by
  obtain ⟨o, es, ep, h1, h2, h3, h4, _, h5⟩ := dd
  exact ⟨⟨z, y, xs, r, o, es, ep, h1, h2, h3, h4, h5⟩, ⟨o, h1⟩, fun g1 g2 ⟨z, y, xs, r, o, es, ep, h1, h2⟩ k => ⟨z, y, xs, r, o, es, ep, k o h1, h2⟩⟩
def atN (kvs : List (NestedKey × Addr × Int)) (k : NestedKey) : Option Int := (kvs.find? fun x => decide (x.1 = k)).map (·.2.2)
theorem atN_rel {k : NestedKey} : ∀ {kvs : List (NestedKey × Addr × Int)} {xs : List (NestedKey × Addr × Value)}, Paired Prn kvs xs → (atN kvs k = none → atKey xs k = none) ∧ ∀ i, atN kvs k = some i → ∃ p t, atKey xs k = some p ∧ p.2 = Value.int i t := by
  intro kvs xs q
  induction q with
  | nil => exact ⟨fun _ => rfl, fun i h => by cases h⟩
  | @cons p q ps qs hq t ih =>
    obtain ⟨e1, e2, tk, e3⟩ := hq
    by_cases c : p.1 = k
    · refine ⟨fun h => ?_, fun i h => ?_⟩
      · unfold atN at h
        rw [List.find?_cons, decide_eq_true c] at h
        cases h
      · unfold atN at h
        rw [List.find?_cons, decide_eq_true c] at h
        refine ⟨q.2, tk, ?_, ?_⟩
        · unfold atKey
          rw [List.find?_cons, decide_eq_true (e1 ▸ c)]
          rfl
        · rw [e3]
          injection h with h
          rw [show p.2.2 = i from h]
    · have c2 : ¬ q.1 = k := fun z => c (e1.trans z)
      have h1 : atN (p :: ps) k = atN ps k := by
        unfold atN
        rw [List.find?_cons, decide_eq_false c]
      have h2 : atKey (q :: qs) k = atKey qs k := by
        unfold atKey
        rw [List.find?_cons, decide_eq_false c2]
      rw [h1, h2]
      exact ih
theorem paired_snoc {α β : Type} {F : α → β → Prop} {x : α} {y : β} : ∀ {l : List α} {m : List β}, Paired F l m → F x y → Paired F (l ++ [x]) (m ++ [y])
  | _, _, .nil, h => .cons h .nil
  | _, _, .cons r t, h => .cons r (paired_snoc t h)
section
variable {X : Cx} {pins : List (Addr × Obj)} {σ : L2.St} {H : Hp} {s : Shared} {a : Addr} {u r : Value} {A : Around} {E : Value → Shared → Prop}
theorem isDN_at {kvs : List (NestedKey × Addr × Int)} (I : Inv X pins σ H s) (d : DN X.prog X.w H a kvs) :
    s.TypeIs (.ref a) "dict" ∧ (∀ b, Value.ref a = .ref b → ∃ ob, s.heap.get? b = some ob ∧ ob.dict = none) ∧ (a == sysModules) = false := by
  obtain ⟨_, hd, xs, _, dd⟩ := dn_of I.hok d
  refine ⟨dd.typeIs, fun b q => ?_, hd⟩
  cases q
  obtain ⟨ob, _, _, h1, h2, _⟩ := dd
  exact ⟨ob, h1, h2.2.1⟩
theorem dn_setd {kvs : List (NestedKey × Addr × Int)} {k : NestedKey} {b : Addr} {i : Int} {Q : Value → Shared → Prop} (hu : A.units + 9 < cLine) (I : Inv X pins σ H s) (d : DN X.prog X.w H a kvs) (hk : NkV H k (.ref b)) (hd8 : k.depth ≤ 8) (rd : RelV (.int i) r) (hl : kvs.length < sizeLine)
    (h1 : ∀ v, atN kvs k = some v → ∀ (w' : Value) (s' : Shared), Inv X pins σ H s' → RelV (.int v) w' → Q w' s') (h2 : atN kvs k = none → ∀ (w' : Value) (s' : Shared), Inv X pins σ (upd H a (DNo X.prog X.w a (kvs ++ [(k, b, i)]))) s' → RelV (.int i) w' → Q w' s') :
    wpAny (model X.prog X.w) A (call (.builtin "dict.setdefault") [.ref a, .ref b, r]) Q E s := by
  obtain ⟨z, hd, xs, rel, dd⟩ := dn_of I.hok d
  have hz : xs.length ≤ sizeLine := by rw [← Paired.length rel]; exact z
  obtain ⟨q1, q2⟩ := atN_rel (k := k) rel
  refine call_setdefault_heap (hsz := hz) (show (nestedKind X.prog X.w).room A.in1 from ?_) ⟨hk.is I.hok rfl, hd8⟩ hd dd (fun p hp => ?_) fun hn h' dd' hs => ?_
  · show A.in1.units + 8 < cLine
    rw [Around.in1_units]
    omega
  · cases e : atN kvs k with
    | none => rw [q1 e] at hp; cases hp
    | some v =>
      obtain ⟨p2, t, e1, e2⟩ := q2 v e
      rw [e1] at hp
      cases hp
      rw [e2]
      exact h1 v e _ _ (I.tok _) ⟨t, rfl⟩
  · cases e : atN kvs k with
    | some v =>
      obtain ⟨p2, t, e1, e2⟩ := q2 v e
      rw [e1] at hn
      cases hn
    | none =>
      rw [storedH_new hn] at dd'
      have he : ∃ q, h'.get? a = some q := let ⟨q, _, _, hq, _⟩ := dd'; ⟨q, hq⟩
      obtain ⟨t, rfl⟩ := (show ∃ t, r = Value.int i t from rd)
      exact h2 e _ _ (d_write (t' := _) I (by rw [d.at_]; exact True.intro) hs he (dno_ok (by rw [List.length_append]; exact hl) hd (paired_snoc rel ⟨rfl, rfl, t, rfl⟩) dd')) ⟨t, rfl⟩
theorem dno_new {P : Program} {w : World} {H : Hp} (h : Heap) (hb : sysModules < h.objs.size) : ObjOk P w H (h.push { cls := .type "dict", data := .dict #[] }) h.objs.size (DNo P w h.objs.size []) :=
  dno_ok (xs := []) (Nat.zero_le _) (beq_eq_false_iff_ne.mpr (Ne.symm (Nat.ne_of_lt hb))) .nil (Heap.DictOfH.new h)
end
/-- {}, to be such a dict -/
def tDNewN (P : Program) (w : World) : TE := fun _ H Q => ∀ p, H p = none → Q (.ref p) (upd H p (DNo P w p []))
theorem pe_dnewN {X : Cx} {P : Program} {w : World} {pos : Pos} (hP : X.prog = P) (hw : X.w = w) : PE X (.Dict [] [] pos) (tDNewN P w) := by
  subst hP hw
  exact ⟨fun pins s σ H Q I h => wpAny_Dict_empty ⟨.ref s.heap.objs.size, _, I.laid (a := s.heap.objs.size) (o := DNo X.prog X.w s.heap.objs.size []) (t' := s.toks) (fun _ _ q => Heap.get?_push_of_some _ q) (Nat.le_refl _) (dno_new s.heap I.big), rfl, h _ (I.hok.fresh (Nat.le_refl _))⟩⟩
theorem dn_new {P : Program} {w : World} {H : Hp} {p : Addr} : DN P w (upd H p (DNo P w p [])) p [] := ⟨upd_same, fun x m => absurd m (by simp)⟩
/-- len(d) -/
def rLenN (P : Program) (w : World) : List V → Hp → VK → Prop := fun xs H Q => ∃ (p : Addr) (kvs : List (NestedKey × Addr × Int)), xs = [.ref p] ∧ DN P w H p kvs ∧ Q (.int ((kvs.length : Nat) : Int)) H
theorem call_lenN {X : Cx} {P : Program} {w : World} (hP : X.prog = P) (hw : X.w = w) : CallR X (.builtin "len") (rLenN P w) := by
  subst hP hw
  intro pins s σ H xs us Q I r h
  obtain ⟨p, kvs, rfl, hp, q⟩ := h
  obtain ⟨u, rfl, rx⟩ := vals1 r
  obtain rfl : u = .ref p := rx
  obtain ⟨z, hd, ys, rel, dd⟩ := dn_of I.hok hp
  have hl : kvs.length = ys.length := Paired.length rel
  refine call_len_dictH hd dd (by rw [← hl]; rw [sizeLine_eq] at z; omega) ?_
  rw [← hl]
  exact ⟨.int ((kvs.length : Nat) : Int), H, I.tok _, ⟨_, rfl⟩, q⟩
/-- d.setdefault(y, z) -/
def tDSetdN (P : Program) (w : World) (td ty tx : TE) : TE := fun σ H Q => td σ H fun x H1 => ∃ a, x = .ref a ∧ (∃ kvs, DN P w H1 a kvs) ∧ ty σ H1 fun y H2 => tx σ H2 fun z H3 => ∃ (kvs : List (NestedKey × Addr × Int)) (k : NestedKey) (b : Addr) (i : Int), DN P w H3 a kvs ∧ y = .ref b ∧ z = .int i ∧ NkV H3 k (.ref b) ∧ k.depth ≤ 8 ∧ kvs.length < sizeLine ∧
  (∀ v, atN kvs k = some v → Q (.int v) H3) ∧ (atN kvs k = none → Q (.int i) (upd H3 a (DNo P w a (kvs ++ [(k, b, i)]))))
theorem pe_dsetdN {X : Cx} {P : Program} {w : World} {o e f : Expr} {td ty tx : TE} {apos cpos : Pos} (hu : X.A.units + 9 < cLine) (hP : X.prog = P) (hw : X.w = w) (ho : PE X o td) (he : PE X e ty) (hf : PE X f tx) (m : M2 X o "setdefault" apos e f cpos) : PE X (.Call (.Attribute o "setdefault" apos) [e, f] [] cpos) (tDSetdN P w td ty tx) := by
  subst hP hw
  refine ⟨fun pins s σ H Q I h => ?_⟩
  refine wpAny_Call_method m.base m.few m.line PySem.F.plainAttrs_dict PySem.F.slot_dict_setdefault PySem.F.type_dict_setdefault (thn (ho.run pins s σ H _ I h) fun u s1 ⟨x, H1, I1, rx, a, ex, ⟨kvs0, d⟩, q1⟩ => ?_)
  subst ex
  obtain rfl : u = Value.ref a := rx
  obtain ⟨t1, t2, _⟩ := isDN_at I1 d
  refine ⟨t1, t2, ?_⟩
  rw [m.trees]
  refine Calls.callWith_builtin rfl (Calls.evalArgs_plain (Calls.spliced_cons (thn (he.run pins s1 σ H1 _ I1 q1) fun iv s2 ⟨y, H2, I2, ry, q2⟩ =>
    Calls.spliced_cons (thn (hf.run pins s2 σ H2 _ I2 q2) fun fv s3 ⟨z, H3, I3, rz, kvs, k, b, i, ea, ey, ez, hk, h8, hl, q3, q4⟩ => Calls.spliced_nil ?_))))
  subst ey ez
  obtain rfl : iv = Value.ref b := ry
  exact dn_setd hu I3 ea hk h8 rz hl (fun v hv w' s4 I4 rw' => ⟨.int v, _, I4, rw', q3 v hv⟩) fun hn w' s4 I4 rw' => ⟨.int i, _, I4, rw', q4 hn⟩
theorem DN.put {P : Program} {w : World} {H : Hp} {a b : Addr} {kvs : List (NestedKey × Addr × Int)} {k : NestedKey} {i : Int} (d : DN P w H a kvs) (hk : NkV H k (.ref b)) (h8 : k.depth ≤ 8) : DN P w (upd H a (DNo P w a (kvs ++ [(k, b, i)]))) a (kvs ++ [(k, b, i)]) := by
  have key : ∀ {u : NestedKey} {v : V}, NkV H u v → NkV (upd H a (DNo P w a (kvs ++ [(k, b, i)]))) u v := by
    have ht : ∀ c vs, H c = some (.tup vs) → (upd H a (DNo P w a (kvs ++ [(k, b, i)]))) c = some (.tup vs) := fun c vs h => by
      rw [upd_ne (fun q => by rw [q, d.at_] at h; cases h)]
      exact h
    intro u v h
    exact NkV.keepT ht h
  refine ⟨upd_same, fun x m => ?_⟩
  rcases List.mem_append.mp m with m | m
  · exact ⟨key (d.ks x m).1, (d.ks x m).2⟩
  · rw [List.mem_singleton.mp m]
    exact ⟨key hk, h8⟩
end Z
set_option Elab.async false
set_option linter.all false
set_option maxRecDepth 100000
set_option maxHeartbeats 4000000
namespace Z
open PySem PySem.Spec PyProof.Rows L2 NdefX
/-! ### an own exception whose __init__ begins with super().__init__(..) -/
/-- what the written part says of it: the function f of the class C (cell cc, code c) -/
structure SupK (P : Program) (K : PySem.W.Frag) (C f c cc : Addr) (fd : FuncData) : Prop where
  lk : ∃ oc od osl, K.lookup f = some ⟨oc, od, .func fd, osl⟩
  code : ∃ (ccl : Value) (cdd : Option Addr) (vs : Array Value) (ccs : Array (Option Value)) (file : Str) (tf : Tok), K.lookup c = some ⟨ccl, cdd, .fields vs, ccs⟩ ∧ vs[2]? = some (.str file tf) ∧ ((P.main.file : Str) == file) = true
  cell : ∃ cl cld csl, K.lookup cc = some ⟨cl, cld, .cell (some (.ref C)), csl⟩
  top : (P.main.scope.names.lookup ("super" : Str)).isSome = false
  mro : PySem.W.mroIn K C (.ref C) = some true
  opq : PySem.W.nsIn K cStatics "thirdparty.any" = some none
  ini : PySem.W.ks_superIn K C C "__init__" = some (some (.builtin "ValueError.__init__"))
  sub : PySem.W.subIn K (.ref C) (.type "ValueError") = some true
  exi : PySem.W.excInitIn K C He.veBase "ValueError.__new__" = true
  oex : OexC K C
section
variable {CX : CXT} {P : Program} {w : World} {K : PySem.W.Frag} {mg : Str → Option Value} {base : Heap} {N ps : List Str} {F : NF} {f C a cc : Addr} {A : Around} {outer : List Env} {s0 s : Shared} {H0 H : Hp} {E : XK} {σ : L2.St}
/-- the bound __init__ called -/
theorem call_mw {X : Cx} {pins : List (Addr × Obj)} {u : Addr} {us : List Value} {Q : Value → Shared → Prop} {E : Value → Shared → Prop} {A : Around} (S : SupK X.prog X.K C f c cc fd) (I : Inv X ((u, PySem.W.kxs_mw "ValueError.__init__" a) :: pins) σ H s) (e : H a = some (exo a C none)) (hz : us.length ≤ sizeLine)
    (h : ∀ s', Inv X ((u, PySem.W.kxs_mw "ValueError.__init__" a) :: pins) σ H s' → Q .none s') : wpAny (model X.prog X.w) A (call (.ref u) us) Q E s := by
  have FB := F.excBase_ValueError
  obtain ⟨nm, N', qn, bs, bm, hdct, sn, sub, ab, col, dd, k0, k1, k2, k3, k5, hC, hT⟩ := PySem.W.excInit_of I.kIn S.exi
  have hu := (I.pin (u, PySem.W.kxs_mw "ValueError.__init__" a) (List.mem_append_right _ (List.mem_cons_self ..))).1
  obtain ⟨t1, he⟩ := exo_at I.hok e
  obtain ⟨hh, g, d, tk, os⟩ := s
  refine wpAny_call (codeAny_of_tree ?_)
  show wpAny _ A.in1 (callAny (.ref u) ⟨us, []⟩) _ _ _
  simp only [callAny]
  refine wpAny_bind (wpAny_load hu ?_)
  simp only [PySem.W.kxs_mw, show (Value.type "method-wrapper" == Value.type "method" || Value.type "method-wrapper" == Value.type "builtin_function_or_method" || Value.type "method-wrapper" == Value.type "method-wrapper") = true by decide, if_true]
  refine PySem.W.KFB.if_so (by decide) ?_
  refine wpAny_bind (PySem.W.check_bound_init FB.toExcCallFacts hC he rfl ?_)
  refine wpAny_bind (wpAny_pure (wpAny_pure ?_))
  refine ⟨plainId_quiet FB.init.plain _, codeAny_builtin FB.initEntry ?_⟩
  refine PySem.W.exc_init_tree (cls := .ref C) (t0 := t1) (dv := none) (c2 := .none) (c3 := .none) (b4 := .bool false) he hz fun h' k hx _ => ?_
  have J := I.write (t' := tk) (x := a) (e := a) (o := exo a C none) (by rw [e]; exact True.intro) (.inl rfl) k ⟨_, hx⟩ (exo_ok hx)
  have eu : upd H a (exo a C none) = H := by
    funext b
    by_cases hb : b = a
    · rw [hb, upd_same, e]
    · rw [upd_ne hb]
  rw [eu] at J
  exact h _ J
/-- super().__init__(e, ..), the first statement -/
theorem super_first {pl : Sem Bool} {fd : FuncData} {ar : Arg} {t : TA} {e : Expr} {es : List Expr} {p0 p1 p2 pos pos2 : Pos} {Qn : Hp → Prop} (S : SupK P K C f F.c cc fd) (hcl : F.cl = [(("__class__" : Str), cc)]) (hp : (fd.params.posonlyargs ++ fd.params.args).head? = some ar)
    (hks : F.scope.names.lookup ("super" : Str) = some .globalImplicit) (hkc : F.scope.names.lookup ("__class__" : Str) = some .free) (hka : F.scope.names.lookup ar.arg = some .local) (hk : F.scope.kind = .function) (m_super : mg "super" = none)
    (hN : N[0]? = some ar.arg) (ha : PA (ncx CX P w K mg base N F f A outer s0 H0 E) (e :: es) t) (I : Inv (ncx CX P w K mg base N F f A outer s0 H0 E) [] σ H s) (hs : σ[0]? = some (some (.ref a))) (hx : H a = some (exo a C none))
    (ht : t σ H fun vs H1 => vs.length ≤ 1000 ∧ H1 a = some (exo a C none) ∧ Qn H1)
    (hint : interactive (ncx CX P w K mg base N F f A outer s0 H0 E).env = false := by rfl) (hsw : swapsWith (.Call (.Attribute (.Call (.Name "super" p0) [] [] p1) "__init__" p2) (e :: es) [] pos) none pos2.line (ncx CX P w K mg base N F f A outer s0 H0 E).env = pure false := by rfl)
    (hev : eval (.Call (.Attribute (.Call (.Name "super" p0) [] [] p1) "__init__" p2) (e :: es) [] pos) (ncx CX P w K mg base N F f A outer s0 H0 E).env = (do
      let ov ← attributeBase (.Call (.Name "super" p0) [] [] p1) "__init__" (ncx CX P w K mg base N F f A outer s0 H0 E).env (eval (.Call (.Name "super" p0) [] [] p1) (ncx CX P w K mg base N F f A outer s0 H0 E).env)
      standAt p2.atName
      let (g, first) ← holding [ov] (getMethod ov "__init__" pl)
      callWith pos g first (backTo pos (starEach (e :: es) (ncx CX P w K mg base N F f A outer s0 H0 E).env)) []) := by rfl)
    (he : starEach (e :: es) (ncx CX P w K mg base N F f A outer s0 H0 E).env = (false, eval e (ncx CX P w K mg base N F f A outer s0 H0 E).env) :: starEach es (ncx CX P w K mg base N F f A outer s0 H0 E).env := by rfl) (hpl : (backTo pos (starEach es (ncx CX P w K mg base N F f A outer s0 H0 E).env)).any (·.1) = false := by rfl) :
    _root_.PySem.wpAt (model P w) (ncx CX P w K mg base N F f A outer s0 H0 E).A (.func F.body (ncx CX P w K mg base N F f A outer s0 H0 E).env) (exec (.Expr (.Call (.Attribute (.Call (.Name "super" p0) [] [] p1) "__init__" p2) (e :: es) [] pos) pos2) (ncx CX P w K mg base N F f A outer s0 H0 E).env)
      (fun fl s' => fl = .next ∧ ∃ H1, Inv (ncx CX P w K mg base N F f A outer s0 H0 E) [] σ H1 s' ∧ H1 a = some (exo a C none) ∧ Qn H1) (ncx CX P w K mg base N F f A outer s0 H0 E).xe s := by
  obtain ⟨oc, od, osl, lkf⟩ := S.lk
  obtain ⟨ccl, cdd, vs, ccs, file, tf, lkc, hvs, hfile⟩ := S.code
  obtain ⟨cl, cld, csl, lkcc⟩ := S.cell
  have KX : K.In s.heap := I.kIn
  obtain ⟨m, hn, hl⟩ := I.loc
  obtain ⟨u, ru, lu⟩ := hl 0 ar.arg (.ref a) hN hs (.inl hka)
  obtain rfl : u = .ref a := ru
  have hma : m ar.arg = some (.ref a) := by
    rcases lu with ⟨_, z⟩ | ⟨z, _⟩
    · exact z
    · rcases z with z | z
      · rw [show (ncx CX P w K mg base N F f A outer s0 H0 E).env.kindOf ar.arg = some .local from hka] at z; cases z
      · rw [show (ncx CX P w K mg base N F f A outer s0 H0 E).env.kindOf ar.arg = some .local from hka] at z; cases z
  obtain ⟨nm, q, NN, bs, bm, sn, sub, ab, col, dd, k0, k1, k2, k3, k5, hC, hbm⟩ := S.oex.cls
  obtain ⟨t1, hox⟩ := exo_at I.hok hx
  refine ks_wpAt_Expr_any (ks_wpAt_MethodCall ?_ hev) hint hsw
  refine ks_wpAt_super_base (env := (ncx CX P w K mg base N F f A outer s0 H0 E).env) (cc := F.c) hks hkc (by decide) rfl (KX _ _ lkf) rfl hp rfl (KX _ _ lkc) rfl hvs hfile S.top ?_
  obtain ⟨mb, h1, h2⟩ := I.mod.blt
  refine PySem.W.ks_loadName_global hk hks (Calls.loadGlobal_builtin (by rw [I.ok.glob]; exact I.mod.glob.keeps I.bk) m_super (by rw [I.ok.blt]; exact h1.keeps I.bk) ((h2 "super" (by decide)).trans (by decide +kernel)) ⟨rfl, ?_⟩)
  refine wpAny_loadName_free hk hkc (c := cc) (by show F.cl.lookup _ = _; rw [hcl]; rfl) ⟨_, KX _ _ lkcc, rfl⟩ ?_
  refine wpAny_loadName_local hk hka hn hma ?_
  refine ks_wpAny_isType_cls (KX _ _ hC) rfl ⟨rfl, ?_⟩
  obtain ⟨hh, g, d, tk, os⟩ := s
  refine ks_wpAny_call_super (KX _ _ hC) rfl hox rfl (fun c z => by cases z) (PySem.W.looks_mroIn KX S.mro) (fun h' eso kso => ?_)
  have I2 : Inv (ncx CX P w K mg base N F f A outer s0 H0 E) [] σ H ⟨h', g, d, tk, os⟩ := I.kept kso
  have KX2 : K.In h' := I2.kIn
  have hox2 := kso _ _ hox
  have IA : PySem.W.InstAt h' a _ C none := ⟨hox2, rfl, rfl, trivial⟩
  have hI : PySem.W.Looks (model P w) h' (isInstance (.ref a) (.type "ValueError")) true := IA.type.andThen (PySem.W.looks_subIn KX2 S.sub)
  have hm := S.ini
  cases hc : PySem.W.clsIn K C with
  | none =>
    unfold PySem.W.ks_superIn at hm
    rw [hc] at hm
    cases hm
  | some cd =>
    unfold PySem.W.ks_superIn at hm
    rw [hc] at hm
    refine PySem.W.kxs_getMethod PySem.W.kxs_ValueError eso (PySem.W.looks_opaque KX2 S.opq) (l₀ := cd.mro) ?_ rfl KX2 hm hI (PySem.W.ks_ne KX2 IA hc) (by decide) ?_
    · exact fun A Q E s k q => wpAny_bind ((PySem.W.looks_clsIn KX2 hc) A _ E s k (wpAny_pure q))
    · have I3 : Inv (ncx CX P w K mg base N F f A outer s0 H0 E) [(h'.objs.size, PySem.W.kxs_mw "ValueError.__init__" a)] σ H ⟨h'.push (PySem.W.kxs_mw "ValueError.__init__" a), g, d, tk + 1, os⟩ := ClX.pin_new I2 (fun b o e => Heap.get?_push_of_some _ e) (Nat.le_refl _) (Heap.get?_push_at rfl rfl) (fun v z => by cases z)
      rw [he]
      refine PySem.W.kxs_callWith (i := "ValueError.__init__") (x := a) (by show (false || (backTo pos (starEach es _)).any (·.1)) = false; rw [hpl]; rfl) ?_
      refine PySem.Calls.evalArgs_plain ?_
      have hrun := ha.run pos _ _ σ H _ I3 ht
      rw [he] at hrun
      refine thn hrun fun us s3 ⟨ws, H3, I4, r, q1, q2, q3⟩ => ?_
      refine ⟨ClX.pin_at I4, ?_⟩
      refine call_mw (X := ncx CX P w K mg base N F f A outer s0 H0 E) S I4 q2 (by show us.length ≤ sizeLine; rw [← r.length]; exact Nat.le_trans q1 (by decide)) fun s' I5 => ⟨rfl, H3, ClX.unpin I5, q2, q3⟩
theorem wpAt_to {M : Model} {A : Around} {c : Code} {α : Type} {m : Sem α} {Q Q' : α → Shared → Prop} {E : Value → Shared → Prop} {s : Shared} (h : _root_.PySem.wpAt M A c m Q E s) (hq : ∀ a s', Q a s' → Q' a s') : _root_.PySem.wpAt M A c m Q' E s := ks_wpAt_mono h hq fun _ _ z => z
/-- THE RULE: such an __init__, the rest of its body by its readings -/
theorem sup_ok {pl : Sem Bool} {fd : FuncData} {dV kV doc pm ct : Value} {an : Option Addr} {ar : Arg} {k : Nat} {sp : Sp} {txt : Str} {j : Nat} {p0 p1 p2 p3 pos pos2 : Pos} {rest : List Stmt} (hfd : fd = PySem.W.fnX F.name F.qual F.params F.body F.scope F.cl dV kV doc pm an (.ref F.c) ct)
    (S : SupK P K C f F.c cc fd) (hcd : PySem.W.codeIn K (.ref F.c) F.qual = true) (NS : NScope N ps ["__class__"] F.scope) (hcl : F.cl = [(("__class__" : Str), cc)]) (hp : (F.params.posonlyargs ++ F.params.args).head? = some ar) (hks : F.scope.names.lookup ("super" : Str) = some .globalImplicit) (m_super : mg "super" = none)
    (hN : N[0]? = some ar.arg) (hka : F.scope.names.lookup ar.arg = some .local)
    (hb : F.body = .Expr (.Call (.Attribute (.Call (.Name "super" p0) [] [] p1) "__init__" p2) [.Constant (.str txt) j p3] [] pos) pos2 :: rest)
    (len : ∀ vs H Q E, sp vs H Q E → vs.length = ps.length) (hself : ∀ vs H Q E, sp vs H Q E → ∃ a vs', vs = .ref a :: vs' ∧ H a = some (exo a C none))
    (hint : ∀ (A : Around) (outer : List Env) (s : Shared) (H : Hp) (E : XK), interactive (ncx CX P w K mg base N F f A outer s H E).env = false)
    (hsw : ∀ (A : Around) (outer : List Env) (s : Shared) (H : Hp) (E : XK), swapsWith (.Call (.Attribute (.Call (.Name "super" p0) [] [] p1) "__init__" p2) [.Constant (.str txt) j p3] [] pos) none pos2.line (ncx CX P w K mg base N F f A outer s H E).env = pure false)
    (hev : ∀ (A : Around) (outer : List Env) (s : Shared) (H : Hp) (E : XK), eval (.Call (.Attribute (.Call (.Name "super" p0) [] [] p1) "__init__" p2) [.Constant (.str txt) j p3] [] pos) (ncx CX P w K mg base N F f A outer s H E).env = (do
      let ov ← attributeBase (.Call (.Name "super" p0) [] [] p1) "__init__" (ncx CX P w K mg base N F f A outer s H E).env (eval (.Call (.Name "super" p0) [] [] p1) (ncx CX P w K mg base N F f A outer s H E).env)
      standAt p2.atName
      let (g, first) ← holding [ov] (getMethod ov "__init__" pl)
      callWith pos g first (backTo pos (starEach [.Constant (.str txt) j p3] (ncx CX P w K mg base N F f A outer s H E).env)) []))
    (hrest : ∀ (A : Around) (outer : List Env) (s : Shared) (H : Hp) (vs : List V) (Q : VK) (E : XK), sp vs H Q E → ∃ t, PSs (ncx CX P w K mg base N F f A outer s H E) rest t ∧ t { nx := fun _ H' => Q .non H', rt := Q } (startF N vs [some (.ref C)]) H) : FnOk P w K mg base CX (k + 1) f fd ps sp := by
  refine ⟨len, fun A outer s H args us vs Q E hr e0 hbn r hsp => ?_⟩
  have hl := len _ _ _ _ hsp
  have KX : K.In s.heap := e0.mod.kin.keeps fun b o e => (e0.bs b o e).1
  have lim : s.heap.NoLimit := e0.mod.nolimit.keeps fun b o e => (e0.bs b o e).1
  obtain ⟨oc, od, osl, lkf⟩ := S.lk
  obtain ⟨cl, cld, csl, lkcc⟩ := S.cell
  have CA : CellsAt F.cl ["__class__"] [some (.ref C)] s.heap H := by
    refine ⟨rfl, fun y c e => ?_, fun x y c e1 e2 => ?_, fun i y e => ?_⟩
    · rw [hcl] at e
      have ec : c = cc := by
        unfold List.lookup at e
        split at e
        · exact (Option.some.inj e).symm
        · cases e
      subst ec
      exact ⟨(e0.bs _ _ (e0.mod.kin _ _ lkcc)).2, _, _, KX _ _ lkcc, rfl⟩
    · rw [hcl] at e1 e2
      have k : ∀ z : Str, ([(("__class__" : Str), cc)] : List (Str × Addr)).lookup z = some c → z = "__class__" := fun z e => by
        unfold List.lookup at e
        split at e
        · next h => exact beq_iff_eq.mp h
        · cases e
      rw [k x e1, k y e2]
    · have ey : y = "__class__" := by
        cases i with
        | zero => exact (Option.some.inj e).symm
        | succ i => cases e
      subst ey
      refine ⟨cc, by rw [hcl]; rfl, fun v hv => ?_⟩
      have ei : i = 0 := by
        cases i with
        | zero => rfl
        | succ i => cases e
      subst ei
      obtain rfl : V.ref C = v := Option.some.inj (Option.some.inj hv)
      exact ⟨.ref C, rfl, _, KX _ _ lkcc, rfl⟩
  subst hfd
  refine ks_codeAny_call_defAt hr.depth (KX _ _ lkf) rfl lim (PySem.W.codeRec_of KX hcd) rfl hbn NS.nocell (fun ⟨n, _⟩ hy => NS.par n (List.of_mem_zip hy).1) (fun h₁ hns kp => ?_) NS.co NS.gen NS.kind
  show _root_.PySem.wpAt _ (ncx CX P w K mg base N F f A outer s H E).A (.func F.body (ncx CX P w K mg base N F f A outer s H E).env) (execs F.body (ncx CX P w K mg base N F f A outer s H E).env) _ (ncx CX P w K mg base N F f A outer s H E).xe _
  have I : Inv (ncx CX P w K mg base N F f A outer s H E) [] (startF N vs [some (.ref C)]) H { s with heap := h₁, toks := s.toks + (ps.zip us).length } := inv_startN NS hr.hd e0 hl r CA hns kp
  obtain ⟨a, vs', rfl, hx⟩ := hself _ _ _ _ hsp
  have hexe : execs F.body (ncx CX P w K mg base N F f A outer s H E).env = execs (.Expr (.Call (.Attribute (.Call (.Name "super" p0) [] [] p1) "__init__" p2) [.Constant (.str txt) j p3] [] pos) pos2 :: rest) (ncx CX P w K mg base N F f A outer s H E).env := by rw [hb]
  rw [hexe]
  refine ks_wpAt_execs_cons (wpAt_to (super_first (Qn := fun H1 => H1 = H) S hcl hp hks (NS.frk _ (List.mem_cons_self ..)) hka NS.kind m_super hN (pa_cons pe_str pa_nil) I rfl hx ⟨by simp, hx, rfl⟩ (hint A outer s H E) (hsw A outer s H E) (hev A outer s H E)) ?_)
  rintro fl s1 ⟨rfl, H1, I1, _, rfl⟩
  obtain ⟨t, ht, hq⟩ := hrest A outer s H1 _ Q E hsp
  refine wpAt_of_wpAny (wpAny_mono (ht.run [] _ _ H1 _ I1 hq) (fun fl s' hs => ?_) fun e s' hs => hs)
  have fin : ∀ {σ' : L2.St} {H' : Hp} {v : V} {u : Value}, Inv (ncx CX P w K mg base N F f A outer s H1 E) [] σ' H' s' → L2.RelV v u → Q v H' → CE outer P w H1 s Q u s' :=
    fun {σ' H' v u} J rv q => ⟨v, H', J.os, J.bare, J.base, J.hok, rv, q⟩
  cases fl with
  | ret u =>
    obtain ⟨v, σ', H', J, rv, q⟩ := hs
    exact fin J rv q
  | next =>
    obtain ⟨σ', H', J, q⟩ := hs
    exact fin (v := V.non) (u := Value.none) J rfl q
  | brk =>
    obtain ⟨_, _, _, q⟩ := hs
    exact False.elim q
  | cont =>
    obtain ⟨_, _, _, q⟩ := hs
    exact False.elim q
end
end Z
set_option Elab.async false
set_option linter.all false
set_option maxRecDepth 100000
set_option maxHeartbeats 4000000
namespace Z
open PySem PySem.Spec PyProof.Rows L2 NdefX
/-! ### class X(..): def __init__(self, v): super().__init__("text"); self.field = v -/
def spEx (C : Addr) (field : Str) : Sp := fun vs H Q _ => ∃ (a : Addr) (v : V), vs = [.ref a, v] ∧ H a = some (exo a C none) ∧ ∀ dx, H dx = none → dx ≠ a → Q .non (upd (upd H dx (exd dx [(field, v)])) a (exo a C (some dx)))
theorem exn_ok {P : Program} {w : World} {K : PySem.W.Frag} {mg : Str → Option Value} {base : Heap} {F : NF} {f C cc : Addr} {pl : Sem Bool} {fd : FuncData} {dV kV doc pm ct : Value} {an : Option Addr} {ar : Arg} {txt v field : Str} {j : Nat} {p0 p1 p2 p3 pos pos2 q1 q2 q3 q4 : Pos} (hfd : fd = PySem.W.fnX F.name F.qual F.params F.body F.scope F.cl dV kV doc pm an (.ref F.c) ct)
    (S : SupK P K C f F.c cc fd) (hcd : PySem.W.codeIn K (.ref F.c) F.qual = true) (NS : NScope ["self", v, "__class__"] ["self", v] ["__class__"] F.scope) (hcl : F.cl = [(("__class__" : Str), cc)]) (hp : (F.params.posonlyargs ++ F.params.args).head? = some ar) (har : ar.arg = "self") (hks : F.scope.names.lookup ("super" : Str) = some .globalImplicit) (m_super : mg "super" = none)
    (hno : PySem.W.findIn K (.ref C) field = some none) (hvd : (v == ("__debug__" : Str)) = false) (hvc : (v == ("__classdict__" : Str)) = false)
    (hb : F.body = [.Expr (.Call (.Attribute (.Call (.Name "super" p0) [] [] p1) "__init__" p2) [.Constant (.str txt) j p3] [] pos) pos2, .Assign [.Attribute (.Name "self" q1) field q2] (.Name v q3) q4])
    (hint : ∀ (A : Around) (outer : List Env) (s : Shared) (H : Hp) (E : XK), interactive (ncx CX0 P w K mg base ["self", v, "__class__"] F f A outer s H E).env = false)
    (hsw : ∀ (A : Around) (outer : List Env) (s : Shared) (H : Hp) (E : XK), swapsWith (.Call (.Attribute (.Call (.Name "super" p0) [] [] p1) "__init__" p2) [.Constant (.str txt) j p3] [] pos) none pos2.line (ncx CX0 P w K mg base ["self", v, "__class__"] F f A outer s H E).env = pure false)
    (hev : ∀ (A : Around) (outer : List Env) (s : Shared) (H : Hp) (E : XK), eval (.Call (.Attribute (.Call (.Name "super" p0) [] [] p1) "__init__" p2) [.Constant (.str txt) j p3] [] pos) (ncx CX0 P w K mg base ["self", v, "__class__"] F f A outer s H E).env = (do
      let ov ← attributeBase (.Call (.Name "super" p0) [] [] p1) "__init__" (ncx CX0 P w K mg base ["self", v, "__class__"] F f A outer s H E).env (eval (.Call (.Name "super" p0) [] [] p1) (ncx CX0 P w K mg base ["self", v, "__class__"] F f A outer s H E).env)
      standAt p2.atName
      let (g, first) ← holding [ov] (getMethod ov "__init__" pl)
      callWith pos g first (backTo pos (starEach [.Constant (.str txt) j p3] (ncx CX0 P w K mg base ["self", v, "__class__"] F f A outer s H E).env)) []))
    (hs2 : ∀ (A : Around) (outer : List Env) (s : Shared) (H : Hp) (E : XK), swapsWith (.Name v q3) (some (.Attribute (.Name "self" q1) field q2)) q4.line (ncx CX0 P w K mg base ["self", v, "__class__"] F f A outer s H E).env = pure false) : FnOk P w K mg base CX0 1 f fd ["self", v] (spEx C field) := by
  refine sup_ok (k := 0) (rest := [.Assign [.Attribute (.Name "self" q1) field q2] (.Name v q3) q4]) hfd S hcd NS hcl hp hks m_super (by rw [har]; rfl) (by rw [har]; exact NS.par _ (List.mem_cons_self ..)) hb (fun vs H Q E h => ?_) (fun vs H Q E h => ?_) hint hsw hev (fun A outer s H vs Q E h => ?_)
  · obtain ⟨a, y, rfl, _⟩ := h
    rfl
  · obtain ⟨a, y, rfl, hx, _⟩ := h
    exact ⟨a, [y], rfl, hx⟩
  · obtain ⟨a, y, rfl, hx, q⟩ := h
    refine ⟨_, pss_one (ps_ost (pe_var (i := 0) rfl (.inl (NS.par _ (List.mem_cons_self ..)))) (pe_var (i := 1) rfl (.inl (NS.par _ (List.mem_cons_of_mem _ (List.mem_cons_self ..)))) hvd hvc) (hs2 A outer s H E)), ?_⟩
    refine ⟨y, rfl, .ref a, rfl, a, C, rfl, S.oex, hno, .inl ⟨hx, fun dx n1 n2 => ?_⟩⟩
    exact q dx n1 n2
/-! ### raise X(e) -/
structure Exn (P : Program) (w : World) (K : PySem.W.Frag) (mg : Str → Option Value) (base : Heap) (x : Str) (C : Addr) (field : Str) : Prop where
  oex : OexC K C
  gl : mg x = some (.ref C)
  ini : ∃ fI fd ps, PySem.W.findIn K (.ref C) "__init__" = some (some (.ref fI)) ∧ PySem.W.typeIn K (.ref fI) = some (.type "function") ∧ FnOk P w K mg base CX0 1 fI fd ps (spEx C field) ∧ Binds K fd ps []
/-! ### C(e): the exception's object has no context -/
section
variable {X : Cx} {x : Str} {C g : Addr} {k : Nat} {fd : FuncData} {ps : List Str} {sp : Sp} {e : Expr} {ta : TA} {p pos : Pos}
/-- the two objects that type.__call__ lays -/
abbrev hp2 (h : Heap) (C : Addr) (us : List Value) : Heap :=
  (h.push (PySem.W.kdv_tup us)).push (PySem.HandSPX.excO C h.objs.size)
theorem hp2_keep {h : Heap} {us : List Value} (b : Addr) (o : Obj) (z : h.get? b = some o) :
    (hp2 h C us).get? b = some o := Heap.get?_push_of_some _ (Heap.get?_push_of_some _ z)
theorem hp2_at {h : Heap} {us : List Value} :
    (hp2 h C us).get? (h.objs.size + 1) = some (PySem.HandSPX.excO C h.objs.size) := by heap_get
theorem inv2 {pins : List (Addr × Obj)} {σ : L2.St} {H : Hp} {h : Heap} {gs : Array GenState} {dr : Drawn} {tk : Nat} {os : OsState} {us : List Value}
    (I : Inv X pins σ H ⟨h, gs, dr, tk, os⟩) :
    Inv X pins σ (upd H (h.objs.size + 1) (exo (h.objs.size + 1) C none)) ⟨hp2 h C us, gs, dr, tk, os⟩ :=
  I.laid (t' := tk) (a := h.objs.size + 1) (o := exo (h.objs.size + 1) C none) (h' := hp2 h C us)
    hp2_keep (Nat.le_succ _) (exo_ok hp2_at)
theorem pmkN (T : OexC X.K C)
    (iC : PySem.W.findIn X.K (.ref C) "__init__" = some (some (.ref g)))
    (tI : PySem.W.typeIn X.K (.ref g) = some (.type "function"))
    (F : FnOk X.prog X.w X.K X.mg X.base CX0 k g fd ps sp) (hr : Room (k + 1) X.A) (hb : Binds X.K fd ps [])
    (hg : Gl X x) (hm : X.mg x = some (.ref C)) (ha : PA X [e] ta)
    (hdb : (x == ("__debug__" : Str)) = false := by decide)
    (he : starEach [e] X.env = (false, eval e X.env) :: starEach [] X.env := by rfl)
    (hpl : (backTo pos (starEach [] X.env)).any (·.1) = false := by rfl) :
    L2N.PMk X (.Call (.Name x p) [e] [] pos) (tMkO C sp [] ta) := by
  intro pins s σ H Q I h
  obtain ⟨_, _, _, _, vm, _, _, _, _, _, _, _, _, _, _, atC, inM⟩ := T.cls
  refine wpAny_Call_Name_kw (ld_glob I hg hm ?_ hdb)
  refine PySem.W.callWith_K (h₀ := X.base) I.ok.mod.kin T.kC ?_ he hpl
  refine thn (ha.run pos pins s σ H _ I h) fun us s1 hh => ?_
  obtain ⟨vs, H1, J, r, few, q⟩ := hh
  refine ⟨J.kIn, ?_⟩
  obtain ⟨hp, gs, dr, tk, os⟩ := s1
  have q := q (hp.objs.size + 1) (J.hok.fresh (Nat.le_succ _))
  rw [List.append_nil] at q
  have J2 := inv2 (C := C) (us := us) J
  have r2 : Vals (V.ref (hp.objs.size + 1) :: vs) (Value.ref (hp.objs.size + 1) :: us) := .cons rfl r
  have len2 : (Value.ref (hp.objs.size + 1) :: us ++ []).length = ps.length := by
    rw [List.append_nil, ← r2.length]
    exact F.len _ _ _ _ q
  have b2 := hb _ (Value.ref (hp.objs.size + 1) :: us) J2.kIn len2
  rw [List.append_nil] at b2
  have few2 : us.length ≤ sizeLine := by
    have := Paired.length r
    rw [sizeLine_eq]
    omega
  have run := F.run _ X.stack _ _ _ _ _ _ _ (hr.make C us []) (J2.env0.make C us []) b2 r2 q
  refine wpAny_call (PySem.HandSPX.call_own PySem.F.excBase_ValueError (fun Y => PySem.HandSPX.refsVE_contains Y vm inM)
    (J.kIn _ _ atC) (PySem.W.looks_findIn J.kIn iC) (fun self => PySem.W.bind_fn J.kIn self tI) few2
    (codeAny_mono run fun res s' z => ?_))
  match res, z with
  | .error er, z => exact z.elim
  | .ok (.ret u), z =>
    obtain ⟨v, H2, eo, bare, un, ok2, rv, ev, d, fs, ea, ed, nd, q2⟩ := z
    subst ev
    obtain ⟨h2, g2, d2, t2, os'⟩ := s'
    obtain ⟨t0, G, J3, kG, ge, hoe, na⟩ := mk_end0 (d2 := d2) (t2 := t2) J (Nat.le_succ _) hp2_keep un ok2 eo bare ea ed nd
    refine ⟨rv, hp.objs.size + 1, _, _, ⟨G, g2, d2, t2, os'⟩, _, .ref C, some d, rfl, J3, kG, ge, hoe, ⟨rfl, rfl, fun ws ew => ?_⟩, rfl, rfl, na, rfl, bare, raises_own T.exC T.tyC, q2⟩
    cases ew
    rfl
end
section
variable {X : Cx} {x field : Str} {C : Addr} {j : Nat} {e : Expr} {ta : TA} {p pos pos2 : Pos} {W : WX}
theorem pmk_exn (c : Exn X.prog X.w X.K X.mg X.base x C field) (hr : Room j X.A) (hk : 2 ≤ j) (hg : Gl X x) (ha : PA X [e] ta) (hdb : (x == ("__debug__" : Str)) = false := by decide) (he : starEach [e] X.env = (false, eval e X.env) :: starEach [] X.env := by rfl) (hpl : (backTo pos (starEach [] X.env)).any (·.1) = false := by rfl) :
    L2N.PMk X (.Call (.Name x p) [e] [] pos) (tMkO C (spEx C field) [] ta) := by
  obtain ⟨fI, fd, ps, iC, tI, F1, b⟩ := c.ini
  exact pmkN (X := X) (pos := pos) (p := p) c.oex iC tI F1 (hr.mono hk) b hg c.gl ha hdb he hpl
/-- raise X(e) -/
theorem ps_exn (hc : X.calm = true) (tk : L2N.Takes X W) (c : Exn X.prog X.w X.K X.mg X.base x C field) (hr : Room j X.A) (hk : 2 ≤ j) (hg : Gl X x) (ha : PA X [e] ta) (hdb : (x == ("__debug__" : Str)) = false := by decide) (he : starEach [e] X.env = (false, eval e X.env) :: starEach [] X.env := by rfl) (hpl : (backTo pos (starEach [] X.env)).any (·.1) = false := by rfl) :
    PS X (.Raise (some (.Call (.Name x p) [e] [] pos)) none pos2) (fun _ σ H => tMkO C (spEx C field) [] ta σ H fun cls d H' => W cls d σ H') := L2N.ps_raise hc tk (pmk_exn c hr hk hg ha hdb he hpl)
end
/-- what is left to show of X(v) -/
theorem mkx_of {C : Addr} {field : Str} {v : V} {H1 : Hp} {Q : XK} (q : ∀ d, H1 d = none → Q (.ref C) (some d) (upd H1 d (.xd [(field, v)]))) :
    [v].length ≤ 1000 ∧ ∀ a, H1 a = none → spEx C field (.ref a :: ([v] ++ [])) (upd H1 a (exo a C none)) (fun v H2 => v = .non ∧ ∃ (d : Addr) (fs : List (Str × V)), H2 a = some (exo a C (some d)) ∧ H2 d = some (exd d fs) ∧ H1 d = none ∧ Q (.ref C) (some d) (upd (del H2 a) d (.xd fs))) (fun _ _ _ => False) := by
  refine ⟨by simp, fun a na => ⟨a, v, rfl, upd_same, fun dx n1 n2 => ⟨rfl, dx, [(field, v)], upd_same, ?_, ?_, ?_⟩⟩⟩
  · rw [upd_ne n2, upd_same]
  · rw [← n1, upd_ne n2]
  · have n3 : H1 dx = none := by rw [← n1, upd_ne n2]
    have e1 : upd (del (upd (upd (upd H1 a (exo a C none)) dx (exd dx [(field, v)])) a (exo a C (some dx))) a) dx (.xd [(field, v)]) = upd H1 dx (.xd [(field, v)]) := by
      funext b
      by_cases hb : b = dx
      · rw [hb, upd_same, upd_same]
      · rw [upd_ne hb, upd_ne hb]
        by_cases ha2 : b = a
        · rw [ha2, del_same, na]
        · rw [del_ne ha2, upd_ne ha2, upd_ne hb, upd_ne ha2]
    rw [e1]
    exact q dx n3
/-! ### calls that may raise -/
structure CalX (P : Program) (w : World) (K : PySem.W.Frag) (mg : Str → Option Value) (base : Heap) (k : Nat) (x : Str) (sp : Sp) : Prop where
  ex : ∃ (f : Addr) (fd : FuncData) (ps : List Str), FnOk P w K mg base (L2N.CX P w) k f fd ps sp ∧ mg x = some (.ref f) ∧ PySem.W.keepIn K (.ref f) = true ∧ Binds K fd ps []
structure MakX (P : Program) (w : World) (K : PySem.W.Frag) (mg : Str → Option Value) (base : Heap) (k : Nat) (x : Str) (C : Addr) (sp : Sp) : Prop where
  ex : ∃ (f : Addr) (fd : FuncData) (ps : List Str), Mk K C f ∧ FnOk P w K mg base (L2N.CX P w) k f fd ps sp ∧ mg x = some (.ref C) ∧ Binds K fd ps []
structure MetX (P : Program) (w : World) (K : PySem.W.Frag) (mg : Str → Option Value) (base : Heap) (k : Nat) (C : Addr) (m : Str) (sp : Sp) : Prop where
  ex : ∃ (f : Addr) (fd : FuncData) (ps : List Str), Cls K C ∧ Meth K C m f ∧ FnOk P w K mg base (L2N.CX P w) k f fd ps sp ∧ Binds K fd ps []
structure CobX (P : Program) (w : World) (K : PySem.W.Frag) (mg : Str → Option Value) (base : Heap) (k : Nat) (C : Addr) (sp : Sp) : Prop where
  ex : ∃ (g : Addr) (fd : FuncData) (ps : List Str), StX.CallO K C g ∧ FnOk P w K mg base (L2N.CX P w) k g fd ps sp ∧ Binds K fd ps []
/-- C(e, ..) by its __init__'s promise; what is raised at the slots -/
def tMkW (C : Addr) (sp : Sp) (E : L2.St → XK) (t : TA) : TE := fun σ H Q => t σ H fun vs H1 => ∀ n dx, H1 n = none → H1 dx = none → dx ≠ n → sp (.ref n :: vs) (upd (upd H1 dx (.own n)) n (.ins C dx [])) (fun v H2 => v = .non ∧ Q (.ref n) H2) (E σ)
def tCoW (C : Addr) (sp : Sp) (E : L2.St → XK) (tf : TE) (t : TA) : TE := fun σ H Q => tf σ H fun y H1 => ∃ a, y = V.ref a ∧ t σ H1 fun vs H2 => (∃ dx fs, H2 a = some (.ins C dx fs)) ∧ sp (V.ref a :: vs) H2 Q (E σ)
def tMeW (C : Addr) (m : Str) (sp : Sp) (E : L2.St → XK) (ta : TE) (t : TA) : TE := fun σ H Q => ta σ H fun x H1 => ∃ a dx fs, x = V.ref a ∧ H1 a = some (.ins C dx fs) ∧ List.lookup m fs = none ∧ t σ H1 fun vs H2 => sp (x :: vs) H2 Q (E σ)
section
variable {X : Cx} {k j : Nat} {x m : Str} {sp : Sp} {C : Addr} {p pos apos : Pos} {e o fe : Expr} {es : List Expr} {t : TA} {ta tf : TE} {W : WX} {E : L2.St → XK}
theorem passS0 {σ : L2.St} : PassesAt (L2N.CX X.prog X.w) X σ E0 := fun _ _ _ _ _ _ h => by
  obtain ⟨_, _, _, _, _, _, _, _, _, _, _, _, z⟩ := h
  exact z.elim
/-- any result of a promise, at the slots -/
theorem back_at {σ : L2.St} {H : Hp} {s : Shared} {pins : List (Addr × Obj)} {Q : VK} {E : XK} {CX : CXT} (hx : PassesAt CX X σ E) (I : Inv X pins σ H s) : ∀ (r : Result) (s' : Shared), CR CX X.stack X.prog X.w H s Q E r s' → match r with
    | .ok (.ret v) => EP X pins σ Q v s'
    | .ok _ => False
    | .error e => X.xe e s'
  | .error e, s', h => hx pins H s e s' I h
  | .ok (.ret u), s', h => I.after h
  | .ok .next, s', h => h
  | .ok .brk, s', h => h
  | .ok .cont, s', h => h
theorem pe_clE (c : CalX X.prog X.w X.K X.mg X.base k x sp) (hx : ∀ σ, PassesAt (L2N.CX X.prog X.w) X σ (E σ)) (hr : Room j X.A) (hk : k ≤ j) (hg : Gl X x) (ha : PA X (e :: es) t) (hdb : (x == ("__debug__" : Str)) = false := by decide) (he : starEach (e :: es) X.env = (false, eval e X.env) :: starEach es X.env := by rfl) (hpl : (backTo pos (starEach es X.env)).any (·.1) = false := by rfl) :
    PE X (.Call (.Name x p) (e :: es) [] pos) (tCallS sp E t) := by
  obtain ⟨f, fd, ps, F, hm, kp, b⟩ := c.ex
  exact pe_callS F (hr.mono hk) hg hm kp b hx ha hdb he hpl
theorem pe_mkE (c : MakX X.prog X.w X.K X.mg X.base k x C sp) (hx : ∀ σ, PassesAt (L2N.CX X.prog X.w) X σ (E σ)) (hr : Room j X.A) (hk : k + 1 ≤ j) (hg : Gl X x) (ha : PA X (e :: es) t) (hdb : (x == ("__debug__" : Str)) = false := by decide) (he : starEach (e :: es) X.env = (false, eval e X.env) :: starEach es X.env := by rfl) (hpl : (backTo pos (starEach es X.env)).any (·.1) = false := by rfl) :
    PE X (.Call (.Name x p) (e :: es) [] pos) (tMkW C sp E t) := by
  obtain ⟨f, fd, ps, M, F, hm, b⟩ := c.ex
  constructor
  intro pins s σ H Q I h
  refine wpAny_Call_Name_kw (ld_glob I hg hm ?_ hdb)
  refine PySem.W.callWith_K (h₀ := X.base) I.ok.mod.kin M.kp (thn (ha.run pos pins s σ H _ I h) fun us s1 z => ?_) he hpl
  obtain ⟨vs, H1, I1, rr, q⟩ := z
  refine ⟨I1.kIn, ?_⟩
  obtain ⟨n, hn⟩ : ∃ n, n = s1.heap.objs.size := ⟨_, rfl⟩
  have q1 := q (n + 1) n (I1.hok.fresh (by rw [hn]; exact Nat.le_succ _)) (I1.hok.fresh (by rw [hn]; exact Nat.le_refl _)) (Nat.ne_of_lt (Nat.lt_succ_self _))
  subst hn
  have J := Inv.made (C := C) I1
  have r3 : Vals (V.ref (s1.heap.objs.size + 1) :: vs) (Value.ref (s1.heap.objs.size + 1) :: us) := .cons rfl rr
  have b3 := b { s1 with heap := (s1.heap.push PySem.W.emptyDict).push (PySem.W.instObj C s1.heap.objs.size) } (Value.ref (s1.heap.objs.size + 1) :: us) J.kIn (by rw [List.append_nil, ← r3.length]; exact F.len _ _ _ _ q1)
  rw [List.append_nil] at b3
  have run := F.run _ X.stack _ _ _ _ _ _ _ ((hr.mono hk).make C us []) (J.env0.make C us []) b3 r3 q1
  refine wpAny_call (make_map (f := f) I1.kIn M.makes M.init (beq_iff_eq.mp M.fn) (codeAny_mono run fun r s' hq => ?_))
  have z := back_at (hx σ) J r s' hq
  match r, z with
  | .error e, z => exact z
  | .ok (.ret u), ⟨v, H', J', rv, ev, q3⟩ =>
    subst ev
    exact ⟨rv, V.ref (s1.heap.objs.size + 1), H', J', rfl, q3⟩
theorem run_atE {f : Addr} {fd : FuncData} {ps : List Str} {σ : L2.St} {H : Hp} {s : Shared} {pins : List (Addr × Obj)} {Q : VK} {us : List Value} {vs : List V} (F : FnOk X.prog X.w X.K X.mg X.base (L2N.CX X.prog X.w) k f fd ps sp) (b : Binds X.K fd ps []) (hx : PassesAt (L2N.CX X.prog X.w) X σ (E σ)) (hr : Room k X.A) (I : Inv X pins σ H s) (r : Vals vs us) (h : sp vs H Q (E σ)) :
    codeAny (model X.prog X.w) X.A (.call (.ref f) ⟨us, []⟩) (fun r s' => match r with | .ok (.ret v) => EP X pins σ Q v s' | .ok _ => False | .error e => X.xe e s') s := by
  have b3 := b s us I.kIn (by rw [List.append_nil, ← r.length]; exact F.len _ _ _ _ h)
  rw [List.append_nil] at b3
  exact codeAny_mono (F.run _ X.stack _ _ _ _ _ _ _ hr I.env0 b3 r h) (back_at hx I)
theorem pe_coE (c : CobX X.prog X.w X.K X.mg X.base k C sp) (hf : PE X fe tf) (hx : ∀ σ, PassesAt (L2N.CX X.prog X.w) X σ (E σ)) (hr : Room j X.A) (hk : k ≤ j) (ha : PA X (e :: es) t)
    (ht : eval (.Call fe (e :: es) [] pos) X.env = (do callWith pos (← eval fe X.env) [] (backTo pos (starEach (e :: es) X.env)) (backToKw pos (keywordEach [] X.env))) := by rfl)
    (he : starEach (e :: es) X.env = (false, eval e X.env) :: starEach es X.env := by rfl) (hpl : (backTo pos (starEach es X.env)).any (·.1) = false := by rfl) : PE X (.Call fe (e :: es) [] pos) (tCoW C sp E tf t) := by
  obtain ⟨g, fd, ps, co, F, b⟩ := c.ex
  constructor
  intro pins s σ H Q I h
  refine Call_ (thn (hf.run pins s σ H _ I h) fun u s1 ⟨y, H1, I1, ry, a, ey, q⟩ => ?_) ht
  subst ey
  obtain rfl : u = Value.ref a := ry
  refine StX.callO_with (thn (ha.run pos pins s1 σ H1 _ I1 q) fun us s2 z => ?_) he hpl
  obtain ⟨vs, H2, I2, r, hi, q2⟩ := z
  have hi2 : StX.InsC X H2 a C := .inr hi
  obtain ⟨ox, od, J, hd⟩ := StX.insC_at I2 hi2
  exact ⟨⟨C, ox, od, J, hd⟩, wpAny_call (PySem.W.kco_code I2.kIn J hd co.at_ co.fn co.fi (run_atE (vs := .ref a :: vs) (us := .ref a :: us) F b (hx σ) (hr.mono hk) I2 (.cons rfl r) q2))⟩
theorem pe_meE {pl : Sem Bool} (c : MetX X.prog X.w X.K X.mg X.base k C m sp) (ho : PE X o ta) (hx : ∀ σ, PassesAt (L2N.CX X.prog X.w) X σ (E σ)) (hr : Room j X.A) (hk : k ≤ j) (ha : PA X (e :: es) t)
    (hst : starEach (e :: es) X.env = (false, eval e X.env) :: starEach es X.env := by rfl) (hpl : (backTo pos (starEach es X.env)).any (·.1) = false := by rfl)
    (ht : eval (.Call (.Attribute o m apos) (e :: es) [] pos) X.env = (do
      let ov ← eval o X.env
      standAt apos.atName
      let (g, first) ← holding [ov] (getMethod ov m pl)
      callWith pos g first (backTo pos (starEach (e :: es) X.env)) (backToKw pos (keywordEach [] X.env))) := by rfl) : PE X (.Call (.Attribute o m apos) (e :: es) [] pos) (tMeW C m sp E ta t) := by
  obtain ⟨f, fd, ps, cl, me, F, b⟩ := c.ex
  constructor
  intro pins s σ H Q I h
  refine PySem.W.methodCall_KW (pl := pl) (thn (ho.run pins s σ H _ I h) fun u s1 z => ?_) ht
  obtain ⟨y, H1, I1, ry, a, dx, fs, ey, ea, l, q⟩ := z
  subst ey
  obtain rfl : u = Value.ref a := ry
  refine getmeth_ok I1 ea cl me l ?_
  refine PySem.W.callWith_K (first := [.ref a]) (h₀ := X.base) I.ok.mod.kin me.kp (thn (ha.run pos pins s1 σ H1 _ I1 q) fun us s2 z => ?_) hst hpl
  obtain ⟨vs, H2, I2, r, q2⟩ := z
  exact ⟨I2.kIn, wpAny_call (run_atE (vs := .ref a :: vs) (us := .ref a :: us) F b (hx σ) (hr.mono hk) I2 (.cons rfl r) q2)⟩
theorem takes_fn {P : Program} {w : World} {K : PySem.W.Frag} {mg : Str → Option Value} {base : Heap} {N : List Str} {qual : Str} {scope : Scope} {f : Addr} {cd : Value} {A : Around} {outer : List Env} {s : Shared} {H : Hp} {E : XK} : L2N.Takes (cxOf (L2N.CX P w) P w K mg base N qual scope f cd A outer s H E) (fun cls d _ H' => E cls d H') := L2N.takes_of rfl rfl rfl rfl
end
end Z
set_option Elab.async false
set_option linter.all false
set_option maxRecDepth 100000
set_option maxHeartbeats 4000000
namespace Z
open PySem PySem.Spec PyProof.Rows L2 L2H
/-! ### calls within an except suite -/
section
variable {P : Program} {w : World} {K : PySem.W.Frag} {mg : Str → Option Value} {base : Heap} {x qual : Str} {params : Arguments} {body : List Stmt} {scope : Scope} {dvs : List V} {kws : List (Str × V)} {f : Addr} {fd : FuncData}
theorem fund_okH {N ps : List Str} {k : Nat} {sp : Sp} (F : FunD K x qual params body scope dvs kws f fd) (S : FnScope N ps scope) (len : ∀ vs H Q E, sp vs H Q E → vs.length = ps.length)
    (hbody : ∀ (cdv : Value) (A : Around) (outer : List Env) (s : Shared) (H : Hp) (vs : List V) (Q : VK) (E : XK) (p : Addr × Obj), Hot1 A p → RoomH k (A.deeper (envOfC qual scope s.heap.objs.size f cdv)) → sp vs H Q E →
      ∃ t, PSs (cxH CX0 P w K mg base N qual scope f cdv A outer s H E p) body t ∧ t { nx := fun _ H' => Q .non H', rt := Q } (L2.start N vs) H) : FnH P w K mg base CX0 (k + 1) f fd ps sp := by
  obtain ⟨oc, od, dV, kV, doc, pm, an, cdv, ct, osl, rfl, lk, hcd, _, _⟩ := F.ex
  exact fn_ofH lk hcd S len (hbody cdv)
structure CalH (P : Program) (w : World) (K : PySem.W.Frag) (mg : Str → Option Value) (base : Heap) (k : Nat) (x : Str) (sp : Sp) : Prop where
  ex : ∃ (f : Addr) (fd : FuncData) (ps : List Str), FnH P w K mg base CX0 k f fd ps sp ∧ mg x = some (.ref f) ∧ PySem.W.keepIn K (.ref f) = true ∧ Binds K fd ps []
end
section
variable {X : Cx} {k j : Nat} {x : Str} {sp : Sp} {p pos : Pos} {e : Expr} {es : List Expr} {t : TA}
theorem pe_clH (c : CalH X.prog X.w X.K X.mg X.base k x sp) (hr : RoomH j X.A) (hk : k ≤ j) (hc : HotC X) (hg : Gl X x) (ha : PA X (e :: es) t) (hdb : (x == ("__debug__" : Str)) = false := by decide) (he : starEach (e :: es) X.env = (false, eval e X.env) :: starEach es X.env := by rfl) (hpl : (backTo pos (starEach es X.env)).any (·.1) = false := by rfl) :
    PE X (.Call (.Name x p) (e :: es) [] pos) (tCallS sp (fun _ => E0) t) := by
  obtain ⟨f, fd, ps, F, hm, kp, b⟩ := c.ex
  exact pe_callH F (hr.mono hk) hc hg hm kp b (fun σ _ _ _ _ _ _ h => h.elim) ha hdb he hpl
theorem hotC_suite {a : Addr} {cls : Value} {d : Option Addr} {oe : Obj} {pn : List (Addr × Obj)} (hz : L2N.Zn cls d oe) (hf : ∃ vs, oe.data = .fields vs) : HotC (X.suite a ((a, oe) :: pn)) := by
  obtain ⟨vs, e⟩ := hf
  exact ⟨(a, oe), ⟨rfl, vs, e, hz.2.2 vs e⟩, List.mem_cons_self⟩
theorem room_mark {v : Option Value} {A : Around} (r : Room j A) : RoomH j (A.mark v) := roomH_mark r v
theorem takes0N : L2N.Takes X (fun _ _ _ _ => False) := fun _ _ x => by
  obtain ⟨_, _, _, _, _, _, _, _, _, _, _, _, _, _, _, _, z⟩ := x
  exact z.elim
end
theorem hotC_fn {P : Program} {w : World} {K : PySem.W.Frag} {mg : Str → Option Value} {base : Heap} {CX : CXT} {N : List Str} {qual : Str} {scope : Scope} {f : Addr} {cd : Value} {A : Around} {outer : List Env} {s : Shared} {H : Hp} {E : XK} {p : Addr × Obj} (h : Hot1 A p) : HotC (cxH CX P w K mg base N qual scope f cd A outer s H E p) :=
  ⟨p, ⟨h.1, h.2⟩, List.mem_cons_self⟩
end Z
set_option Elab.async false
set_option linter.all false
set_option maxRecDepth 100000
set_option maxHeartbeats 4000000
namespace Z
open PySem PySem.Spec PyProof.Rows L2 NdefX
/-! ### what the head tells of such a class -/
def oexB (K : PySem.W.Frag) (C : Addr) : Bool := (match K.lookup C with
  | some ⟨.type t, _, .cls cd, sl⟩ => (match cd.mro, sl.toList with
    | .ref D :: bm, [_, _, _, _, some (.builtin n), _] => decide (t = "type") && (decide (D = C) && (decide (n = "ValueError.__new__") && (!cd.hasDel && (cd.hasDict && PySem.HandSPX.refsVE bm))))
    | _, _ => false)
  | _ => false) && (He.eqO (PySem.W.findIn K (.ref C) "__setattr__") (some (some (.builtin "object.__setattr__"))) && (decide (PySem.W.subIn K (.ref C) (.type "BaseException") = some true) && (decide (PySem.W.typeIn K (.ref C) = some (.type "type")) && PySem.W.keepIn K (.ref C))))
theorem oexB_ok {K : PySem.W.Frag} {C : Addr} (h : oexB K C = true) : OexC K C := by
  obtain ⟨h0, h⟩ := He.ba h
  obtain ⟨h1, h⟩ := He.ba h
  obtain ⟨h2, h⟩ := He.ba h
  obtain ⟨h3, h4⟩ := He.ba h
  refine ⟨?_, He.eqO_ok h1, of_decide_eq_true h2, of_decide_eq_true h3, h4⟩
  split at h0
  · next t dd cd sl lk =>
    split at h0
    · next D bm a0 a1 a2 a3 n a5 em es =>
      obtain ⟨g1, h0⟩ := He.ba h0
      obtain ⟨g2, h0⟩ := He.ba h0
      obtain ⟨g3, h0⟩ := He.ba h0
      obtain ⟨g4, h0⟩ := He.ba h0
      obtain ⟨g5, g6⟩ := He.ba h0
      have g1 := of_decide_eq_true g1
      have g2 := of_decide_eq_true g2
      have g3 := of_decide_eq_true g3
      subst g1 g2 g3
      obtain ⟨c1, c2, c3, c4, c5, c6, c7, c8, c9, c10, c11⟩ := cd
      have k3 : c3 = .ref D :: bm := em
      have k4 : c11 = false := by
        have z : (!c11) = true := g4
        cases c11
        · rfl
        · cases z
      have k5 : c6 = true := g5
      clear em g4 g5
      subst k3 k4 k5
      refine ⟨c1, c5, c4, c2, bm, c7, c8, c9, c10, dd, a0, a1, a2, a3, a5, ?_, g6⟩
      rw [lk]
      have : sl = #[a0, a1, a2, a3, some (.builtin "ValueError.__new__"), a5] := by
        apply Array.toList_inj.mp
        rw [es]
      rw [this]
    · cases h0
  · cases h0
def initFd (K : PySem.W.Frag) (C : Addr) : Option FuncData := match K.lookup (He.ma K C "__init__") with
  | some ⟨_, _, .func fd, _⟩ => some fd
  | _ => none
abbrev SupV : Type := Option (Str × Str × Arguments × FuncBody × Scope × Addr × List Str × Value × Addr)
def supObs (K : PySem.W.Frag) (x : Str) : SupV := (initFd K (He.ga K x)).map fun fd => (fd.name, fd.qualname, fd.params, fd.body, fd.scope, fd.globals, fd.closure.map (·.1), fd.defaults, fd.builtins)
def supVal (q : Str) (st : Stmt) : SupV := some ("__init__", q, defArgs st, .stmts (defBody st), defScope st, mainGlobals, ["__class__"], .none, builtinsNs)
def supB (fl : Str) (K : PySem.W.Frag) (C : Addr) (q : Str) : Bool := (match initFd K C with
  | some fd => (match fd.code, fd.closure with
    | .ref c, [(_, cc)] => PySem.W.codeIn K (.ref c) q && ((match K.lookup c with
      | some ⟨_, _, .fields vs, _⟩ => (match (vs[2]? : Option Value) with
        | some (.str file _) => fl == file
        | _ => false)
      | _ => false) && (match K.lookup cc with
      | some ⟨_, _, .cell (some (.ref D)), _⟩ => decide (D = C)
      | _ => false))
    | _, _ => false)
  | none => false) && (decide (PySem.W.mroIn K C (.ref C) = some true) && (He.eqO (PySem.W.nsIn K cStatics "thirdparty.any") (some none) && (He.eqO (PySem.W.ks_superIn K C C "__init__") (some (some (.builtin "ValueError.__init__"))) && (decide (PySem.W.subIn K (.ref C) (.type "ValueError") = some true) && (PySem.W.excInitIn K C He.veBase "ValueError.__new__" && oexB K C)))))
theorem sup_of {P : Program} {K : PySem.W.Frag} {x q fl : Str} {st : Stmt} (h1 : supObs K x = supVal q st) (h2 : supB fl K (He.ga K x) q = true) (hfl : ((P.main.file : Str) == fl) = true) (htop : (P.main.scope.names.lookup ("super" : Str)).isSome = false) :
    ∃ (c cc : Addr) (fd : FuncData) (kV doc pm ct : Value) (an : Option Addr), fd = PySem.W.fnX "__init__" q (defArgs st) (defBody st) (defScope st) [(("__class__" : Str), cc)] .none kV doc pm an (.ref c) ct ∧ SupK P K (He.ga K x) (He.ma K (He.ga K x) "__init__") c cc fd ∧ PySem.W.codeIn K (.ref c) q = true := by
  obtain ⟨g0, h2⟩ := He.ba h2
  obtain ⟨g1, h2⟩ := He.ba h2
  obtain ⟨g2, h2⟩ := He.ba h2
  obtain ⟨g3, h2⟩ := He.ba h2
  obtain ⟨g4, h2⟩ := He.ba h2
  obtain ⟨g5, g6⟩ := He.ba h2
  unfold supObs at h1
  cases e : initFd K (He.ga K x) with
  | none =>
    rw [e] at h1
    cases h1
  | some fd =>
    rw [e] at h1 g0
    have lk : ∃ oc od osl, K.lookup (He.ma K (He.ga K x) "__init__") = some ⟨oc, od, .func fd, osl⟩ := by
      unfold initFd at e
      split at e
      · next oc od fd' osl l =>
        cases e
        exact ⟨_, _, _, l⟩
      · cases e
    obtain ⟨n1, n2, n3, n4, n5, n6, n7, n8, n9, n10, n11, n12, n13, n14, n15⟩ := fd
    have h1 : (some (n1, n2, n3, n4, n5, n6, n7.map (·.1), n8, n15) : SupV) = supVal q st := h1
    unfold supVal at h1
    simp only [Option.some.injEq, Prod.mk.injEq] at h1
    obtain ⟨a1, a2, a3, a4, a5, a6, a7, a8, a9⟩ := h1
    subst a1 a2 a3 a4 a5 a6 a8 a9
    dsimp only at g0
    split at g0
    · next c y cc =>
      obtain ⟨b1, g0⟩ := He.ba g0
      obtain ⟨b2, b3⟩ := He.ba g0
      have ey : y = "__class__" := by
        have := a7
        simpa using this
      subst ey
      refine ⟨c, cc, _, _, _, _, _, _, rfl, ⟨lk, ?_, ?_, htop, of_decide_eq_true g1, He.eqO_ok g2, He.eqO_ok g3, of_decide_eq_true g4, g5, oexB_ok g6⟩, b1⟩
      · split at b2
        · next u1 u2 vs u3 l =>
          split at b2
          · next file tf ev =>
            refine ⟨_, _, vs, _, file, tf, l, ev, ?_⟩
            rw [beq_iff_eq.mp b2] at hfl
            exact hfl
          · cases b2
        · cases b2
      · split at b3
        · next u1 u2 D u3 l =>
          have := of_decide_eq_true b3
          subst this
          exact ⟨_, _, _, l⟩
        · cases b3
    · cases g0
end Z
set_option Elab.async false
set_option linter.all false
set_option maxRecDepth 100000
set_option maxHeartbeats 4000000
namespace Z
open PySem PySem.Spec PyProof.Rows L2 NdefX
/-! ### isinstance(e, c), e a caught error with a dict of its own -/
def rIsX (K : PySem.W.Frag) (a : Addr) (cls : Value) (d : Option Addr) : List V → Hp → VK → Prop := fun xs H Q => ∃ (D dd : Addr) (fs : List (Str × V)) (c : V) (cv : Value) (b : Bool), cls = .ref D ∧ d = some dd ∧ ExcC K D ∧ H dd = some (.xd fs) ∧ xs = [.ref a, c] ∧ (∀ u, RelV c u → u = cv) ∧ PySem.W.kitOne K (.ref D) cv = some b ∧ Q (.bl b) H
theorem call_isX {X : Cx} {a : Addr} {cls : Value} {d : Option Addr} {oe : Obj} {pn : List (Addr × Obj)} (hz : Zc cls d oe) (hf : ∃ vs, oe.data = .fields vs) : CallR (X.suite a ((a, oe) :: pn)) (.builtin "isinstance") (rIsX X.K a cls d) := by
  intro pins s σ H xs us Q I r h
  obtain ⟨D, dd, fs, c, cv, b, rfl, rfl, C, ed, rfl, hcv, e, q⟩ := h
  obtain ⟨u1, u2, rfl, r1, r2⟩ := vals2 r
  cases r1
  have ec := hcv _ r2
  subst ec
  obtain ⟨hget, _⟩ := I.pin (a, oe) (List.mem_append.mpr (.inl List.mem_cons_self))
  obtain ⟨vs, hv⟩ := hf
  have hx : ObjOk X.prog X.w H s.heap dd (.xd fs) := I.hok dd _ ed
  obtain ⟨mA, hns, hr⟩ := hx
  obtain ⟨od, ho, hl⟩ := lookIn_ns hns
  have J : PySem.W.InstAt s.heap a oe D (some od) := ⟨hget, hz.1, by unfold PySem.W.notCls; rw [hv] <;> rfl, by rw [hz.2]; exact ho⟩
  have hcl : (PySem.W.clsIn X.K D).isSome = true := by
    obtain ⟨cd, hc, _⟩ := PySem.W.any_some C.hd
    rw [hc]
    rfl
  exact PySem.W.kia_one (PySem.W.kitx_exc hcl C.hg C.hk C.hs C.ha C.hn C.ht C.hm) I.kIn J e (fun z => nomatch z) fun tk => ⟨.bl b, H, I.kept (t' := tk) fun _ _ z => z, rfl, q⟩
end Z
set_option Elab.async false
set_option linter.all false
set_option maxRecDepth 100000
set_option maxHeartbeats 4000000
namespace Z
open PySem PySem.Spec PyProof.Rows L2 NdefX
/-! ### the head with own exceptions: facts of defs and classes, one more Bool, the __init__s -/
def asX (g : Addr → Option Obj) (n : Nat) : List Addr := He.asD g n ++ [cStatics]
def hookX (n : Nat) (fa : List He.Fa) (fn : List He.DefD) (xs : List Str) (vs : List SupV) (ex : PySem.W.Frag → Bool) : PySem.W.Hook where
  α := He.AlD × (List SupV × Bool)
  obs := fun s => (He.obsD fa fn (He.frG s.heap.get? (asX s.heap.get? n)), xs.map (supObs (He.frG s.heap.get? (asX s.heap.get? n))), ex (He.frG s.heap.get? (asX s.heap.get? n)))
  val := fun _ => (He.valD fn, vs, true)
  says := fun _ h => ∃ K : PySem.W.Frag, K.In h ∧ He.SaysD fa fn K ∧ xs.map (supObs K) = vs ∧ ex K = true
  of := fun _ _ e => ⟨_, He.frG_in, congrArg (fun z : He.AlD × (List SupV × Bool) => z.1) e, congrArg (fun z : He.AlD × (List SupV × Bool) => z.2.1) e, congrArg (fun z : He.AlD × (List SupV × Bool) => z.2.2) e⟩
  keeps := fun _ _ _ ⟨K, hK, c⟩ k => ⟨K, PySem.W.Frag.In.keeps hK k, c⟩
def obX (n : Nat) (fa : List He.Fa) (fn : List He.DefD) (xs : List Str) (ex : PySem.W.Frag → Bool) (g : Addr → Option Obj) : He.AlD × (List SupV × Bool) := (He.obsD fa fn (He.frG g (asX g n)), xs.map (supObs (He.frG g (asX g n))), ex (He.frG g (asX g n)))
theorem obX_eq {n : Nat} {fa : List He.Fa} {fn : List He.DefD} {xs : List Str} {vs : List SupV} {ex : PySem.W.Frag → Bool} {g : Addr → Option Obj} {s : Shared} (h : ∀ a, g a = s.heap.get? a) : obX n fa fn xs ex g = (hookX n fa fn xs vs ex).obs s := by
  have e : g = s.heap.get? := funext h
  rw [e] <;> rfl
theorem sup_at {xs : List Str} {vs : List SupV} {K : PySem.W.Frag} (e : xs.map (supObs K) = vs) (i : Nat) {x : Str} {v : SupV} (h1 : xs[i]? = some x := by rfl) (h2 : vs[i]? = some v := by rfl) : supObs K x = v := by
  have := congrArg (fun z : List SupV => z[i]?) e
  simp only [List.getElem?_map, h1, h2] at this
  exact Option.some.inj this
def excB (K : PySem.W.Frag) (D : Addr) : Bool := He.eqO (PySem.W.findIn K (.ref D) "__getattribute__") (some (some (.builtin "BaseException.__getattribute__"))) && (He.eqO (PySem.W.findIn K (.ref D) "__getattr__") (some none) && (decide (PySem.W.subIn K (.ref D) (.type "BaseException") = some true) && (PySem.W.hasDictIn K D && (He.eqO (PySem.W.findIn K (.ref D) "__class__") (some (some (.builtin "object.__class__"))) && (He.eqO (PySem.W.specialIn K (.builtin "object.__class__") "__get__") (some (some (.builtin "getset_descriptor.__get__"))) && (decide (PySem.W.takesIn K (.builtin "object.__class__") = some true) && decide (PySem.W.mroIn K D (.type "object") = some true)))))))
theorem excB_ok {K : PySem.W.Frag} {D : Addr} (h : excB K D = true) : ExcC K D ∧ XfC K D := by
  obtain ⟨h1, h⟩ := He.ba h
  obtain ⟨h2, h⟩ := He.ba h
  obtain ⟨h3, h⟩ := He.ba h
  obtain ⟨h4, h⟩ := He.ba h
  obtain ⟨h5, h⟩ := He.ba h
  obtain ⟨h6, h⟩ := He.ba h
  obtain ⟨h7, h8⟩ := He.ba h
  exact ⟨⟨He.eqO_ok h1, He.eqO_ok h2, of_decide_eq_true h3, h4, He.eqO_ok h5, He.eqO_ok h6, of_decide_eq_true h7, of_decide_eq_true h8⟩, ⟨He.eqO_ok h1, He.eqO_ok h2, of_decide_eq_true h3, h4⟩⟩
/-- an own exception class with the field -/
def exnB (fl q field : Str) (K : PySem.W.Frag) (C : Addr) : Bool := supB fl K C q && (He.eqO (PySem.W.findIn K (.ref C) "__init__") (some (some (.ref (He.ma K C "__init__")))) && (decide (PySem.W.typeIn K (.ref (He.ma K C "__init__")) = some (.type "function")) && (He.eqO (PySem.W.findIn K (.ref C) field) (some none) && excB K C)))
structure ExnF (K : PySem.W.Frag) (C : Addr) (q field fl : Str) : Prop where
  sup : supB fl K C q = true
  ini : PySem.W.findIn K (.ref C) "__init__" = some (some (.ref (He.ma K C "__init__")))
  ty : PySem.W.typeIn K (.ref (He.ma K C "__init__")) = some (.type "function")
  no : PySem.W.findIn K (.ref C) field = some none
  ec : ExcC K C
  xf : XfC K C
theorem exnB_ok {fl q field : Str} {K : PySem.W.Frag} {C : Addr} (h : exnB fl q field K C = true) : ExnF K C q field fl := by
  obtain ⟨h1, h⟩ := He.ba h
  obtain ⟨h2, h⟩ := He.ba h
  obtain ⟨h3, h⟩ := He.ba h
  obtain ⟨h4, h5⟩ := He.ba h
  exact ⟨h1, He.eqO_ok h2, of_decide_eq_true h3, He.eqO_ok h4, (excB_ok h5).1, (excB_ok h5).2⟩
def exmB (K : PySem.W.Frag) (a b : Addr) : Bool := decide (PySem.W.exmOne K (.ref a) (.ref b) = some true)
def kitVB (K : PySem.W.Frag) (a : Addr) (v : Value) (b : Bool) : Bool := decide (PySem.W.kitOne K (.ref a) v = some b)
end Z
set_option Elab.async false
set_option linter.all false
set_option maxRecDepth 100000
set_option maxHeartbeats 4000000
namespace Z
open PySem PySem.Spec PyProof.Rows L2 NdefX
/-! ### the head with own exceptions and properties: further observations are any functions of the written part -/
def hookY (n : Nat) (fa : List He.Fa) (fn : List He.DefD) (xs : List (PySem.W.Frag → SupV)) (vs : List SupV) (ex : PySem.W.Frag → Bool) : PySem.W.Hook where
  α := He.AlD × (List SupV × Bool)
  obs := fun s => (He.obsD fa fn (He.frG s.heap.get? (asX s.heap.get? n)), xs.map (fun f => f (He.frG s.heap.get? (asX s.heap.get? n))), ex (He.frG s.heap.get? (asX s.heap.get? n)))
  val := fun _ => (He.valD fn, vs, true)
  says := fun _ h => ∃ K : PySem.W.Frag, K.In h ∧ He.SaysD fa fn K ∧ xs.map (fun f => f K) = vs ∧ ex K = true
  of := fun _ _ e => ⟨_, He.frG_in, congrArg (fun z : He.AlD × (List SupV × Bool) => z.1) e, congrArg (fun z : He.AlD × (List SupV × Bool) => z.2.1) e, congrArg (fun z : He.AlD × (List SupV × Bool) => z.2.2) e⟩
  keeps := fun _ _ _ ⟨K, hK, c⟩ k => ⟨K, PySem.W.Frag.In.keeps hK k, c⟩
def obY (n : Nat) (fa : List He.Fa) (fn : List He.DefD) (xs : List (PySem.W.Frag → SupV)) (ex : PySem.W.Frag → Bool) (g : Addr → Option Obj) : He.AlD × (List SupV × Bool) := (He.obsD fa fn (He.frG g (asX g n)), xs.map (fun f => f (He.frG g (asX g n))), ex (He.frG g (asX g n)))
theorem obY_eq {n : Nat} {fa : List He.Fa} {fn : List He.DefD} {xs : List (PySem.W.Frag → SupV)} {vs : List SupV} {ex : PySem.W.Frag → Bool} {g : Addr → Option Obj} {s : Shared} (h : ∀ a, g a = s.heap.get? a) : obY n fa fn xs ex g = (hookY n fa fn xs vs ex).obs s := by
  have e : g = s.heap.get? := funext h
  rw [e] <;> rfl
theorem y_at {xs : List (PySem.W.Frag → SupV)} {vs : List SupV} {K : PySem.W.Frag} (e : xs.map (fun f => f K) = vs) (i : Nat) {f : PySem.W.Frag → SupV} {v : SupV} (h1 : xs[i]? = some f := by rfl) (h2 : vs[i]? = some v := by rfl) : f K = v := by
  have := congrArg (fun z : List SupV => z[i]?) e
  simp only [List.getElem?_map, h1, h2] at this
  exact Option.some.inj this
def isB (K : PySem.W.Frag) (C : Addr) : Bool := He.eqO (PySem.W.findIn K (.ref C) "__class__") (some (some (.builtin "object.__class__"))) && (He.eqO (PySem.W.specialIn K (.builtin "object.__class__") "__get__") (some (some (.builtin "getset_descriptor.__get__"))) && (decide (PySem.W.takesIn K (.builtin "object.__class__") = some true) && (decide (PySem.W.mroIn K C (.type "object") = some true) && decide (PySem.W.kitOne K (.ref C) (.ref C) = some true))))
theorem isB_ok {K : PySem.W.Frag} {C : Addr} (cl : Cls K C) (h : isB K C = true) : C8.InsC K C := by
  obtain ⟨h1, h⟩ := He.ba h
  obtain ⟨h2, h⟩ := He.ba h
  obtain ⟨h3, h⟩ := He.ba h
  obtain ⟨h4, h5⟩ := He.ba h
  exact ⟨cl, He.eqO_ok h1, He.eqO_ok h2, of_decide_eq_true h3, of_decide_eq_true h4, of_decide_eq_true h5⟩
def spB (K : PySem.W.Frag) (C : Addr) (m : Str) : Bool := He.eqO (PySem.W.findIn K (.ref C) m) (some (some (.ref (He.ma K C m)))) && (PySem.W.isFn K (.ref (He.ma K C m)) && PySem.W.fnIn K (He.ma K C m))
theorem spB_ok {K : PySem.W.Frag} {C : Addr} {m : Str} (h : spB K C m = true) : PySem.W.findIn K (.ref C) m = some (some (.ref (He.ma K C m))) ∧ PySem.W.isFn K (.ref (He.ma K C m)) = true ∧ PySem.W.fnIn K (He.ma K C m) = true := by
  obtain ⟨h1, h⟩ := He.ba h
  obtain ⟨h2, h3⟩ := He.ba h
  exact ⟨He.eqO_ok h1, h2, h3⟩
theorem all_at {bs : List Bool} (h : bs.all id = true) (i : Nat) {b : Bool} (e : bs[i]? = some b := by rfl) : b = true := List.all_eq_true.mp h b (List.mem_of_getElem? e)
theorem fnr_ok {P : Program} {w : World} {K : PySem.W.Frag} {mg : Str → Option Value} {base : Heap} {k : Nat} {f : Addr} {fd : FuncData} {ps : List Str} {sp : Sp} (F : FnOk P w K mg base CX0 k f fd ps sp) (b : Binds K fd ps []) : FnR P w K mg base CX0 k f sp := (FnOk.raw (dvs := []) F b .nil).imp fun vs H Q E h => by
  show sp (vs ++ []) H Q E
  rw [List.append_nil]
  exact h
/-! a property's getter -/
def gtA (K : PySem.W.Frag) (C : Addr) (m : Str) : Addr := match PySem.W.recIn K (He.ma K C m) "property" with
  | some (.ref g :: _) => g
  | _ => 0
def fdAt (K : PySem.W.Frag) (g : Addr) : Option FuncData := match K.lookup g with
  | some ⟨_, _, .func fd, _⟩ => some fd
  | _ => none
def propObs (x m : Str) (K : PySem.W.Frag) : SupV := (fdAt K (gtA K (He.ga K x) m)).map fun fd => (fd.name, fd.qualname, fd.params, fd.body, fd.scope, fd.globals, fd.closure.map (·.1), fd.defaults, fd.builtins)
def propVal (m q : Str) (st : Stmt) : SupV := some (m, q, defArgs st, .stmts (defBody st), defScope st, mainGlobals, [], .none, builtinsNs)
def propB (K : PySem.W.Frag) (C : Addr) (m q : Str) : Bool := He.eqO (PySem.W.findIn K (.ref C) m) (some (some (.ref (He.ma K C m)))) && (He.eqO (PySem.W.specialIn K (.ref (He.ma K C m)) "__get__") (some (some (.builtin "property.__get__"))) && (decide (PySem.W.takesIn K (.ref (He.ma K C m)) = some true) && ((match PySem.W.recIn K (He.ma K C m) "property" with
  | some (.ref _ :: _) => true
  | _ => false) && (PySem.W.keepIn K (.ref (gtA K C m)) && (match fdAt K (gtA K C m) with
  | some fd => PySem.W.codeIn K fd.code q && (He.dflB K fd.defaults [] && He.kwdB K fd.kwdefaults [])
  | none => false)))))
theorem prop_of {K : PySem.W.Frag} {x m q : Str} {st : Stmt} (h1 : propObs x m K = propVal m q st) (h2 : propB K (He.ga K x) m q = true) : ∃ fd : FuncData, PropOf K (He.ga K x) m (He.ma K (He.ga K x) m) (gtA K (He.ga K x) m) ∧ FunD K m q (defArgs st) (defBody st) (defScope st) [] [] (gtA K (He.ga K x) m) fd := by
  obtain ⟨g0, h2⟩ := He.ba h2
  obtain ⟨g1, h2⟩ := He.ba h2
  obtain ⟨g2, h2⟩ := He.ba h2
  obtain ⟨g3, h2⟩ := He.ba h2
  obtain ⟨g4, g5⟩ := He.ba h2
  have P : PropOf K (He.ga K x) m (He.ma K (He.ga K x) m) (gtA K (He.ga K x) m) := by
    refine ⟨He.eqO_ok g0, He.eqO_ok g1, of_decide_eq_true g2, ?_⟩
    unfold gtA
    split at g3
    · next g rest e =>
      rw [e]
      exact ⟨rest, rfl⟩
    · cases g3
  unfold propObs at h1
  cases e : fdAt K (gtA K (He.ga K x) m) with
  | none =>
    rw [e] at h1
    cases h1
  | some fd =>
    rw [e] at h1 g5
    have lk : ∃ oc od osl, K.lookup (gtA K (He.ga K x) m) = some ⟨oc, od, .func fd, osl⟩ := by
      unfold fdAt at e
      split at e
      · next oc od fd' osl l =>
        cases e
        exact ⟨_, _, _, l⟩
      · cases e
    obtain ⟨oc, od, osl, lk⟩ := lk
    obtain ⟨n1, n2, n3, n4, n5, n6, n7, n8, n9, n10, n11, n12, n13, n14, n15⟩ := fd
    have h1 : (some (n1, n2, n3, n4, n5, n6, n7.map (·.1), n8, n15) : SupV) = propVal m q st := h1
    unfold propVal at h1
    simp only [Option.some.injEq, Prod.mk.injEq] at h1
    obtain ⟨a1, a2, a3, a4, a5, a6, a7, a8, a9⟩ := h1
    have a7 : n7 = [] := List.map_eq_nil_iff.mp a7
    subst a1 a2 a3 a4 a5 a6 a7 a8 a9
    obtain ⟨k1, k2⟩ := He.ba (show (PySem.W.codeIn K n13 n2 && (He.dflB K .none [] && He.kwdB K n9 [])) = true from g5)
    obtain ⟨k3, k4⟩ := He.ba k2
    exact ⟨_, P, ⟨oc, od, _, n9, n10, n11, n12, n13, n14, osl, rfl, lk, k1, He.dflB_ok k3, He.kwdB_ok k4⟩, g4⟩
end Z
set_option Elab.async false
set_option linter.all false
set_option maxRecDepth 100000
set_option maxHeartbeats 4000000
namespace Z
open PySem PySem.Spec PyProof.Rows L2 NdefX
/-! ### the head's observation over given addresses (no reach is reckoned: far less memory) -/
def hookL (as : List Addr) (fa : List He.Fa) (fn : List He.DefD) (xs : List (PySem.W.Frag → SupV)) (vs : List SupV) (ex : PySem.W.Frag → Bool) : PySem.W.Hook where
  α := He.AlD × (List SupV × Bool)
  obs := fun s => (He.obsD fa fn (He.frG s.heap.get? as), xs.map (fun f => f (He.frG s.heap.get? as)), ex (He.frG s.heap.get? as))
  val := fun _ => (He.valD fn, vs, true)
  says := fun _ h => ∃ K : PySem.W.Frag, K.In h ∧ He.SaysD fa fn K ∧ xs.map (fun f => f K) = vs ∧ ex K = true
  of := fun _ _ e => ⟨_, He.frG_in, congrArg (fun z : He.AlD × (List SupV × Bool) => z.1) e, congrArg (fun z : He.AlD × (List SupV × Bool) => z.2.1) e, congrArg (fun z : He.AlD × (List SupV × Bool) => z.2.2) e⟩
  keeps := fun _ _ _ ⟨K, hK, c⟩ k => ⟨K, PySem.W.Frag.In.keeps hK k, c⟩
def obL (as : List Addr) (fa : List He.Fa) (fn : List He.DefD) (xs : List (PySem.W.Frag → SupV)) (ex : PySem.W.Frag → Bool) (g : Addr → Option Obj) : He.AlD × (List SupV × Bool) := (He.obsD fa fn (He.frG g as), xs.map (fun f => f (He.frG g as)), ex (He.frG g as))
theorem obL_eq {as : List Addr} {fa : List He.Fa} {fn : List He.DefD} {xs : List (PySem.W.Frag → SupV)} {vs : List SupV} {ex : PySem.W.Frag → Bool} {g : Addr → Option Obj} {s : Shared} (h : ∀ a, g a = s.heap.get? a) : obL as fa fn xs ex g = (hookL as fa fn xs vs ex).obs s := by
  have e : g = s.heap.get? := funext h
  rw [e] <;> rfl
end Z
set_option pp.maxSteps 700
set_option Elab.async false
set_option linter.all false
set_option maxRecDepth 100000
set_option maxHeartbeats 4000000
set_option maxHeartbeats 0
namespace Zr
open PySem PySem.Spec PyProof.Rows L2 Z
abbrev s_check_rounds : Stmt := topS 22
abbrev s_check_letters : Stmt := topS 39
abbrev s_check_rows : Stmt := topS 40
abbrev s_flags_of : Stmt := topS 25
abbrev s_live_rows : Stmt := topS 26
abbrev s_state_classes : Stmt := topS 27
abbrev s_normal_table : Stmt := topS 28
abbrev s_unending_rows : Stmt := topS 37
abbrev s_leads_on : Stmt := topS 44
abbrev s_passable_levels : Stmt := topS 45
abbrev s_numbers_of : Stmt := topS 46
abbrev s_passable : Stmt := topS 47
abbrev s_closed_states : Stmt := topS 48
abbrev s_rounds_needed : Stmt := topS 49
abbrev s_swapped : Stmt := topS 43
abbrev s_passage_lengths : Stmt := topS 53
abbrev s_check_bit : Stmt := topS 21
abbrev s_check_fates : Stmt := topS 19
abbrev s_check_end : Stmt := topS 20
abbrev s_arrives : Stmt := topS 23
abbrev s_Machine___init__ : Stmt := inClass (topS 41) 0
abbrev s_Machine___contains__ : Stmt := inClass (topS 41) 7
abbrev s_Machine___eq__ : Stmt := inClass (topS 41) 8
abbrev s_Machine_after : Stmt := inClass (topS 41) 9
abbrev s_Machine_unending : Stmt := inClass (topS 41) 16
abbrev s_Exchange___init__ : Stmt := inClass (topS 51) 0
abbrev s_Exchange_seen : Stmt := inClass (topS 51) 3
abbrev s_Chain___init__ : Stmt := inClass (topS 54) 0
abbrev s_Decider___init__ : Stmt := inClass (topS 61) 0
abbrev s_cell : Stmt := topS 63
abbrev s_draws : Stmt := topS 64
abbrev s_take : Stmt := topS 65
abbrev s_exchange : Stmt := topS 66
abbrev s_row : Stmt := topS 67
abbrev s_table : Stmt := topS 68
abbrev s_good : Stmt := topS 69
abbrev s_rule : Stmt := topS 70
abbrev s_goes_on : Stmt := topS 71
abbrev s_kept : Stmt := topS 72
abbrev s_unending : Stmt := topS 73
abbrev s_mark : Stmt := topS 74
abbrev s_normal : Stmt := topS 75
abbrev s_leads : Stmt := topS 76
abbrev s_flags : Stmt := topS 77
abbrev s_sure : Stmt := topS 78
abbrev s_drawn_text : Stmt := topS 79
abbrev s_swapped_fates : Stmt := topS 80
abbrev s_allows : Stmt := topS 81
abbrev s_every_text : Stmt := topS 82
abbrev s_length : Stmt := topS 83
abbrev s_decider_rounds : Stmt := topS 84
abbrev s_same_sizes : Stmt := topS 85
abbrev s_views_swapped : Stmt := topS 86
abbrev s_law : Stmt := topS 87
abbrev s_Chain_length : Stmt := inClass (topS 54) 1
abbrev s_Decider_round_count : Stmt := inClass (topS 61) 1
/-- the run's facts in two pieces (one piece alone wants too much memory) -/
theorem run_join {α β γ δ : Type} {o : Option α} {f : α → β} {g : α → γ} {h : α → δ} {b : β} {c : γ} {d : δ} (h1 : o.map (fun s => (f s, g s)) = some (b, c)) (h2 : o.map h = some d) : o.map (fun s => (f s, g s, h s)) = some (b, c, d) := by
  cases o with
  | none => cases h2
  | some s =>
    simp only [Option.map_some, Option.some.injEq, Prod.mk.injEq] at h1 h2 ⊢
    exact ⟨h1.1, h1.2, h2⟩
def d_check_rounds : He.DefD := ⟨("check_rounds", none), "check_rounds", "check_rounds", defArgs s_check_rounds, defBody s_check_rounds, defScope s_check_rounds, [], []⟩
def d_check_letters : He.DefD := ⟨("check_letters", none), "check_letters", "check_letters", defArgs s_check_letters, defBody s_check_letters, defScope s_check_letters, [], []⟩
def d_check_rows : He.DefD := ⟨("check_rows", none), "check_rows", "check_rows", defArgs s_check_rows, defBody s_check_rows, defScope s_check_rows, [], []⟩
def d_flags_of : He.DefD := ⟨("flags_of", none), "flags_of", "flags_of", defArgs s_flags_of, defBody s_flags_of, defScope s_flags_of, [], []⟩
def d_live_rows : He.DefD := ⟨("live_rows", none), "live_rows", "live_rows", defArgs s_live_rows, defBody s_live_rows, defScope s_live_rows, [], []⟩
def d_state_classes : He.DefD := ⟨("state_classes", none), "state_classes", "state_classes", defArgs s_state_classes, defBody s_state_classes, defScope s_state_classes, [], []⟩
def d_normal_table : He.DefD := ⟨("normal_table", none), "normal_table", "normal_table", defArgs s_normal_table, defBody s_normal_table, defScope s_normal_table, [], []⟩
def d_unending_rows : He.DefD := ⟨("unending_rows", none), "unending_rows", "unending_rows", defArgs s_unending_rows, defBody s_unending_rows, defScope s_unending_rows, [], []⟩
def d_leads_on : He.DefD := ⟨("leads_on", none), "leads_on", "leads_on", defArgs s_leads_on, defBody s_leads_on, defScope s_leads_on, [], []⟩
def d_passable_levels : He.DefD := ⟨("passable_levels", none), "passable_levels", "passable_levels", defArgs s_passable_levels, defBody s_passable_levels, defScope s_passable_levels, [], []⟩
def d_numbers_of : He.DefD := ⟨("numbers_of", none), "numbers_of", "numbers_of", defArgs s_numbers_of, defBody s_numbers_of, defScope s_numbers_of, [], []⟩
def d_passable : He.DefD := ⟨("passable", none), "passable", "passable", defArgs s_passable, defBody s_passable, defScope s_passable, [], []⟩
def d_closed_states : He.DefD := ⟨("closed_states", none), "closed_states", "closed_states", defArgs s_closed_states, defBody s_closed_states, defScope s_closed_states, [], []⟩
def d_rounds_needed : He.DefD := ⟨("rounds_needed", none), "rounds_needed", "rounds_needed", defArgs s_rounds_needed, defBody s_rounds_needed, defScope s_rounds_needed, [], []⟩
def d_swapped : He.DefD := ⟨("swapped", none), "swapped", "swapped", defArgs s_swapped, defBody s_swapped, defScope s_swapped, [], []⟩
def d_passage_lengths : He.DefD := ⟨("passage_lengths", none), "passage_lengths", "passage_lengths", defArgs s_passage_lengths, defBody s_passage_lengths, defScope s_passage_lengths, [], []⟩
def d_check_bit : He.DefD := ⟨("check_bit", none), "check_bit", "check_bit", defArgs s_check_bit, defBody s_check_bit, defScope s_check_bit, [], []⟩
def d_check_fates : He.DefD := ⟨("check_fates", none), "check_fates", "check_fates", defArgs s_check_fates, defBody s_check_fates, defScope s_check_fates, [], []⟩
def d_check_end : He.DefD := ⟨("check_end", none), "check_end", "check_end", defArgs s_check_end, defBody s_check_end, defScope s_check_end, [], []⟩
def d_arrives : He.DefD := ⟨("arrives", none), "arrives", "arrives", defArgs s_arrives, defBody s_arrives, defScope s_arrives, [], []⟩
def d_Machine___init__ : He.DefD := ⟨("Machine", some "__init__"), "__init__", "Machine.__init__", defArgs s_Machine___init__, defBody s_Machine___init__, defScope s_Machine___init__, [.non], []⟩
def d_Machine___contains__ : He.DefD := ⟨("Machine", some "__contains__"), "__contains__", "Machine.__contains__", defArgs s_Machine___contains__, defBody s_Machine___contains__, defScope s_Machine___contains__, [], []⟩
def d_Machine___eq__ : He.DefD := ⟨("Machine", some "__eq__"), "__eq__", "Machine.__eq__", defArgs s_Machine___eq__, defBody s_Machine___eq__, defScope s_Machine___eq__, [], []⟩
def d_Machine_after : He.DefD := ⟨("Machine", some "after"), "after", "Machine.after", defArgs s_Machine_after, defBody s_Machine_after, defScope s_Machine_after, [], []⟩
def d_Machine_unending : He.DefD := ⟨("Machine", some "unending"), "unending", "Machine.unending", defArgs s_Machine_unending, defBody s_Machine_unending, defScope s_Machine_unending, [], []⟩
def d_Exchange___init__ : He.DefD := ⟨("Exchange", some "__init__"), "__init__", "Exchange.__init__", defArgs s_Exchange___init__, defBody s_Exchange___init__, defScope s_Exchange___init__, [], []⟩
def d_Exchange_seen : He.DefD := ⟨("Exchange", some "seen"), "seen", "Exchange.seen", defArgs s_Exchange_seen, defBody s_Exchange_seen, defScope s_Exchange_seen, [], []⟩
def d_Chain___init__ : He.DefD := ⟨("Chain", some "__init__"), "__init__", "Chain.__init__", defArgs s_Chain___init__, defBody s_Chain___init__, defScope s_Chain___init__, [], []⟩
def d_Decider___init__ : He.DefD := ⟨("Decider", some "__init__"), "__init__", "Decider.__init__", defArgs s_Decider___init__, defBody s_Decider___init__, defScope s_Decider___init__, [], [("rounds", .non)]⟩
def d_cell : He.DefD := ⟨("_law_cell", none), "_law_cell", "_law_cell", defArgs s_cell, defBody s_cell, defScope s_cell, [], []⟩
def d_draws : He.DefD := ⟨("_law_draws", none), "_law_draws", "_law_draws", defArgs s_draws, defBody s_draws, defScope s_draws, [], []⟩
def d_take : He.DefD := ⟨("_law_take", none), "_law_take", "_law_take", defArgs s_take, defBody s_take, defScope s_take, [], []⟩
def d_exchange : He.DefD := ⟨("_law_exchange", none), "_law_exchange", "_law_exchange", defArgs s_exchange, defBody s_exchange, defScope s_exchange, [], []⟩
def d_row : He.DefD := ⟨("_law_row", none), "_law_row", "_law_row", defArgs s_row, defBody s_row, defScope s_row, [], []⟩
def d_table : He.DefD := ⟨("_law_table", none), "_law_table", "_law_table", defArgs s_table, defBody s_table, defScope s_table, [], []⟩
def d_good : He.DefD := ⟨("_law_good", none), "_law_good", "_law_good", defArgs s_good, defBody s_good, defScope s_good, [], []⟩
def d_rule : He.DefD := ⟨("_law_rule", none), "_law_rule", "_law_rule", defArgs s_rule, defBody s_rule, defScope s_rule, [], []⟩
def d_goes_on : He.DefD := ⟨("_law_goes_on", none), "_law_goes_on", "_law_goes_on", defArgs s_goes_on, defBody s_goes_on, defScope s_goes_on, [], []⟩
def d_kept : He.DefD := ⟨("_law_kept", none), "_law_kept", "_law_kept", defArgs s_kept, defBody s_kept, defScope s_kept, [], []⟩
def d_unending : He.DefD := ⟨("_law_unending", none), "_law_unending", "_law_unending", defArgs s_unending, defBody s_unending, defScope s_unending, [], []⟩
def d_mark : He.DefD := ⟨("_law_mark", none), "_law_mark", "_law_mark", defArgs s_mark, defBody s_mark, defScope s_mark, [], []⟩
def d_normal : He.DefD := ⟨("_law_normal", none), "_law_normal", "_law_normal", defArgs s_normal, defBody s_normal, defScope s_normal, [], []⟩
def d_leads : He.DefD := ⟨("_law_leads", none), "_law_leads", "_law_leads", defArgs s_leads, defBody s_leads, defScope s_leads, [], []⟩
def d_flags : He.DefD := ⟨("_law_flags", none), "_law_flags", "_law_flags", defArgs s_flags, defBody s_flags, defScope s_flags, [], []⟩
def d_sure : He.DefD := ⟨("_law_sure", none), "_law_sure", "_law_sure", defArgs s_sure, defBody s_sure, defScope s_sure, [], []⟩
def d_drawn_text : He.DefD := ⟨("_law_drawn_text", none), "_law_drawn_text", "_law_drawn_text", defArgs s_drawn_text, defBody s_drawn_text, defScope s_drawn_text, [], []⟩
def d_swapped_fates : He.DefD := ⟨("_law_swapped_fates", none), "_law_swapped_fates", "_law_swapped_fates", defArgs s_swapped_fates, defBody s_swapped_fates, defScope s_swapped_fates, [], []⟩
def d_allows : He.DefD := ⟨("_law_allows", none), "_law_allows", "_law_allows", defArgs s_allows, defBody s_allows, defScope s_allows, [], []⟩
def d_every_text : He.DefD := ⟨("_law_every_text", none), "_law_every_text", "_law_every_text", defArgs s_every_text, defBody s_every_text, defScope s_every_text, [], []⟩
def d_length : He.DefD := ⟨("_law_length", none), "_law_length", "_law_length", defArgs s_length, defBody s_length, defScope s_length, [], []⟩
def d_decider_rounds : He.DefD := ⟨("_law_decider_rounds", none), "_law_decider_rounds", "_law_decider_rounds", defArgs s_decider_rounds, defBody s_decider_rounds, defScope s_decider_rounds, [], []⟩
def d_same_sizes : He.DefD := ⟨("_law_same_sizes", none), "_law_same_sizes", "_law_same_sizes", defArgs s_same_sizes, defBody s_same_sizes, defScope s_same_sizes, [], []⟩
def d_views_swapped : He.DefD := ⟨("_law_views_swapped", none), "_law_views_swapped", "_law_views_swapped", defArgs s_views_swapped, defBody s_views_swapped, defScope s_views_swapped, [], []⟩
def d_law : He.DefD := ⟨("law", none), "law", "law", defArgs s_law, defBody s_law, defScope s_law, [], []⟩
abbrev s_BadCount___init__ : Stmt := inClass (topS 4) 0
theorem xn_BadCount {P : Program} {w : World} {K : PySem.W.Frag} {mg : Str → Option Value} {base : Heap} {fl : Str} (h1 : supObs K "BadCount" = supVal "BadCount.__init__" s_BadCount___init__) (h : ExnF K (He.ga K "BadCount") "BadCount.__init__" "value" fl) (hfl : ((P.main.file : Str) == fl) = true) (htop : (P.main.scope.names.lookup ("super" : Str)).isSome = false) (g : mg "BadCount" = some (.ref (He.ga K "BadCount"))) (m_super : mg "super" = none) : Exn P w K mg base "BadCount" (He.ga K "BadCount") "value" := by
  obtain ⟨c, cc, fd, kV, doc, pm, ct, an, hfd, S, hcd⟩ := sup_of h1 h.sup hfl htop
  refine ⟨S.oex, g, He.ma K _ "__init__", fd, ["self", "value"], h.ini, h.ty, ?_, ?_⟩
  · exact exn_ok (v := "value") (F := ⟨"__init__", "BadCount.__init__", defArgs s_BadCount___init__, defBody s_BadCount___init__, defScope s_BadCount___init__, [("__class__", cc)], c⟩) hfd S hcd (NdefX.nscope_by (sc := defScope s_BadCount___init__) (by decide +kernel)) rfl rfl rfl (show (defScope s_BadCount___init__).names.lookup ("super" : Str) = some .globalImplicit by decide +kernel) m_super h.no (by decide) (by decide) rfl (fun _ _ _ _ _ => rfl) (fun _ _ _ _ _ => rfl) (fun _ _ _ _ _ => rfl) (fun _ _ _ _ _ => rfl)
  · subst hfd
    exact Binds.all fun us hl => match us, hl with | [_, _], _ => rfl
abbrev s_BadBit___init__ : Stmt := inClass (topS 3) 0
theorem xn_BadBit {P : Program} {w : World} {K : PySem.W.Frag} {mg : Str → Option Value} {base : Heap} {fl : Str} (h1 : supObs K "BadBit" = supVal "BadBit.__init__" s_BadBit___init__) (h : ExnF K (He.ga K "BadBit") "BadBit.__init__" "bit" fl) (hfl : ((P.main.file : Str) == fl) = true) (htop : (P.main.scope.names.lookup ("super" : Str)).isSome = false) (g : mg "BadBit" = some (.ref (He.ga K "BadBit"))) (m_super : mg "super" = none) : Exn P w K mg base "BadBit" (He.ga K "BadBit") "bit" := by
  obtain ⟨c, cc, fd, kV, doc, pm, ct, an, hfd, S, hcd⟩ := sup_of h1 h.sup hfl htop
  refine ⟨S.oex, g, He.ma K _ "__init__", fd, ["self", "bit"], h.ini, h.ty, ?_, ?_⟩
  · exact exn_ok (v := "bit") (F := ⟨"__init__", "BadBit.__init__", defArgs s_BadBit___init__, defBody s_BadBit___init__, defScope s_BadBit___init__, [("__class__", cc)], c⟩) hfd S hcd (NdefX.nscope_by (sc := defScope s_BadBit___init__) (by decide +kernel)) rfl rfl rfl (show (defScope s_BadBit___init__).names.lookup ("super" : Str) = some .globalImplicit by decide +kernel) m_super h.no (by decide) (by decide) rfl (fun _ _ _ _ _ => rfl) (fun _ _ _ _ _ => rfl) (fun _ _ _ _ _ => rfl) (fun _ _ _ _ _ => rfl)
  · subst hfd
    exact Binds.all fun us hl => match us, hl with | [_, _], _ => rfl
abbrev s_BadEnd___init__ : Stmt := inClass (topS 5) 0
theorem xn_BadEnd {P : Program} {w : World} {K : PySem.W.Frag} {mg : Str → Option Value} {base : Heap} {fl : Str} (h1 : supObs K "BadEnd" = supVal "BadEnd.__init__" s_BadEnd___init__) (h : ExnF K (He.ga K "BadEnd") "BadEnd.__init__" "end" fl) (hfl : ((P.main.file : Str) == fl) = true) (htop : (P.main.scope.names.lookup ("super" : Str)).isSome = false) (g : mg "BadEnd" = some (.ref (He.ga K "BadEnd"))) (m_super : mg "super" = none) : Exn P w K mg base "BadEnd" (He.ga K "BadEnd") "end" := by
  obtain ⟨c, cc, fd, kV, doc, pm, ct, an, hfd, S, hcd⟩ := sup_of h1 h.sup hfl htop
  refine ⟨S.oex, g, He.ma K _ "__init__", fd, ["self", "end"], h.ini, h.ty, ?_, ?_⟩
  · exact exn_ok (v := "end") (F := ⟨"__init__", "BadEnd.__init__", defArgs s_BadEnd___init__, defBody s_BadEnd___init__, defScope s_BadEnd___init__, [("__class__", cc)], c⟩) hfd S hcd (NdefX.nscope_by (sc := defScope s_BadEnd___init__) (by decide +kernel)) rfl rfl rfl (show (defScope s_BadEnd___init__).names.lookup ("super" : Str) = some .globalImplicit by decide +kernel) m_super h.no (by decide) (by decide) rfl (fun _ _ _ _ _ => rfl) (fun _ _ _ _ _ => rfl) (fun _ _ _ _ _ => rfl) (fun _ _ _ _ _ => rfl)
  · subst hfd
    exact Binds.all fun us hl => match us, hl with | [_, _], _ => rfl
abbrev s_BadFate___init__ : Stmt := inClass (topS 6) 0
theorem xn_BadFate {P : Program} {w : World} {K : PySem.W.Frag} {mg : Str → Option Value} {base : Heap} {fl : Str} (h1 : supObs K "BadFate" = supVal "BadFate.__init__" s_BadFate___init__) (h : ExnF K (He.ga K "BadFate") "BadFate.__init__" "at" fl) (hfl : ((P.main.file : Str) == fl) = true) (htop : (P.main.scope.names.lookup ("super" : Str)).isSome = false) (g : mg "BadFate" = some (.ref (He.ga K "BadFate"))) (m_super : mg "super" = none) : Exn P w K mg base "BadFate" (He.ga K "BadFate") "at" := by
  obtain ⟨c, cc, fd, kV, doc, pm, ct, an, hfd, S, hcd⟩ := sup_of h1 h.sup hfl htop
  refine ⟨S.oex, g, He.ma K _ "__init__", fd, ["self", "at"], h.ini, h.ty, ?_, ?_⟩
  · exact exn_ok (v := "at") (F := ⟨"__init__", "BadFate.__init__", defArgs s_BadFate___init__, defBody s_BadFate___init__, defScope s_BadFate___init__, [("__class__", cc)], c⟩) hfd S hcd (NdefX.nscope_by (sc := defScope s_BadFate___init__) (by decide +kernel)) rfl rfl rfl (show (defScope s_BadFate___init__).names.lookup ("super" : Str) = some .globalImplicit by decide +kernel) m_super h.no (by decide) (by decide) rfl (fun _ _ _ _ _ => rfl) (fun _ _ _ _ _ => rfl) (fun _ _ _ _ _ => rfl) (fun _ _ _ _ _ => rfl)
  · subst hfd
    exact Binds.all fun us hl => match us, hl with | [_, _], _ => rfl
def xns : List (PySem.W.Frag → SupV) := [fun K => supObs K "BadCount", fun K => supObs K "BadBit", fun K => supObs K "BadEnd", fun K => supObs K "BadFate", propObs "Chain" "length", propObs "Decider" "round_count"]
def exPr (K : PySem.W.Frag) : List Bool := [propB K (He.ga K "Chain") "length" "Chain.length", propB K (He.ga K "Decider") "round_count" "Decider.round_count"]
def xvs : List SupV := [supVal "BadCount.__init__" s_BadCount___init__, supVal "BadBit.__init__" s_BadBit___init__, supVal "BadEnd.__init__" s_BadEnd___init__, supVal "BadFate.__init__" s_BadFate___init__, propVal "length" "Chain.length" s_Chain_length, propVal "round_count" "Decider.round_count" s_Decider_round_count]
def exXn (fl : Str) (K : PySem.W.Frag) : List Bool := [exnB fl "BadCount.__init__" "value" K (He.ga K "BadCount"), exnB fl "BadBit.__init__" "bit" K (He.ga K "BadBit"), exnB fl "BadEnd.__init__" "end" K (He.ga K "BadEnd"), exnB fl "BadFate.__init__" "at" K (He.ga K "BadFate")]
def fn : List He.DefD := [d_check_rounds, d_check_letters, d_check_rows, d_flags_of, d_live_rows, d_state_classes, d_normal_table, d_unending_rows, d_leads_on, d_passable_levels, d_numbers_of, d_passable, d_closed_states, d_rounds_needed, d_swapped, d_passage_lengths, d_check_bit, d_check_fates, d_check_end, d_arrives, d_Machine___init__, d_Machine___contains__, d_Machine___eq__, d_Machine_after, d_Machine_unending, d_Exchange___init__, d_Exchange_seen, d_Chain___init__, d_Decider___init__, d_cell, d_draws, d_take, d_exchange, d_row, d_table, d_good, d_rule, d_goes_on, d_kept, d_unending, d_mark, d_normal, d_leads, d_flags, d_sure, d_drawn_text, d_swapped_fates, d_allows, d_every_text, d_length, d_decider_rounds, d_same_sizes, d_views_swapped, d_law]
def fa : List He.Fa := [.glo "check_rounds", .glo "check_letters", .glo "check_rows", .glo "flags_of", .glo "live_rows", .glo "state_classes", .glo "normal_table", .glo "unending_rows", .glo "leads_on", .glo "passable_levels", .glo "numbers_of", .glo "passable", .glo "closed_states", .glo "rounds_needed", .glo "swapped", .glo "passage_lengths", .glo "check_bit", .glo "check_fates", .glo "check_end", .glo "arrives", .glo "_law_cell", .glo "_law_draws", .glo "_law_take", .glo "_law_exchange", .glo "_law_row", .glo "_law_table", .glo "_law_good", .glo "_law_rule", .glo "_law_goes_on", .glo "_law_kept", .glo "_law_unending", .glo "_law_mark", .glo "_law_normal", .glo "_law_leads", .glo "_law_flags", .glo "_law_sure", .glo "_law_drawn_text", .glo "_law_swapped_fates", .glo "_law_allows", .glo "_law_every_text", .glo "_law_length", .glo "_law_decider_rounds", .glo "_law_same_sizes", .glo "_law_views_swapped", .glo "law", .free "abs", .free "all", .free "any", .free "enumerate", .free "int", .free "isinstance", .free "len", .free "list", .free "max", .free "range", .free "sum", .free "super", .free "tuple", .glo "Machine", .cls "Machine", .mkr "Machine", .noat "Machine" "letters", .noat "Machine" "rows", .noat "Machine" "good", .meth "Machine" "unending", .meth "Machine" "after", .glo "Exchange", .cls "Exchange", .mkr "Exchange", .noat "Exchange" "first_bit", .noat "Exchange" "second_bit", .noat "Exchange" "fates", .meth "Exchange" "seen", .glo "Chain", .cls "Chain", .mkr "Chain", .noat "Chain" "kept_rows", .noat "Chain" "kept_lengths", .glo "Decider", .cls "Decider", .mkr "Decider", .noat "Decider" "kept_rule", .noat "Decider" "kept_rounds", .noat "Decider" "kept_levels", .int "MOST_ROUNDS" (40), .str "FATES" "bfsn", .glo "NoChain", .glo "CannotDecide", .glo "ENDS", .glo "BadCount", .glo "BadBit", .glo "BadEnd", .glo "BadFate"]
def loose : List Str := [("_wall" : Str), ("HouseError" : Str), ("BadBit" : Str), ("BadCount" : Str), ("BadEnd" : Str), ("BadFate" : Str), ("BadLetters" : Str), ("BadRow" : Str), ("BadState" : Str), ("NeverSeen" : Str), ("OutOfChain" : Str), ("CannotDecide" : Str), ("LettersDiffer" : Str), ("NoChain" : Str), ("FATES" : Str), ("ENDS" : Str), ("MOST_ROUNDS" : Str), ("check_fates" : Str), ("check_end" : Str), ("check_bit" : Str), ("check_rounds" : Str), ("arrives" : Str), ("flags_of" : Str), ("live_rows" : Str), ("state_classes" : Str), ("normal_table" : Str), ("is_kept" : Str), ("is_good" : Str), ("pair_table" : Str), ("opposite_table" : Str), ("after_step" : Str), ("with_start" : Str), ("chain_table" : Str), ("rounds_table" : Str), ("unending_rows" : Str), ("check_letters" : Str), ("check_rows" : Str), ("Machine" : Str), ("swapped" : Str), ("leads_on" : Str), ("passable_levels" : Str), ("numbers_of" : Str), ("passable" : Str), ("closed_states" : Str), ("rounds_needed" : Str), ("Exchange" : Str), ("passage_lengths" : Str), ("Chain" : Str), ("heard_rounds" : Str), ("rounds_of" : Str), ("states_behind" : Str), ("is_shown" : Str), ("Decider" : Str), ("_law_cell" : Str), ("_law_draws" : Str), ("_law_take" : Str), ("_law_exchange" : Str), ("_law_row" : Str), ("_law_table" : Str), ("_law_good" : Str), ("_law_rule" : Str), ("_law_goes_on" : Str), ("_law_kept" : Str), ("_law_unending" : Str), ("_law_mark" : Str), ("_law_normal" : Str), ("_law_leads" : Str), ("_law_flags" : Str), ("_law_sure" : Str), ("_law_drawn_text" : Str), ("_law_swapped_fates" : Str), ("_law_allows" : Str), ("_law_every_text" : Str), ("_law_length" : Str), ("_law_decider_rounds" : Str), ("_law_same_sizes" : Str), ("_law_views_swapped" : Str)]
/-- all places of the heap behind the top (there are fewer) -/
def AS : List Addr := List.range 900
def fl : Str := PySem.Challenge.pw_signedpacts_k84_swapped_ends.main.file
/-- the module's tuple ("first", "second") -/
def endsB (K : PySem.W.Frag) (a : Addr) : Bool := match K.lookup a with
  | some ⟨.type t, _, .seq its _, _⟩ => decide (t = "tuple") && (match its.toList with
    | [.str x _, .str y _] => decide (x = "first") && decide (y = "second")
    | _ => false)
  | _ => false
def exL (K : PySem.W.Frag) : List Bool := [isB K (He.ga K "Machine"), spB K (He.ga K "Machine") "__eq__", spB K (He.ga K "Machine") "__contains__", endsB K (He.ga K "ENDS"), exmB K (He.ga K "NoChain") (He.ga K "NoChain"), exmB K (He.ga K "CannotDecide") (He.ga K "CannotDecide"),
  PySem.W.excIn K (He.ga K "NoChain") He.veBase "ValueError.__new__", PySem.W.keepIn K (.ref (He.ga K "NoChain")), decide (PySem.W.subIn K (.ref (He.ga K "NoChain")) (.type "BaseException") = some true), decide (PySem.W.typeIn K (.ref (He.ga K "NoChain")) = some (.type "type")),
  PySem.W.excIn K (He.ga K "CannotDecide") He.veBase "ValueError.__new__", PySem.W.keepIn K (.ref (He.ga K "CannotDecide")), decide (PySem.W.subIn K (.ref (He.ga K "CannotDecide")) (.type "BaseException") = some true), decide (PySem.W.typeIn K (.ref (He.ga K "CannotDecide")) = some (.type "type"))]
def ex (K : PySem.W.Frag) : Bool := (exL K).all id && ((exXn fl K).all id && (exPr K).all id)
abbrev R : PySem.W.OpenRow := PySem.W.OpenLaw.row PySem.Challenge.rw_signedpacts_k84_swapped_ends
abbrev hk : PySem.W.Hook := hookL AS fa fn xns xvs ex
def ob (s : PySem.W.SharedT) : He.AlD × (List SupV × Bool) := obL AS fa fn xns ex (HandSHeadRun.getT s)
theorem ob_eq (s : PySem.W.SharedT) : ob s = hk.obs s.abs := obL_eq (HandSHeadRun.getT_eq s)
open HandSHeadRun PySem.W PySem.Calls in
theorem run_a (w : World) (os : OsState) : (endF (stepQ (denQ tabQ) Zr.R.prog w) 8000 Zr.R.prog w os).map (fun s => (looksF Zr.R.prog (boot_heap w.params) s.abs, seenQ (PySem.W.view Zr.R.prog [87]) loose (importedModules Zr.R.prog.main.body) (fun s => xlAt (PySem.W.view Zr.R.prog [87]) [] s && recOk Zr.R.toRowW.records s) s.abs)) = some (true, openGood (PySem.W.view Zr.R.prog [87]) loose) := by kernel_rfl
open HandSHeadRun in
theorem run_b (w : World) (os : OsState) : (endF (stepQ (denQ tabQ) Zr.R.prog w) 8000 Zr.R.prog w os).map ob = some (hk.val w) := by kernel_rfl
theorem run (w : World) : HandSHeadRun.RunEq Zr.R (PySem.W.view Zr.R.prog [87]) hk ob 8000 loose w := by
  intro os
  have z := run_join (run_a w os) (run_b w os)
  exact z
end Zr
set_option Elab.async false
set_option linter.all false
set_option maxRecDepth 100000
set_option maxHeartbeats 4000000
namespace Z
open PySem PySem.Spec PyProof.Rows L2
/-! ### comprehensions that give ints, over a list of ints and over a range -/
theorem lc_ofs {K : PySem.W.Frag} {J : It} {D : Addr} {n : Nat} {H0 : Hp} {i : Nat} {te : TE} {vs : List Nat} {σ : L2.St} {Qd : Hp → Prop} (g : Nat → Int) (xv : Nat → V) (hn : n ≤ 1000000) (nD : H0 D = none)
    (hgo : ∀ k H1, k < n → Same H0 H1 → J.go k H1) (hst : ∀ H1, Same H0 H1 → J.stop n H1) (hy : ∀ k H1 x H2, k < n → Same H0 H1 → J.yld k H1 x H2 → H2 = H1 ∧ x = xv k)
    (hw : ∀ k, wipe ((wipe σ vs).set i (some (xv k))) vs = wipe σ vs)
    (ht : ∀ k H1 (Q : VK), k < n → Same H0 H1 → (∀ H2, Same H1 H2 → Q (.int (g k)) H2) → te ((wipe σ vs).set i (some (xv k))) H1 Q)
    (hd : ∀ H1, Same H0 H1 → H1 D = some (.lst (((List.range n).map g).map V.int)) → Qd H1) : lcW J (gName i) tYes te vs σ D Qd H0 := by
  refine lc_gen (n := n) (fun k H1 => Same H0 H1 ∧ H1 D = some (.lst (((List.range k).map g).map V.int))) ⟨same_new nD, upd_same⟩ (fun k H1 hk p => hgo k H1 hk p.1) (fun H1 p => hst H1 p.1) ?_ (fun H1 p => hd H1 p.1 p.2)
  rintro k H1 x H2 hk ⟨s, e⟩ y
  obtain ⟨rfl, rfl⟩ := hy k H1 x H2 hk s y
  refine ⟨hw k, ?_⟩
  refine ht k _ _ hk s (fun H3 s3 => ⟨_, s3 _ _ e, ?_, Z.Same.mut (s.trans s3) nD, ?_⟩)
  · rw [List.length_map, List.length_map, List.length_range]
    exact Nat.lt_of_lt_of_le hk (Nat.le_trans hn (by decide))
  · rw [upd_same, List.range_succ, List.map_append, List.map_append]
    rfl
theorem lc_rng {K : PySem.W.Frag} {lo : Int} {D : Addr} {n : Nat} {H0 : Hp} {i : Nat} {te : TE} {vs : List Nat} {σ : L2.St} {Qd : Hp → Prop} (g : Nat → Int) (hn : n ≤ 1000000) (nD : H0 D = none) (hw : ∀ k : Nat, wipe ((wipe σ vs).set i (some (.int (lo + k)))) vs = wipe σ vs)
    (ht : ∀ (k : Nat) H1 (Q : VK), k < n → Same H0 H1 → (∀ H2, Same H1 H2 → Q (.int (g k)) H2) → te ((wipe σ vs).set i (some (.int (lo + k)))) H1 Q)
    (hd : ∀ H1, Same H0 H1 → H1 D = some (.lst (((List.range n).map g).map V.int)) → Qd H1) : lcW (Itr lo n) (gName i) tYes te vs σ D Qd H0 :=
  lc_ofs (K := K) g (fun k => .int (lo + k)) hn nD (fun k H1 hk _ => hk) (fun H1 _ => Nat.le_refl _) (fun k H1 x H2 _ _ y => y) hw ht hd
theorem lc_lst {K : PySem.W.Frag} {a D : Addr} {xs : List Int} {H0 : Hp} {i : Nat} {te : TE} {vs : List Nat} {σ : L2.St} {Qd : Hp → Prop} (hS : SqL K H0 a (xs.map V.int)) (g : Int → Int) (hn : xs.length ≤ 1000000) (nD : H0 D = none) (hw : ∀ x : Int, wipe ((wipe σ vs).set i (some (.int x))) vs = wipe σ vs)
    (ht : ∀ x H1 (Q : VK), x ∈ xs → Same H0 H1 → (∀ H2, Same H1 H2 → Q (.int (g x)) H2) → te ((wipe σ vs).set i (some (.int x))) H1 Q)
    (hd : ∀ H1, Same H0 H1 → H1 D = some (.lst ((xs.map g).map V.int)) → Qd H1) : lcW (Itl K a) (gName i) tYes te vs σ D Qd H0 := by
  have ex : ∀ k, k < xs.length → (xs.map V.int)[k]? = some (.int (xs.getD k 0)) := fun k hk => by
    rw [List.getElem?_map, List.getD_eq_getElem?_getD, List.getElem?_eq_getElem hk]
    rfl
  refine lc_ofs (K := K) (n := xs.length) (fun k => g (xs.getD k 0)) (fun k => .int (xs.getD k 0)) hn nD (fun k H1 hk s => ⟨_, _, s.seq hS, ex k hk⟩) (fun H1 s => ⟨_, s.seq hS, by rw [List.length_map]; exact Nat.le_refl _⟩) (fun k H1 x H2 hk s y => ⟨y.1, Option.some.inj ((y.2 _ (s.seq hS)).symm.trans (ex k hk))⟩) (fun k => hw _) (fun k H1 Q hk s q => ht _ H1 Q ?_ s q) (fun H1 s e => hd H1 s ?_)
  · rw [List.getD_eq_getElem?_getD, List.getElem?_eq_getElem hk]
    exact List.getElem_mem hk
  · rw [e]
    congr 2
    congr 1
    apply List.ext_getElem
    · rw [List.length_map, List.length_map, List.length_range]
    · intro k h1 h2
      rw [List.length_map] at h2
      rw [List.getElem_map, List.getElem_map, List.getElem_range, List.getD_eq_getElem?_getD, List.getElem?_eq_getElem h2]
      rfl
/-- for x in xs, ints -/
theorem for_lst {K : PySem.W.Frag} {a : Addr} {xs : List Int} {H0 H : Hp} {i : Nat} {tb : TS} {D : Ends} {σ : L2.St} (hS : SqL K H0 a (xs.map V.int)) (Pv : Nat → L2.St → Hp → Prop) (h0 : Pv 0 σ H) (hq : ∀ k σ H1, Pv k σ H1 → Same H0 H1)
    (hs : ∀ (k : Nat) (x : Int) (σ : L2.St) (H1 : Hp), xs[k]? = some x → Pv k σ H1 → tb { D with nx := Pv (k + 1), ct := Pv (k + 1), bk := D.nx } (σ.set i (some (.int x))) H1)
    (hd : ∀ σ H1, Pv xs.length σ H1 → D.nx σ H1) : forW (Itl K a) (gName i) tb D σ H := by
  have ex : ∀ k, k < xs.length → (xs.map V.int)[k]? = some (.int (xs.getD k 0)) := fun k hk => by
    rw [List.getElem?_map, List.getD_eq_getElem?_getD, List.getElem?_eq_getElem hk]
    rfl
  refine for_gen (n := xs.length) Pv h0 (fun k σ H1 hk p => ⟨_, _, (hq k σ H1 p).seq hS, ex k hk⟩) (fun σ H1 p => ⟨_, (hq _ σ H1 p).seq hS, by rw [List.length_map]; exact Nat.le_refl _⟩) ?_ hd
  intro k σ H1 x H2 hk p y
  obtain ⟨rfl, e⟩ := y
  have e2 := Option.some.inj ((e _ ((hq k σ _ p).seq hS)).symm.trans (ex k hk))
  subst e2
  refine hs k _ σ _ ?_ p
  rw [List.getD_eq_getElem?_getD, List.getElem?_eq_getElem hk]
  rfl
/-- for x in xs, any values -/
theorem for_vs {K : PySem.W.Frag} {a : Addr} {xs : List V} {H0 H : Hp} {i : Nat} {tb : TS} {D : Ends} {σ : L2.St} (hS : SqL K H0 a xs) (Pv : Nat → L2.St → Hp → Prop) (h0 : Pv 0 σ H) (hq : ∀ k σ H1, Pv k σ H1 → Same H0 H1)
    (hs : ∀ (k : Nat) (x : V) (σ : L2.St) (H1 : Hp), xs[k]? = some x → Pv k σ H1 → tb { D with nx := Pv (k + 1), ct := Pv (k + 1), bk := D.nx } (σ.set i (some x)) H1)
    (hd : ∀ σ H1, Pv xs.length σ H1 → D.nx σ H1) : forW (Itl K a) (gName i) tb D σ H := by
  refine for_gen (n := xs.length) Pv h0 (fun k σ H1 hk p => ⟨_, _, (hq k σ H1 p).seq hS, List.getElem?_eq_getElem hk⟩) (fun σ H1 p => ⟨_, (hq _ σ H1 p).seq hS, Nat.le_refl _⟩) ?_ hd
  intro k σ H1 x H2 hk p y
  obtain ⟨rfl, e⟩ := y
  exact hs k x σ _ (e _ ((hq k σ _ p).seq hS)) p
theorem pe_fld_K {X : Cx} {K : PySem.W.Frag} {e : Expr} {f : Str} {pos : Pos} {ta : TE} (h : X.K = K) (he : PE X e ta) (hb : attributeBase e f X.env (eval e X.env) = eval e X.env) : PE X (.Attribute e f pos) (tFld K ta f) := by
  subst h
  exact pe_fld he hb
/-! ### reads -/
theorem at_nat {xs : List Int} {i : Int} (h0 : 0 ≤ i) (h1 : i < xs.length) : atI (xs.map V.int) i = some (.int (xs.getD i.toNat 0)) := by
  have hk : i.toNat < xs.length := by omega
  rw [show i = ((i.toNat : Nat) : Int) by omega, List.getD_eq_getElem?_getD, Int.toNat_natCast, List.getElem?_eq_getElem hk]
  exact at_map (List.getElem?_eq_getElem hk)
theorem rd_at {K : PySem.W.Frag} {H : Hp} {a : Addr} {xs : List Int} {i : Int} {R : V → Prop} (h : SqL K H a (xs.map V.int)) (h0 : 0 ≤ i) (h1 : i < xs.length) (q : R (.int (xs.getD i.toNat 0))) : ∃ a' ys j v, V.ref a = .ref a' ∧ V.int i = .int j ∧ SqL K H a' ys ∧ atI ys j = some v ∧ R v := ⟨a, _, i, _, rfl, rfl, h, at_nat h0 h1, q⟩
theorem rd_atT {K : PySem.W.Frag} {H : Hp} {a : Addr} {xs : List Int} {i : Int} {R : V → Prop} (h : SqT K H a (xs.map V.int)) (h0 : 0 ≤ i) (h1 : i < xs.length) (q : R (.int (xs.getD i.toNat 0))) : ∃ a' ys j v, V.ref a = .ref a' ∧ V.int i = .int j ∧ SqT K H a' ys ∧ atI ys j = some v ∧ R v := ⟨a, _, i, _, rfl, rfl, h, at_nat h0 h1, q⟩
end Z
set_option Elab.async false
set_option linter.all false
set_option maxRecDepth 100000
set_option maxHeartbeats 4000000
namespace Z
open PySem PySem.Spec PyProof.Rows L2
/-! ### enumerate(x) of one argument: x a list, a tuple or a text -/
theorem enum_new1 {v : Value} {o : Obj} {G : Heap → Prop} (B : Begins v o G) :
    Meets (Builtin.«enumerate.__new__» ⟨[.type "enumerate", v], []⟩) (fun _ R s => G s.heap ∧
      R (.ok (.ret (.ref (s.heap.push o).objs.size))) { s with heap := (s.heap.push o).push { cls := .type "enumerate", data := .fields #[.none, .bool false, .ref s.heap.objs.size, rawInt 0, .none, .none] } }) :=
  .of_wp fun prog w A R s h => by
    obtain ⟨hp, gl, dd, tok, oo⟩ := s
    obtain ⟨g1, h⟩ := h
    have hsub := sub_enumerate
    have step : ∀ {A' : Around} {E : Value → Shared → Prop} {Q : Value → Shared → Prop}, Q (.ref hp.objs.size) ⟨hp.push o, gl, dd, tok, oo⟩ → wpAny (model prog w) A' (pyIter v) Q E ⟨hp, gl, dd, tok, oo⟩ := fun z => B.iter prog w _ _ ⟨hp, gl, dd, tok, oo⟩ _ g1 z
    wp_walk using step
    refine wpAny_stack_any fun _ => wpAny_pure ?_
    split
    · rename_i cc _ _ _ _ _
      cases (cc == Value.type "enumerate") <;>
        (wp_walk using step
         exact ⟨_, rfl, h⟩)
    · wp_walk using step
      exact ⟨_, rfl, h⟩
section
variable {prog : Program} {w : World} {A : Around} {E : Value → Shared → Prop} {s : Shared}
theorem enum_begins1 {v : Value} {o : Obj} {G : Heap → Prop} {Q : Value → Shared → Prop} (B : Begins v o G) (g : G s.heap)
    (h : ∀ h', IsEnum h' (s.heap.objs.size + 1) s.heap.objs.size 0 .none → h'.get? s.heap.objs.size = some o → (∀ b ob, s.heap.get? b = some ob → h'.get? b = some ob) → Q (.ref (s.heap.objs.size + 1)) { s with heap := h' }) :
    wpAny (model prog w) A (call (.type "enumerate") [v]) Q E s := by
  refine callType_new F.called_enumerate (by decide) (F.typeCall_enumerate_1 v) (F.newCall_enumerate_1 v) (fun ob => F.args_object_init_2 ob _) F.entry_enumerate_new (enum_new1 B) ⟨g, ?_⟩
  have sz : (s.heap.push o).objs.size = s.heap.objs.size + 1 := Heap.size_push ..
  show _ ∧ _
  rw [sz]
  have ie : IsEnum ((s.heap.push o).push { cls := .type "enumerate", data := .fields #[.none, .bool false, .ref s.heap.objs.size, rawInt 0, .none, .none] }) (s.heap.objs.size + 1) s.heap.objs.size 0 .none := by
    have z := Heap.get?_push_size (s.heap.push o) (o := { cls := .type "enumerate", data := .fields #[.none, .bool false, .ref s.heap.objs.size, rawInt 0, .none, .none] }) rfl
    rw [sz] at z
    exact z
  exact ⟨⟨_, ie, rfl⟩, h _ ie (Heap.get?_push_of_some _ (Heap.get?_push_size _ B.free)) fun b ob z => Heap.get?_push_of_some _ (Heap.get?_push_of_some _ z)⟩
end
/-- pairs of a turn's number and its item -/
def ItEM (p : Bool) (K : PySem.W.Frag) (a : Addr) : It :=
  ⟨fun i H => ∃ (xs : List V) (x : V), SqK p K H a xs ∧ xs[i]? = some x,
   fun i H v H' => ∃ T x, v = .ref T ∧ H T = none ∧ H' = upd H T (.tup [.int (i : Nat), x]) ∧ (∀ xs, SqK p K H a xs → xs[i]? = some x),
   fun i H => ∃ xs : List V, SqK p K H a xs ∧ xs.length = i⟩
def ItES (z : Str) : It :=
  ⟨fun i _ => i < z.cps.size,
   fun i H v H' => ∃ T c, v = .ref T ∧ H T = none ∧ H' = upd H T (.tup [.int (i : Nat), .str ⟨#[c]⟩]) ∧ z.cps[i]? = some c,
   fun i _ => z.cps.size = i⟩
theorem enum_item {X : Cx} {pins : List (Addr × Obj)} {σ : L2.St} {H : Hp} {s : Shared} {e it : Addr} {fp : List Addr} {n i : Nat} {Pi : Nat → Value → Prop} {Si : Nat → Heap → Prop} {old : Value} {elts : List Expr} {kk : Nat} {tpos : Pos} {E : Value → Shared → Prop}
    (I : Inv X pins σ H s) (hf : ∀ b ∈ [e, it], FpOk X pins H b) (D : Draws X.prog X.w X.A.in1 it fp n Pi Si) (he : IsEnum s.heap e it ((i : Nat) : Int) old) (st : Si i s.heap) (lt : i < n) (ne : e ≠ it) (ef : e ∉ fp)
    (x : V) (ru : ∀ v, Pi i v → L2.RelV x v) :
    wpAny (model X.prog X.w) X.A (pyNext (.ref e)) (fun r s1 => ∃ u, r = some u ∧ wpAny (model X.prog X.w) X.A (letOwnedTupleGo (.Tuple elts kk tpos) (.ref e) u) (fun _ s2 => ∃ T, u = .ref T ∧ H T = none ∧ Inv X pins σ (upd H T (.tup [.int (i : Nat), x])) s2 ∧ (∃ o, IsEnum s2.heap e it ((i + 1 : Nat) : Int) o) ∧ Si (i + 1) s2.heap ∧ ∀ b ∈ [e, it], upd H T (.tup [.int (i : Nat), x]) b = none) E s1) E s := by
  have el : e < s.heap.objs.size := Heap.lt_size he
  have il : it < s.heap.objs.size := by
    obtain ⟨_, z⟩ := D.live _ _ st
    exact Heap.lt_size z
  refine wpAny_pyNext_enum_itemC D he st lt ne ef fun v g tk pv go st' gT gs gk => ?_
  refine ⟨_, rfl, wpAny_letOwnedTupleGo_enum (s := { s with heap := g, toks := tk + 1 }) go fun g2 ge sb => ?_⟩
  have gT2 : g2.get? s.heap.objs.size = some { cls := .type "tuple", data := .seq #[.int i tk, v] } := (sb.2 _ (Nat.ne_of_gt el)).trans gT
  have nw : ObjOk X.prog X.w (upd H s.heap.objs.size (.tup [.int (i : Nat), x])) g2 s.heap.objs.size (.tup [.int (i : Nat), x]) := ⟨by show 2 ≤ sizeLine; decide, [.int i tk, v], .cons ⟨tk, rfl⟩ (.cons (ru v pv) .nil), ⟨_, gT2, rfl, _, rfl⟩⟩
  have I1 : Inv X pins σ (upd H s.heap.objs.size (.tup [.int (i : Nat), x])) { s with heap := g2, toks := tk + 1 } :=
    I.turnedNew (t' := tk + 1) (ch := [e, it]) (fun b ob nb z => (sb.2 b (fun w => nb (by simp [w]))).trans (gk b ob (fun w => nb (by simp [w])) (fun w => nb (by simp [w])) z)) hf (Nat.le_refl _) nw
  refine ⟨_, rfl, I.hok.fresh (Nat.le_refl _), I1, ⟨v, ?_⟩, D.frame _ _ _ st' fun b hb o z => (sb.2 b fun w => ef (w ▸ hb)).trans z, fun b hb => ?_⟩
  · rw [show ((i + 1 : Nat) : Int) = (i : Int) + 1 by omega]
    exact ge
  · have lb : b < s.heap.objs.size := by
      rcases (show b = e ∨ b = it by simpa using hb) with z | z
      · rw [z]
        exact el
      · rw [z]
        exact il
    rw [upd_ne (Nat.ne_of_lt lb)]
    exact (hf b hb).1
theorem enum_done {X : Cx} {pins : List (Addr × Obj)} {σ : L2.St} {H : Hp} {s : Shared} {e it : Addr} {fp : List Addr} {n : Nat} {Pi : Nat → Value → Prop} {Si : Nat → Heap → Prop} {old : Value} {c : Int} {E : Value → Shared → Prop}
    (I : Inv X pins σ H s) (hf : ∀ b ∈ [e, it], FpOk X pins H b) (D : Draws X.prog X.w X.A.in1 it fp n Pi Si) (he : IsEnum s.heap e it c old) (st : Si n s.heap) :
    wpAny (model X.prog X.w) X.A (pyNext (.ref e)) (fun r s1 => r = none ∧ Inv X pins σ H s1) E s := by
  obtain ⟨f0, f1, f2, f3, f4, f5⟩ := hf it (by simp)
  exact wpAny_pyNext_enum_endD D he st fun g gk => ⟨rfl, I.turned (t' := s.toks) (fun b o hb z => gk b o hb z) f0 f1 f3 f4 f5⟩
theorem turn_enumM {p : Bool} {P : Program} {w : World} {K : PySem.W.Frag} {elts : List Expr} {kk : Nat} {tpos : Pos} (a e it : Addr) (ea : e ≠ a) (ia : a ≠ it) :
    Turn P w K (.Tuple elts kk tpos) (ItEM p K a) [e, it] e (fun i h => (∃ old, IsEnum h e it ((i : Nat) : Int) old) ∧ ItK p h it a i ∧ e ≠ it) where
  mem := by simp
  obj := fun i h st b hb => by
    obtain ⟨⟨old, he⟩, hi, _⟩ := st
    rcases (show b = e ∨ b = it by simpa using hb) with z | z
    · rw [z]
      exact ⟨_, he, fun v q => nomatch q⟩
    · rw [z]
      exact hi.obj
  keep := fun i h h' st k => by
    obtain ⟨⟨old, he⟩, hi, ne⟩ := st
    exact ⟨⟨old, k e (by simp) _ he⟩, hi.at' (fun o z => k it (by simp) o z), ne⟩
  item := by
    intro X hP hw hK hc i pins s σ H E I hf st hg
    subst hP hw hK
    obtain ⟨⟨old, he⟩, hi, ne⟩ := st
    obtain ⟨xs, x, qx, ex⟩ := hg
    obtain ⟨us, rx, kx, _⟩ := sqk_is I qx
    obtain ⟨u, eu, ru⟩ := rx.get ex
    have lu : i < us.toArray.size := by simpa using (List.getElem?_eq_some_iff.mp eu).1
    have hh : X.A.in1.handled = none := I.ok.hd hc
    have key : ∀ v, us.toArray[i]? = some v → L2.RelV x v := fun v pv => by
      have t1 : us.toArray[i]? = some u := by simpa using eu
      have t2 : u = v := Option.some.inj (t1.symm.trans pv)
      exact t2 ▸ ru
    refine thn (enum_item (elts := elts) (kk := kk) (tpos := tpos) (E := E) I hf (drawsK p hh it a ia us.toArray) he ⟨hi, kx⟩ lu ne (by simp [ne, ea]) x key) fun r s1 hr => ?_
    obtain ⟨v, er, hv⟩ := hr
    refine ⟨v, er, thn hv fun _ s2 z => ?_⟩
    obtain ⟨T, eT, nT, I2, ie, si, fr⟩ := z
    subst eT
    exact ⟨.ref T, _, I2, rfl, ⟨T, x, rfl, nT, rfl, fun l hl => by rw [sqk_inj I hl qx]; exact ex⟩, ⟨ie, si.1, ne⟩, fr⟩
  done := by
    intro X hP hw hK hc i pins s σ H E I hf st hg
    subst hP hw hK
    obtain ⟨⟨old, he⟩, hi, ne⟩ := st
    obtain ⟨xs, qx, el⟩ := hg
    obtain ⟨us, rx, kx, _⟩ := sqk_is I qx
    have lx := rx.length
    have hh : X.A.in1.handled = none := I.ok.hd hc
    have hn : us.toArray.size = i := by
      rw [List.size_toArray]
      omega
    exact enum_done I hf (drawsK p hh it a ia us.toArray) he (by rw [hn]; exact ⟨hi, kx⟩)
  self := fun A i s Q E st h => by
    obtain ⟨⟨_, he⟩, _⟩ := st
    exact wpAny_pyIter_enum he h
def iEnumM (K : PySem.W.Frag) (ta : TA) : TI := fun σ H R => ta σ H fun vs H1 => ∃ p a xs, vs = [.ref a] ∧ SqK p K H1 a xs ∧ R (ItEM p K a) H1
theorem pi_enumM {X : Cx} {e : Expr} {ta : TA} {p pos tpos : Pos} {elts : List Expr} {kk : Nat} (hg : Gl X "enumerate") (hm : X.mg "enumerate" = none) (ha : PA X [e] ta) (hs : starEach [e] X.env = [(false, eval e X.env)] := by rfl) :
    PI X (.Tuple elts kk tpos) (.Call (.Name "enumerate" p) [e] [] pos) (iEnumM X.K ta) := by
  constructor
  intro pins s σ H R I h
  refine Call_ (ld_blt I hg hm PyProof.Rows.boot_enumerate (PyProof.Rows.callWith_type1 (thn (ha.run pos pins s σ H _ I h) fun us s1 ⟨vs, H1, I1, r1, q1⟩ => ?_) hs rfl))
  obtain ⟨k1, a, xs, ex, qx, q⟩ := q1
  subst ex
  cases r1 with
  | cons r rr =>
    cases rr
    cases r
    obtain ⟨i1, _, p1, lt1⟩ := sqk_is I1 qx
    obtain ⟨o1, G1, B1, g1, w1⟩ := begK p1
    refine enum_begins1 B1 g1 fun h' he e1 hk => wpAny_pyIter_enum he ?_
    have I2 : Inv X pins σ H1 { s1 with heap := h' } := I1.kept (t' := s1.toks) hk
    refine ⟨s1.heap.objs.size + 1, [s1.heap.objs.size + 1, s1.heap.objs.size], _, _, H1, rfl, I2, turn_enumM a (s1.heap.objs.size + 1) s1.heap.objs.size (Nat.ne_of_gt (Nat.lt_succ_of_lt lt1)) (Nat.ne_of_lt lt1), ⟨⟨.none, he⟩, w1 _ _ e1, Nat.succ_ne_self _⟩, fun b hb => ?_, q⟩
    have lb : s1.heap.objs.size ≤ b := by
      rcases (show b = s1.heap.objs.size + 1 ∨ b = s1.heap.objs.size by simpa using hb) with z | z
      · rw [z]
        exact Nat.le_add_right _ _
      · rw [z]
        exact Nat.le_refl _
    exact I1.fpOk lb (I1.hok.fresh lb)
/-! over a text -/
theorem drawsS {prog : Program} {w : World} {A : Around} (hh : A.handled = none) (it : Addr) (z : Str) (t : Tok) :
    Draws prog w A it [it] z.cps.size (fun i v => ∃ c u, z.cps[i]? = some c ∧ v = .str ⟨#[c]⟩ u) (fun i h => h.IsStrIter it (strIterType z) z t i) := by
  unfold strIterType
  cases z.cps.all (· < 128)
  · exact Draws.strWide hh it z t
  · exact Draws.strAscii hh it z t
theorem turn_enumS {P : Program} {w : World} {K : PySem.W.Frag} {elts : List Expr} {kk : Nat} {tpos : Pos} (z : Str) (t : Tok) (e it : Addr) :
    Turn P w K (.Tuple elts kk tpos) (ItES z) [e, it] e (fun i h => (∃ old, IsEnum h e it ((i : Nat) : Int) old) ∧ h.IsStrIter it (strIterType z) z t i ∧ e ≠ it) where
  mem := by simp
  obj := fun i h st b hb => by
    obtain ⟨⟨old, he⟩, ⟨o, eo, _, d⟩, _⟩ := st
    rcases (show b = e ∨ b = it by simpa using hb) with y | y
    · rw [y]
      exact ⟨_, he, fun v q => nomatch q⟩
    · rw [y]
      exact ⟨o, eo, fun v q => by rw [d] at q; cases q⟩
  keep := fun i h h' st k => by
    obtain ⟨⟨old, he⟩, ⟨o, eo, r⟩, ne⟩ := st
    exact ⟨⟨old, k e (by simp) _ he⟩, ⟨o, k it (by simp) o eo, r⟩, ne⟩
  item := by
    intro X hP hw hK hc i pins s σ H E I hf st hg
    subst hP hw hK
    obtain ⟨⟨old, he⟩, hi, ne⟩ := st
    have lt : i < z.cps.size := hg
    have hh : X.A.in1.handled = none := I.ok.hd hc
    have ec : z.cps[i]? = some z.cps[i] := Array.getElem?_eq_getElem lt
    refine thn (enum_item (elts := elts) (kk := kk) (tpos := tpos) (E := E) I hf (drawsS hh it z t) he hi lt ne (by simp [ne]) (.str ⟨#[z.cps[i]]⟩) (fun v pv => ?_)) fun r s1 hr => ?_
    · obtain ⟨c, u, e1, e2⟩ := pv
      rw [ec] at e1
      cases e1
      subst e2
      exact ⟨u, rfl⟩
    obtain ⟨v, er, hv⟩ := hr
    refine ⟨v, er, thn hv fun _ s2 y => ?_⟩
    obtain ⟨T, eT, nT, I2, ie, si, fr⟩ := y
    subst eT
    exact ⟨.ref T, _, I2, rfl, ⟨T, _, rfl, nT, rfl, ec⟩, ⟨ie, si, ne⟩, fr⟩
  done := by
    intro X hP hw hK hc i pins s σ H E I hf st hg
    subst hP hw hK
    obtain ⟨⟨old, he⟩, hi, ne⟩ := st
    have el : z.cps.size = i := hg
    have hh : X.A.in1.handled = none := I.ok.hd hc
    exact enum_done I hf (drawsS hh it z t) he (by rw [el]; exact hi)
  self := fun A i s Q E st h => by
    obtain ⟨⟨_, he⟩, _⟩ := st
    exact wpAny_pyIter_enum he h
def iEnumS (ta : TA) : TI := fun σ H R => ta σ H fun vs H1 => ∃ z, vs = [.str z] ∧ R (ItES z) H1
theorem pi_enumS {X : Cx} {e : Expr} {ta : TA} {p pos tpos : Pos} {elts : List Expr} {kk : Nat} (hg : Gl X "enumerate") (hm : X.mg "enumerate" = none) (ha : PA X [e] ta) (hs : starEach [e] X.env = [(false, eval e X.env)] := by rfl) :
    PI X (.Tuple elts kk tpos) (.Call (.Name "enumerate" p) [e] [] pos) (iEnumS ta) := by
  constructor
  intro pins s σ H R I h
  refine Call_ (ld_blt I hg hm PyProof.Rows.boot_enumerate (PyProof.Rows.callWith_type1 (thn (ha.run pos pins s σ H _ I h) fun us s1 ⟨vs, H1, I1, r1, q1⟩ => ?_) hs rfl))
  obtain ⟨z, ex, q⟩ := q1
  subst ex
  cases r1 with
  | cons r rr =>
    cases rr
    obtain ⟨t, rfl⟩ := r
    refine enum_begins1 (begins_text z t) trivial fun h' he e1 hk => wpAny_pyIter_enum he ?_
    have I2 : Inv X pins σ H1 { s1 with heap := h' } := I1.kept (t' := s1.toks) hk
    refine ⟨s1.heap.objs.size + 1, [s1.heap.objs.size + 1, s1.heap.objs.size], _, _, H1, rfl, I2, turn_enumS z t (s1.heap.objs.size + 1) s1.heap.objs.size, ⟨⟨.none, he⟩, ⟨_, e1, rfl, rfl⟩, Nat.succ_ne_self _⟩, fun b hb => ?_, q⟩
    have lb : s1.heap.objs.size ≤ b := by
      rcases (show b = s1.heap.objs.size + 1 ∨ b = s1.heap.objs.size by simpa using hb) with y | y
      · rw [y]
        exact Nat.le_add_right _ _
      · rw [y]
        exact Nat.le_refl _
    exact I1.fpOk lb (I1.hok.fresh lb)
end Z
set_option Elab.async false
set_option linter.all false
set_option maxRecDepth 100000
set_option maxHeartbeats 4000000
namespace Z
open PySem PySem.Spec PyProof.Rows L2
/-! ### walks over a list (true) or a tuple (false) -/
inductive SeqOr (A B : Prop) : Prop
  | l : A → SeqOr A B
  | r : B → SeqOr A B
def iSeq (K : PySem.W.Frag) (tl : TE) : TI := fun σ H R => SeqOr (iList K tl σ H R) (iTup K tl σ H R)
theorem pi_sq {X : Cx} {tg l : Expr} {tl : TE} (he : PE X l tl) : PI X tg l (iSeq X.K tl) := by
  constructor
  intro pins s σ H R I h
  rcases h with h | h
  · exact (pi_list he).run pins s σ H R I h
  · exact (pi_tup he).run pins s σ H R I h
theorem pi_sq_K {X : Cx} {K : PySem.W.Frag} {tg l : Expr} {tl : TE} (h : X.K = K) (he : PE X l tl) : PI X tg l (iSeq K tl) := by
  subst h
  exact pi_sq he
theorem pi_list_K {X : Cx} {K : PySem.W.Frag} {tg l : Expr} {tl : TE} (h : X.K = K) (he : PE X l tl) : PI X tg l (iList K tl) := by
  subst h
  exact pi_list he
theorem pi_tup_K {X : Cx} {K : PySem.W.Frag} {tg l : Expr} {tl : TE} (h : X.K = K) (he : PE X l tl) : PI X tg l (iTup K tl) := by
  subst h
  exact pi_tup he
def ItQ (b : Bool) (K : PySem.W.Frag) (a : Addr) : It := match b with
  | true => Itl K a
  | false => Itt K a
theorem itq_go {b : Bool} {K : PySem.W.Frag} {H : Hp} {a : Addr} {xs : List V} {i : Nat} {x : V} (h : SqK b K H a xs) (e : xs[i]? = some x) : (ItQ b K a).go i H := by
  cases b <;> exact ⟨_, _, h, e⟩
theorem itq_stop {b : Bool} {K : PySem.W.Frag} {H : Hp} {a : Addr} {xs : List V} {i : Nat} (h : SqK b K H a xs) (e : xs.length ≤ i) : (ItQ b K a).stop i H := by
  cases b <;> exact ⟨_, h, e⟩
theorem itq_yld {b : Bool} {K : PySem.W.Frag} {H H' : Hp} {a : Addr} {xs : List V} {i : Nat} {x : V} (h : SqK b K H a xs) (y : (ItQ b K a).yld i H x H') : H' = H ∧ xs[i]? = some x := by
  cases b <;> exact ⟨y.1, y.2 _ h⟩
theorem rd_sq {b : Bool} {K : PySem.W.Frag} {σ : L2.St} {H : Hp} {i : Nat} {a : Addr} {xs : List V} {R : It → Hp → Prop} (e : σ[i]? = some (some (.ref a))) (h : SqK b K H a xs) (r : R (ItQ b K a) H) : iSeq K (tVar i) σ H R := by
  cases b
  · exact .r ⟨_, e, a, rfl, ⟨xs, h⟩, r⟩
  · exact .l ⟨_, e, a, rfl, ⟨xs, h⟩, r⟩
theorem lc_sq {b : Bool} {K : PySem.W.Frag} {a D : Addr} {xs : List Int} {H0 : Hp} {i : Nat} {te : TE} {vs : List Nat} {σ : L2.St} {Qd : Hp → Prop} (hS : SqK b K H0 a (xs.map V.int)) (g : Int → Int) (hn : xs.length ≤ 1000000) (nD : H0 D = none) (hw : ∀ x : Int, wipe ((wipe σ vs).set i (some (.int x))) vs = wipe σ vs)
    (ht : ∀ x H1 (Q : VK), x ∈ xs → Same H0 H1 → (∀ H2, Same H1 H2 → Q (.int (g x)) H2) → te ((wipe σ vs).set i (some (.int x))) H1 Q)
    (hd : ∀ H1, Same H0 H1 → H1 D = some (.lst ((xs.map g).map V.int)) → Qd H1) : lcW (ItQ b K a) (gName i) tYes te vs σ D Qd H0 := by
  have ex : ∀ k, k < xs.length → (xs.map V.int)[k]? = some (.int (xs.getD k 0)) := fun k hk => by
    rw [List.getElem?_map, List.getD_eq_getElem?_getD, List.getElem?_eq_getElem hk]
    rfl
  refine lc_ofs (K := K) (n := xs.length) (fun k => g (xs.getD k 0)) (fun k => .int (xs.getD k 0)) hn nD (fun k H1 hk s => itq_go (Z.Same.sqK s hS) (ex k hk)) (fun H1 s => itq_stop (Z.Same.sqK s hS) (by rw [List.length_map]; exact Nat.le_refl _)) (fun k H1 x H2 hk s y => ?_) (fun k => hw _) (fun k H1 Q hk s q => ht _ H1 Q ?_ s q) (fun H1 s e => hd H1 s ?_)
  · obtain ⟨e1, e2⟩ := itq_yld (Z.Same.sqK s hS) y
    exact ⟨e1, Option.some.inj (e2.symm.trans (ex k hk))⟩
  · rw [List.getD_eq_getElem?_getD, List.getElem?_eq_getElem hk]
    exact List.getElem_mem hk
  · rw [e]
    congr 2
    congr 1
    apply List.ext_getElem
    · rw [List.length_map, List.length_map, List.length_range]
    · intro k h1 h2
      rw [List.length_map] at h2
      rw [List.getElem_map, List.getElem_map, List.getElem_range, List.getD_eq_getElem?_getD, List.getElem?_eq_getElem h2]
      rfl
/-- for x in xs, any values -/
theorem for_sq {b : Bool} {K : PySem.W.Frag} {a : Addr} {xs : List V} {H0 H : Hp} {i : Nat} {tb : TS} {D : Ends} {σ : L2.St} (hS : SqK b K H0 a xs) (Pv : Nat → L2.St → Hp → Prop) (h0 : Pv 0 σ H) (hq : ∀ k σ H1, Pv k σ H1 → Same H0 H1)
    (hs : ∀ (k : Nat) (x : V) (σ : L2.St) (H1 : Hp), xs[k]? = some x → Pv k σ H1 → tb { D with nx := Pv (k + 1), ct := Pv (k + 1), bk := D.nx } (σ.set i (some x)) H1)
    (hd : ∀ σ H1, Pv xs.length σ H1 → D.nx σ H1) : forW (ItQ b K a) (gName i) tb D σ H := by
  refine for_gen (n := xs.length) Pv h0 (fun k σ H1 hk p => itq_go (Z.Same.sqK (hq k σ H1 p) hS) (List.getElem?_eq_getElem hk)) (fun σ H1 p => itq_stop (Z.Same.sqK (hq _ σ H1 p) hS) (Nat.le_refl _)) ?_ hd
  intro k σ H1 x H2 hk p y
  obtain ⟨rfl, e⟩ := itq_yld (Z.Same.sqK (hq k σ H1 p) hS) y
  exact hs k x σ _ e p
/-- for i, x in enumerate(xs) -/
theorem for_enum {b : Bool} {K : PySem.W.Frag} {a : Addr} {xs : List V} {H0 H : Hp} {i j : Nat} {tb : TS} {D : Ends} {σ : L2.St} (hS : SqK b K H0 a xs) (Pv : Nat → L2.St → Hp → Prop) (h0 : Pv 0 σ H) (hq : ∀ k σ H1, Pv k σ H1 → Same H0 H1)
    (hs : ∀ (k : Nat) (x : V) (σ : L2.St) (H1 H2 : Hp), xs[k]? = some x → Pv k σ H1 → Same H1 H2 → tb { D with nx := Pv (k + 1), ct := Pv (k + 1), bk := D.nx } ((σ.set i (some (.int (k : Nat)))).set j (some x)) H2)
    (hd : ∀ σ H1, Pv xs.length σ H1 → D.nx σ H1) : forW (ItEM b K a) (gTup K 2 (gCons (gName i) (gCons (gName j) gNil))) tb D σ H := by
  refine for_gen (n := xs.length) Pv h0 (fun k σ H1 hk p => ⟨xs, _, Z.Same.sqK (hq k σ H1 p) hS, List.getElem?_eq_getElem hk⟩) (fun σ H1 p => ⟨xs, Z.Same.sqK (hq _ σ H1 p) hS, rfl⟩) ?_ hd
  intro k σ H1 x H2 hk p y
  obtain ⟨T, z, rfl, nT, rfl, e⟩ := y
  exact ⟨T, _, rfl, SqT.of upd_same, rfl, _, _, rfl, _, _, rfl, rfl, hs k z σ H1 _ (e _ (Z.Same.sqK (hq k σ H1 p) hS)) p (same_new nT)⟩
/-- for i, c in enumerate(text) -/
theorem for_enumS {K : PySem.W.Frag} {z : Str} {H : Hp} {i j : Nat} {tb : TS} {D : Ends} {σ : L2.St} (Pv : Nat → L2.St → Hp → Prop) (h0 : Pv 0 σ H)
    (hs : ∀ (k : Nat) (c : Nat) (σ : L2.St) (H1 H2 : Hp), z.cps[k]? = some c → Pv k σ H1 → Same H1 H2 → tb { D with nx := Pv (k + 1), ct := Pv (k + 1), bk := D.nx } ((σ.set i (some (.int (k : Nat)))).set j (some (.str ⟨#[c]⟩))) H2)
    (hd : ∀ σ H1, Pv z.cps.size σ H1 → D.nx σ H1) : forW (ItES z) (gTup K 2 (gCons (gName i) (gCons (gName j) gNil))) tb D σ H := by
  refine for_gen (n := z.cps.size) Pv h0 (fun k σ H1 hk p => hk) (fun σ H1 p => rfl) ?_ hd
  intro k σ H1 x H2 hk p y
  obtain ⟨T, c, rfl, nT, rfl, e⟩ := y
  exact ⟨T, _, rfl, SqT.of upd_same, rfl, _, _, rfl, _, _, rfl, rfl, hs k c σ H1 _ e p (same_new nT)⟩
/-! ### built-ins within a comprehension's block -/
theorem cr_min_K {X : Cx} {K : PySem.W.Frag} (h : X.K = K) (hc : X.calm = true) : CallR X (.builtin "min") (rMin K) := by
  subst h
  exact cr_min hc
theorem cr_max_K {X : Cx} {K : PySem.W.Frag} (h : X.K = K) (hc : X.calm = true) : CallR X (.builtin "max") (rMax K) := by
  subst h
  exact cr_max hc
theorem cr_sum_K {X : Cx} {K : PySem.W.Frag} (h : X.K = K) (hc : X.calm = true) : CallR X (.builtin "sum") (rSum K) := by
  subst h
  exact cr_sum hc
theorem cr_all_K {X : Cx} {K : PySem.W.Frag} (h : X.K = K) (hc : X.calm = true) : CallR X (.builtin "all") (rAll K) := by
  subst h
  exact cr_all hc
theorem cr_any_K {X : Cx} {K : PySem.W.Frag} (h : X.K = K) (hc : X.calm = true) : CallR X (.builtin "any") (rAny K) := by
  subst h
  exact cr_any hc
/-! ### comprehensions with a test, any values -/
def fltL (kb : Nat → Bool) (g : Nat → V) (n : Nat) : List V := ((List.range n).filter kb).map g
theorem flt_succ (kb : Nat → Bool) (g : Nat → V) (n : Nat) : fltL kb g (n + 1) = fltL kb g n ++ (if kb n then [g n] else []) := by
  unfold fltL
  rw [List.range_succ, List.filter_append, List.map_append]
  cases e : kb n <;> simp [e]
theorem flt_len (kb : Nat → Bool) (g : Nat → V) (n : Nat) : (fltL kb g n).length ≤ n := by
  unfold fltL
  rw [List.length_map]
  exact Nat.le_trans (List.length_filter_le ..) (by rw [List.length_range]; exact Nat.le_refl _)
theorem lc_flt {J : It} {D : Addr} {n : Nat} {H0 : Hp} {i : Nat} {tt : TT} {te : TE} {vs : List Nat} {σ : L2.St} {Qd : Hp → Prop} (xv : Nat → V) (kb : Nat → Bool) (g : Nat → V) (hn : n ≤ 1000000) (nD : H0 D = none)
    (hgo : ∀ k H1, k < n → Same H0 H1 → J.go k H1) (hst : ∀ H1, Same H0 H1 → J.stop n H1) (hy : ∀ k H1 x H2, k < n → Same H0 H1 → J.yld k H1 x H2 → Same H1 H2 ∧ x = xv k)
    (hw : ∀ k, wipe ((wipe σ vs).set i (some (xv k))) vs = wipe σ vs)
    (hb : ∀ k H1 (Q : Bool → Hp → Prop), k < n → Same H0 H1 → (∀ H2, Same H1 H2 → Q (kb k) H2) → tt ((wipe σ vs).set i (some (xv k))) H1 Q)
    (ht : ∀ k H1 (Q : VK), k < n → kb k = true → Same H0 H1 → (∀ H2, Same H1 H2 → Q (g k) H2) → te ((wipe σ vs).set i (some (xv k))) H1 Q)
    (hd : ∀ H1, Same H0 H1 → H1 D = some (.lst (fltL kb g n)) → Qd H1) : lcW J (gName i) tt te vs σ D Qd H0 := by
  refine lc_gen (n := n) (fun k H1 => Same H0 H1 ∧ H1 D = some (.lst (fltL kb g k))) ⟨same_new nD, upd_same⟩ (fun k H1 hk p => hgo k H1 hk p.1) (fun H1 p => hst H1 p.1) ?_ (fun H1 p => hd H1 p.1 p.2)
  rintro k H1 x H2 hk ⟨s, e⟩ y
  obtain ⟨s2, rfl⟩ := hy k H1 x H2 hk s y
  refine ⟨hw k, ?_⟩
  refine hb k _ _ hk (s.trans s2) (fun H3 s3 => ?_)
  cases eb : kb k
  · rw [if_neg (by decide)]
    refine ⟨s.trans (s2.trans s3), ?_⟩
    rw [flt_succ, eb]
    simpa using s3 _ _ (s2 _ _ e)
  · rw [if_pos rfl]
    refine ht k _ _ hk eb (s.trans (s2.trans s3)) (fun H4 s4 => ⟨_, s4 _ _ (s3 _ _ (s2 _ _ e)), ?_, Z.Same.mut (s.trans (s2.trans (s3.trans s4))) nD, ?_⟩)
    · exact Nat.lt_of_le_of_lt (flt_len kb g k) (Nat.lt_of_lt_of_le hk (Nat.le_trans hn (by decide)))
    · rw [upd_same, flt_succ, eb]
      rfl
end Z
set_option Elab.async false
set_option linter.all false
set_option maxRecDepth 100000
set_option maxHeartbeats 4000000
namespace Z
open PySem PySem.Spec PyProof.Rows L2
/-! ### o.f as one of several targets -/
theorem asg_attr {M : Model} {A : Around} {E : Value → Shared → Prop} {s : Shared} {o : Expr} {attr : Str} {pos : Pos} {env : Env} {v : Value} {Q : Unit → Shared → Prop}
    (h : wpAny M A (eval o env) (fun ov s2 => wpAny M A (setAttr ov attr v) (fun _ => Q ()) E s2) E s) : wpAny M A (assign (.Attribute o attr pos) env v) Q E s := fun Γ p hΓ => by
  simp only [assign_Attribute, Sem.wp_bind', Sem.wp_holding, Sem.wp_cmd_standAt, Sem.wp_release, Sem.wp_pure']
  exact Sem.wp_mono M Γ _ (fun ov _ s2 h2 => h2 Γ _ hΓ) (fun _ _ _ z => z) _ _ (h Γ _ hΓ)
def gFld (K : PySem.W.Frag) (ta : TE) (f : Str) : TG := fun v σ H Q => ta σ H fun x H1 => ∃ a C dx fs, x = .ref a ∧ H1 a = some (.ins C dx fs) ∧ Cls K C ∧ NoAttr K C f ∧ fs.length < 1000 ∧ Q σ (upd H1 a (.ins C dx (putF f v fs)))
theorem pg_fld {X : Cx} {o : Expr} {f : Str} {pos : Pos} {ta : TE} (ha : PE X o ta) : PG X (.Attribute o f pos) (gFld X.K ta f) := by
  constructor
  intro pins s σ H v u Q I r h
  refine asg_attr (thn (ha.run pins s σ H _ I h) fun ov s1 ⟨x, H1, I1, rx, a, C, dx, fs, ex, ea, c, n, l, q⟩ => ?_)
  subst ex
  obtain rfl : ov = Value.ref a := rx
  exact setattr_ok I1 ea c n l r fun s2 I2 => ⟨σ, _, I2, q⟩
/-! ### a if c else b as a test -/
def tIfT (tc ta tb : TT) : TT := fun σ H Q => tc σ H fun k H1 => if k = true then ta σ H1 Q else tb σ H1 Q
theorem pt_ifExp {X : Cx} {c a b : Expr} {pos : Pos} {tc ta tb : TT} (hc : PT X c tc) (ha : PT X a ta) (hb : PT X b tb) : PT X (.IfExp c a b pos) (tIfT tc ta tb) := by
  constructor
  intro pins s σ H Q I h
  refine PyProof.Rows.isTrue_IfExp (thn (hc.run pins s σ H _ I h) fun d s1 ⟨H1, I1, q1⟩ => ?_)
  cases d with
  | true => exact ha.run pins s1 σ H1 Q I1 q1
  | false => exact hb.run pins s1 σ H1 Q I1 q1
end Z
set_option Elab.async false
set_option linter.all false
set_option maxRecDepth 100000
set_option maxHeartbeats 4000000
namespace Z
open PySem PySem.Spec PyProof PyProof.Rows L2 F
/-! ### len(x), x an instance of a class with __len__ -/
structure LenO (P : Program) (w : World) (K : PySem.W.Frag) (mg : Str → Option Value) (base : Heap) (k : Nat) (C : Addr) (sp : Sp) : Prop where
  ex : ∃ (f : Addr) (fd : FuncData) (ps : List Str), FnOk P w K mg base CX0 k f fd ps sp ∧ PySem.W.findIn K (.ref C) "__len__" = some (some (.ref f)) ∧ PySem.W.isFn K (.ref f) = true ∧ Binds K fd ps []
def rLenO (C : Addr) (sp : Sp) : List V → Hp → VK → Prop := fun xs H Q => ∃ a dx fs, xs = [.ref a] ∧ H a = some (.ins C dx fs) ∧ sp [.ref a] H (fun v H' => ∃ n : Int, v = .int n ∧ 0 ≤ n ∧ n < 2 ^ 63 ∧ Q (.int n) H') E0
theorem call_lenO {X : Cx} {k j : Nat} {C : Addr} {sp : Sp} (c : LenO X.prog X.w X.K X.mg X.base k C sp) (hr : Room j X.A) (hk : k + 1 ≤ j) : CallR X (.builtin "len") (rLenO C sp) := by
  intro pins s σ H xs us Q I r h
  obtain ⟨f, fd, ps, F, hs, hf, hb⟩ := c.ex
  obtain ⟨a, dx, fs, rfl, ha, q⟩ := h
  obtain ⟨u, rfl, ru⟩ := vals1 r
  obtain rfl : u = Value.ref a := ru
  obtain ⟨mA, J, _⟩ := ins_get I.hok ha
  obtain ⟨od, J, _⟩ := J.look
  refine Calls.call_function_entry kind_len plain_len entry_len (args_len1 _) ?_
  unfold Builtin.«len»
  refine wpAny_bind (m := oneArg "len" _) (wpAny_pure ?_)
  have e0 : Env0 X.prog X.w X.K X.mg X.base X.A.in1 X.stack s H := by
    have e := I.env0
    exact ⟨e.frames, e.mod, e.bs, e.bsz, e.funs, e.frf, e.hok, e.bare⟩
  refine wpAny_bind (m := callSpecial? (.ref a) (PySem.Str.ofString "__len__")) (PySem.W.special_fn (name := "__len__") (args := []) I.kIn J hs (beq_iff_eq.mp hf) ?_)
  have hl := F.len _ _ _ _ q
  refine wpAny_call (codeAny_mono (F.run X.A.in1 X.stack s H ⟨[.ref a], []⟩ [.ref a] [.ref a] _ E0 (hr.mono hk).in1 e0 (by
    have := hb s [.ref a] I.kIn (by simpa using hl)
    simpa using this) (.cons rfl .nil) q) fun r s' hq => ?_)
  cases r with
  | error e => exact pass0 pins σ H s e s' I hq
  | ok fl =>
    cases fl with
    | next => exact False.elim hq
    | brk => exact False.elim hq
    | cont => exact False.elim hq
    | ret u =>
      obtain ⟨v, H1, I1, rv, n, rfl, h0, h1, q1⟩ := I.after hq
      obtain ⟨t, rfl⟩ := rv
      refine wpAny_bind (wpAny_holding (wpAny_pure ?_))
      refine wpAny_bind (wpAny_letGo ?_)
      show wpAny _ _ (if n < 0 then _ else _) _ _ _
      rw [if_neg (by omega)]
      show wpAny _ _ (if n ≥ 2 ^ 63 then _ else _) _ _ _
      rw [if_neg (by omega)]
      exact wpAny_bind (wpAny_mkInt (wpAny_pure ⟨_, rfl, .int n, H1, I1.tok _, ⟨_, rfl⟩, q1⟩))
end Z
set_option Elab.async false
set_option linter.all false
set_option maxRecDepth 100000
set_option maxHeartbeats 4000000
namespace L2N
open PySem PySem.Spec PyProof.Rows L2
/-! ### several clauses `except c as n` -/
/-- a clause: its class, the slot of its name, its suite's reading -/
abbrev Cl := Value × Nat × (Addr → Value → Option Addr → TS)
def wManyA (K : PySem.W.Frag) (Wout : WX) (D : Ends) : List Cl → WX
  | [] => Wout
  | h :: r => wAs K h.1 h.2.1 h.2.2 (wManyA K Wout D r) D
inductive HdsA (X : Cx) : List ExceptHandler → List Cl → Prop
  | nil : HdsA X [] []
  | cons {x n : Str} {c : Value} {i : Nat} {ts : Addr → Value → Option Addr → TS} {b₀ : Stmt} {suite : List Stmt} {np pos' : Pos} {hds : List ExceptHandler} {l : List Cl} (hi : X.N[i]? = some n) (hln : X.env.kindOf n = some .local) (hc : Names X x c)
      (hsu : ∀ (a : Addr) (oe : Obj) (cls : Value) (d : Option Addr) (pn : List (Addr × Obj)), Zn cls d oe → (∃ vs, oe.data = .fields vs) → PSs (X.suite a ((a, oe) :: pn)) (b₀ :: suite) (ts a cls d)) (r : HdsA X hds l) :
      HdsA X (.ExceptHandler (some (.Name x np)) (some n) (b₀ :: suite) pos' :: hds) ((c, i, ts) :: l)
section
variable {X : Cx} {body : List Stmt} {h₀ : ExceptHandler} {hds : List ExceptHandler} {l : List Cl} {pos : Pos} {tb : WX → TS} {Wout : WX}
theorem ps_try_manyA (hs : X.stack = X.env :: X.outer) (hf : X.env.frame = some X.env.locals) (hN : X.N.Nodup) (tk : Takes X Wout)
    (hb : ∀ (W : WX) (pn : List (Addr × Obj)) (xe : Value → Shared → Prop), Takes (X.tr pn xe) W → PassesOwn (model X.prog X.w) X.A X.env xe → PSs (X.tr pn xe) body (tb W))
    (hh : HdsA X (h₀ :: hds) l) : PS X (.Try body (h₀ :: hds) [] [] pos) (fun D σ H => tb (wManyA X.K Wout D l) D σ H) := by
  refine ⟨fun pins s σ H D I h => ?_⟩
  have ok := I.ok
  have hfr : X.A.frames = some (X.env :: X.outer) := by rw [ok.frames, hs]
  have calm : ∀ (f : Flow) (s1 : Shared) , SP (X.tr (X.pn ++ pins) (fun e s₁ => wpAny (model X.prog X.w) X.A (noteFrame e X.env) (fun _ s₂ => wpAny (model X.prog X.w) X.A (setFlight e none) (fun _ s₃ =>
      wpAny (model X.prog X.w) X.A (handleBy e X.env (h₀ :: hds)) (SP X pins D) X.xe s₃) X.xe s₂) X.xe s₁)) [] D f s1 → SP X pins D f s1 := fun f s1 hsp => by
    cases f with
    | next =>
      obtain ⟨σ', H', J', q⟩ := hsp
      exact ⟨σ', H', J'.ofTry ok, q⟩
    | brk =>
      obtain ⟨σ', H', J', q⟩ := hsp
      exact ⟨σ', H', J'.ofTry ok, q⟩
    | cont =>
      obtain ⟨σ', H', J', q⟩ := hsp
      exact ⟨σ', H', J'.ofTry ok, q⟩
    | ret u =>
      obtain ⟨v, σ', H', J', r, q⟩ := hsp
      exact ⟨v, σ', H', J'.ofTry ok, r, q⟩
  refine wpAny_Try_except ?_
  refine wpAny_mono ((hb (wManyA X.K Wout D l) (X.pn ++ pins) (fun e s₁ => wpAny (model X.prog X.w) X.A (noteFrame e X.env) (fun _ s₂ => wpAny (model X.prog X.w) X.A (setFlight e none) (fun _ s₃ =>
    wpAny (model X.prog X.w) X.A (handleBy e X.env (h₀ :: hds)) (SP X pins D) X.xe s₃) X.xe s₂) X.xe s₁) (fun u s' xx => ?_) PassesOwn.looking).run [] s σ H D (I.toTry _) h) (fun f s1 hsp => ?_) (fun e s1 he => he)
  · obtain ⟨a, B, sI, pins', σ', H', cls, d, rfl, J', nb, up, sky, na, os, ag, w⟩ := xx
    have J : Inv X pins σ' H' sI := J'.ofTry ok
    have sky' : Sky B (X.env :: X.outer) a (Zn cls d) X.env.locals s'.heap := by rw [← hs]; exact sky
    show wpAny (model X.prog X.w) X.A (noteFrame (.ref a) X.env) _ _ _
    refine Sky.land Zn.steady hfr hf sky' fun h3 fl3 up3 => ?_
    have J3 : Inv X pins σ' H' { s' with heap := h3 } := J.landed nb fl3.1 (up.trans up3) os ag
    obtain ⟨oe3, vs3, he3, hz3, hd3⟩ := fl3.there
    have nfr : a ∉ frs (X.env :: X.outer) := fun hm => by
      obtain ⟨_, o', e', hnf⟩ := fl3.2.2.1.mem hm
      rw [he3] at e'
      cases e'
      exact hnf _ hd3
    have nL : a ≠ X.env.locals := fun z => nfr (List.mem_filterMap.mpr ⟨X.env, List.mem_cons_self, by rw [hf, z]⟩)
    have nF : a ∉ X.fs := fun hm => by
      obtain ⟨e, he, q⟩ := List.mem_filterMap.mp hm
      exact nfr (List.mem_filterMap.mpr ⟨e, List.mem_cons_of_mem _ he, q⟩)
    have S3 := J3.suite he3 hd3 na nL nF
    have go : ∀ {hds' : List ExceptHandler} {l' : List Cl}, HdsA X hds' l' → wManyA X.K Wout D l' cls d σ' H' →
        wpAny (model X.prog X.w) X.A (handleBy (.ref a) X.env hds') (SP X pins D) X.xe { s' with heap := h3 } := by
      intro hds' l' hk
      induction hk with
      | nil =>
        intro w
        refine wpAny_handleBy_nil ?_
        obtain ⟨k1, k2, k3, oe, vs, T, oT, ts', he, hz, hd, h1, hr⟩ := id fl3
        unfold PySem.passOn
        refine wpAny_bind (wpAny_field he hd h1 ?_)
        rw [if_neg (show ¬ ((Value.ref T == Value.none) = true) from by simp)]
        have fin : wpAny (model X.prog X.w) X.A (setFlight (.ref a) X.env.frame) (fun _ s4 => wpAny (model X.prog X.w) X.A (throw (.ref a) : Sem Flow) (SP X pins D) X.xe s4) X.xe { s' with heap := h3 } := by
          rw [hf]
          refine HandSPX.setFlight_upZ fl3 fun h4 hh4 up4 => wpAny_throw (tk _ _ ?_)
          exact ⟨a, B, sI, pins, σ', H', cls, d, rfl, J, nb, (up.trans up3).trans up4, .inr (.inr (by rw [hs]; exact hh4)), na, os, ag, w⟩
        first
          | exact wpAny_bind (wpAny_pure (wpAny_bind fin))
          | exact wpAny_bind fin
      | @cons x n c i ts b₀ suite np pos' hds2 l2 hi hln hc hsu r ih =>
        intro w
        obtain ⟨b, hb1, hyes, hno⟩ := w
        have hloc : Loc X.env.scope n := .inl hln
        refine wpAny_handleBy_cons (codeAny_handlers_test ?_) (by intro q; cases q)
        have LT : PySem.W.Looks (model X.prog X.w) h3 (typeOf (.ref a)) cls := fun A Q E s k q => wpAny_typeOf_ref (k _ _ he3) (by rw [hz3.1]; exact q)
        have LM := PySem.W.exm_one (M := model X.prog X.w) (J3.kIn) LT hb1
        have test : ∀ {Q : Value → Shared → Prop} {E : Value → Shared → Prop}, Q c { s' with heap := h3 } → wpAny (model X.prog X.w) (X.A.mark (some (.ref a))) (eval (.Name x np) X.env) Q E { s' with heap := h3 } := fun {Q E} q => by
          obtain ⟨hg, hdbg, hm | ⟨hm, hv, hnn⟩⟩ := hc
          · exact ld_glob (X := X.suite a ((a, oe3) :: (X.pn ++ pins))) S3 hg hm q hdbg
          · exact ld_blt (X := X.suite a ((a, oe3) :: (X.pn ++ pins))) S3 hg hm hv q hnn hdbg
        refine test (LM.here ?_)
        cases b with
        | true =>
          refine codeAny_handlers_suite_as ?_
          refine HandSPX.lands_againZ fl3 fun h4 fl4 up4 => ?_
          have J4 : Inv X pins σ' H' { s' with heap := h4 } := J.landed nb fl4.1 ((up.trans up3).trans up4) os ag
          obtain ⟨oe4, vs4, he4, hz4, hd4⟩ := fl4.there
          have S4 := J4.suite he4 hd4 na nL nF
          refine store_ok (X := X.suite a ((a, oe4) :: (X.pn ++ pins))) (v := .ref a) S4 hN hi hloc rfl (fun s5 S5 => ?_) (.inr hln)
          refine wpAny_mono ((hsu a oe4 cls d (X.pn ++ pins) hz4 ⟨_, hd4⟩).run [] s5 _ H' _ S5 (hyes rfl a na)) (fun f s6 hsp => ?_) (fun _ _ z => False.elim z)
          have end_ : ∀ {σ6 : L2.St} {H6 : Hp} {Q : Shared → Prop}, Inv (X.suite a ((a, oe4) :: (X.pn ++ pins))) [] σ6 H6 s6 → (∀ s7, Inv X pins (σ6.set i none) H6 s7 → Q s7) →
              wpAny (model X.prog X.w) X.A (do bindName X.env n .none; unbindBehindTheSuite X.env n pos') (fun _ s7 => Q s7) X.xe s6 := fun {σ6 H6 Q} S6 hq => gone_ok (S6.unsuite ok) hN hi hln hq
          cases f with
          | next =>
            obtain ⟨σ6, H6, S6, q6⟩ := hsp
            exact end_ S6 fun s7 J7 => ⟨_, _, J7, q6⟩
          | brk =>
            obtain ⟨σ6, H6, S6, q6⟩ := hsp
            exact end_ S6 fun s7 J7 => ⟨_, _, J7, q6⟩
          | cont =>
            obtain ⟨σ6, H6, S6, q6⟩ := hsp
            exact end_ S6 fun s7 J7 => ⟨_, _, J7, q6⟩
          | ret u =>
            obtain ⟨v6, σ6, H6, S6, r6, q6⟩ := hsp
            exact end_ S6 fun s7 J7 => ⟨_, _, _, J7, r6, q6⟩
        | false =>
          show wpAny _ X.A (handleBy (.ref a) X.env hds2) _ _ _
          exact ih (hno rfl)
    exact go hh w
  · cases f with
    | next => exact wpAny_execs_nil (calm .next s1 hsp)
    | brk => exact calm .brk s1 hsp
    | cont => exact calm .cont s1 hsp
    | ret u => exact calm (.ret u) s1 hsp
end
end L2N
set_option Elab.async false
set_option linter.all false
set_option maxRecDepth 100000
set_option maxHeartbeats 4000000
namespace Z
open PySem PySem.Spec PyProof.Rows L2
/-! ### f(e, .., k = v), what is raised at the slots -/
structure CalKX (P : Program) (w : World) (K : PySem.W.Frag) (mg : Str → Option Value) (base : Heap) (k : Nat) (x : Str) (n : Nat) (ks : List Str) (gV : List V → List V → List V) (sp : Sp) : Prop where
  ex : ∃ (f : Addr) (fd : FuncData) (ps : List Str) (g : List Value → List Value → List Value), FnOk P w K mg base (L2N.CX P w) k f fd ps sp ∧ mg x = some (.ref f) ∧ PySem.W.keepIn K (.ref f) = true ∧ KBn K fd ps n ks g gV
def tClKW (n m : Nat) (sp : Sp) (gV : List V → List V → List V) (E : L2.St → XK) (t tk : TA) : TE := fun σ H Q => t σ H fun vs H1 => tk σ H1 fun zs H2 => vs.length = n ∧ zs.length = m ∧ sp (gV vs zs) H2 Q (E σ)
section
variable {X : Cx} {k j n : Nat} {x : Str} {sp : Sp} {ks : List Str} {gV : List V → List V → List V} {p pos : Pos} {e : Expr} {es : List Expr} {kws : List Keyword} {t tk : TA} {E : L2.St → XK}
theorem pe_clKE (c : CalKX X.prog X.w X.K X.mg X.base k x n ks gV sp) (hx : ∀ σ, PassesAt (L2N.CX X.prog X.w) X σ (E σ)) (hr : Room j X.A) (hk : k ≤ j) (hg : Gl X x) (ha : PA X (e :: es) t) (hkw : PK X kws tk)
    (hall : (backToKw pos (keywordEach kws X.env)).all (·.1.isSome) = true := by rfl) (hks : (backToKw pos (keywordEach kws X.env)).filterMap (·.1) = ks := by rfl) (hdb : (x == ("__debug__" : Str)) = false := by decide)
    (he : starEach (e :: es) X.env = (false, eval e X.env) :: starEach es X.env := by rfl) (hpl : ((backTo pos (starEach (e :: es) X.env)).any (·.1) || (backToKw pos (keywordEach kws X.env)).any (·.1.isNone)) = false := by rfl) :
    PE X (.Call (.Name x p) (e :: es) kws pos) (tClKW n ks.length sp gV E t tk) := by
  obtain ⟨f, fd, ps, g, F, hm, kp, hb⟩ := c.ex
  refine ⟨fun pins s σ H Q I h => ?_⟩
  refine wpAny_Call_Name_kw (ld_glob I hg hm ?_ hdb)
  refine PySem.W.callWith_KW (h₀ := X.base) I.ok.mod.kin kp hall (thn (ha.run pos pins s σ H _ I h) fun us s1 ⟨vs, H1, I1, r, q⟩ => ?_) hpl he
  refine thn (hkw.run pos pins s1 σ H1 _ I1 q) fun ws s2 ⟨zs, H2, I2, rz, l1, l2, q2⟩ => ⟨I2.kIn, ?_⟩
  rw [hks]
  have r2 := hb.rel r rz
  refine wpAny_call (codeAny_mono (F.run X.A X.stack s2 H2 ⟨us, ks.zip ws⟩ (g us ws) (gV vs zs) Q (E σ) (hr.mono hk) I2.env0 (hb.to s2 us ws I2.kIn (by rw [← r.length]; exact l1) (by rw [← rz.length]; exact l2)) r2 q2) fun r s' hq => ?_)
  exact back_at (hx σ) I2 r s' hq
end
end Z
set_option Elab.async false
set_option linter.all false
set_option maxRecDepth 100000
set_option maxHeartbeats 4000000
namespace Z
open PySem PySem.Spec PyProof.Rows L2
/-! ### raise X(), X an own class without own __init__ -/
structure Exn0 (K : PySem.W.Frag) (mg : Str → Option Value) (x : Str) (C : Addr) : Prop where
  ex : PySem.W.excIn K C He.veBase "ValueError.__new__" = true
  kp : PySem.W.keepIn K (.ref C) = true
  sub : PySem.W.subIn K (.ref C) (.type "BaseException") = some true
  ty : PySem.W.typeIn K (.ref C) = some (.type "type")
  gl : mg x = some (.ref C)
theorem pmk_ex0 {X : Cx} {x : Str} {C : Addr} {p pos : Pos} (c : Exn0 X.K X.mg x C) (hg : Gl X x) (hdb : (x == ("__debug__" : Str)) = false := by decide) :
    L2N.PMk X (.Call (.Name x p) [] [] pos) (fun _ H Q => Q (.ref C) none H) := by
  intro pins s σ H Q I h
  refine wpAny_Call_Name_kw (ld_glob I hg c.gl ?_ hdb)
  refine PySem.W.callWith_K0 I.kIn c.kp ?_
  obtain ⟨bm, N, nm, qn, bs, hdct, sn, sub, ab, col, dd, k0, k1, k2, k3, k5, mN, hC, hN, hni, T⟩ := exc_obj I.kIn c.ex
  refine wpAny_call_exc_subT PySem.F.excBase_ValueError T hC hN hni (fun h' e hm => ?_) (by decide)
  exact L2N.mk_of I hm (raises_own c.sub c.ty) h (I.hok.gone hm.new)
theorem ps_ex0 {X : Cx} {x : Str} {C : Addr} {p pos pos2 : Pos} {W : WX} (hc : X.calm = true) (tk : L2N.Takes X W) (c : Exn0 X.K X.mg x C) (hg : Gl X x) (hdb : (x == ("__debug__" : Str)) = false := by decide) :
    PS X (.Raise (some (.Call (.Name x p) [] [] pos)) none pos2) (fun _ σ H => W (.ref C) none σ H) := L2N.ps_raise hc tk (pmk_ex0 c hg hdb)
/-! ### isinstance(e, c), e a caught error without a dict -/
def rIs0 (K : PySem.W.Frag) (a : Addr) (cls : Value) (d : Option Addr) : List V → Hp → VK → Prop := fun xs H Q => ∃ (D : Addr) (c : V) (cv : Value) (b : Bool), cls = .ref D ∧ d = none ∧ ExcC K D ∧ xs = [.ref a, c] ∧ (∀ u, RelV c u → u = cv) ∧ PySem.W.kitOne K (.ref D) cv = some b ∧ Q (.bl b) H
theorem call_is0 {X : Cx} {a : Addr} {cls : Value} {d : Option Addr} {oe : Obj} {pn : List (Addr × Obj)} (hz : Zc cls d oe) (hf : ∃ vs, oe.data = .fields vs) : CallR (X.suite a ((a, oe) :: pn)) (.builtin "isinstance") (rIs0 X.K a cls d) := by
  intro pins s σ H xs us Q I r h
  obtain ⟨D, c, cv, b, rfl, rfl, C, rfl, hcv, e, q⟩ := h
  exact call_isE C hz hf pins s σ H _ us Q I r ⟨c, cv, b, rfl, hcv, e, q⟩
end Z
set_option linter.all false
set_option maxRecDepth 100000
namespace Z
open PySem PySem.Spec PyProof.Rows L2
theorem none_of {H J : Hp} {p : Addr} (s : Same H J) (n : J p = none) : H p = none := by
  cases e : H p with
  | none => rfl
  | some o =>
    have := s p o e
    rw [n] at this
    cases this
theorem szC {n : Nat} (h : n ≤ 10000000) : n < sizeLine := Nat.lt_of_le_of_lt h (by decide)
theorem ixN_nat {n j : Nat} (h : j < n) : ixN n (j : Int) = some j := by
  unfold ixN
  rw [if_pos (by omega)]
  first
    | (rw [if_pos (by omega)]; congr 1)
    | simp [h]
theorem sqk_or {q : Bool} {K : PySem.W.Frag} {H : Hp} {a : Addr} {xs : List V} (h : SqK q K H a xs) : SqL K H a xs ∨ SqT K H a xs := by
  cases q
  · exact .inr h
  · exact .inl h
theorem nd_inj {l : List Nat} (nd : l.Nodup) {i j c : Nat} (hi : l[i]? = some c) (hj : l[j]? = some c) : i = j := by
  obtain ⟨h1, e1⟩ := List.getElem?_eq_some_iff.mp hi
  exact (List.getElem?_inj h1 nd).mp (hi.trans hj.symm)
theorem relv_ref {a : Addr} : L2.RelV (.ref a) (.ref a) := rfl
end Z
set_option Elab.async false
set_option linter.all false
set_option maxRecDepth 100000
set_option maxHeartbeats 4000000
namespace Z
open PySem PySem.Spec PyProof.Rows L2
open SX (S S_inj S_len S_cat)
theorem relv_str {x : Str} {t : Tok} : L2.RelV (.str x) (.str x t) := ⟨t, rfl⟩
theorem szl {n : Nat} (h : n ≤ 2000) : n ≤ sizeLine := Nat.le_trans h (by decide)
theorem szlt {n : Nat} (h : n ≤ 2000) : n < sizeLine := Nat.lt_of_le_of_lt h (by decide)
/-! ### draws and their place -/
structure Tk (K : PySem.W.Frag) (a p : Addr) (ds : List Int) (n : Nat) (H0 H1 : Hp) : Prop where
  hA : H1 a = some (.lst (ds.map V.int))
  hd : Dr n ds
  ne : a ≠ p
  sb : SB p H0 H1
  pl : ∃ m : Nat, H1 p = some (.lst [.int (m : Int)])
section
variable {K : PySem.W.Frag} {a p : Addr} {ds : List Int} {n m : Nat} {H0 H1 H2 : Hp}
theorem Tk.more (t : Tk K a p ds n H0 H1) (s : Same H1 H2) : Tk K a p ds n H0 H2 := by
  obtain ⟨m, e⟩ := t.pl
  exact ⟨s _ _ t.hA, t.hd, t.ne, t.sb.trans (Z.Same.sb s), m, s _ _ e⟩
theorem Tk.next (t : Tk K a p ds n H0 H1) (e : H1 p = some (.lst [.int (m : Int)])) : Tk K a p ds n H0 (upd H1 p (.lst [.int ((m + 1 : Nat) : Int)])) ∧ SB p H1 (upd H1 p (.lst [.int ((m + 1 : Nat) : Int)])) := by
  have sb : SB p H1 (upd H1 p (.lst [.int ((m + 1 : Nat) : Int)])) := SB.upd (Z.Same.sb (Same.refl H1))
  exact ⟨⟨sb _ _ t.ne t.hA, t.hd, t.ne, t.sb.trans sb, m + 1, upd_same⟩, sb⟩
theorem Tk.slf (t : Tk K a p ds n H0 H1) : Tk K a p ds n H1 H1 := ⟨t.hA, t.hd, t.ne, Z.Same.sb (Same.refl _), t.pl⟩
theorem Tk.tr (t : Tk K a p ds n H0 H1) (u : Tk K a p ds n H1 H2) : Tk K a p ds n H0 H2 := ⟨u.hA, u.hd, u.ne, t.sb.trans u.sb, u.pl⟩
theorem Tk.nn {q : Addr} (t : Tk K a p ds n H0 H1) (h : H1 q = none) : H0 q = none := by
  cases e : H0 q with
  | none => rfl
  | some o =>
    have pq : q ≠ p := fun z => by
      obtain ⟨m, em⟩ := t.pl
      rw [z, em] at h
      cases h
    rw [t.sb _ _ pq e] at h
    cases h
theorem Tk.at_ {q : Addr} {o : HO} (t : Tk K a p ds n H0 H1) (h : H0 q = none) (hp : p ≠ q) (ha : a ≠ q) : Tk K a p ds n H0 (upd H1 q o) := by
  obtain ⟨m, em⟩ := t.pl
  refine ⟨by rw [upd_ne ha]; exact t.hA, t.hd, t.ne, fun b u n1 n2 => ?_, m, by rw [upd_ne hp]; exact em⟩
  have bq : b ≠ q := fun z => by rw [z, h] at n2; cases n2
  rw [upd_ne bq]
  exact t.sb _ _ n1 n2
/-- an object other than the place lives on -/
theorem Tk.up (t : Tk K a p ds n H0 H1) {b : Addr} {o : HO} (e : H0 b = some o) (h : b ≠ p) : H1 b = some o := t.sb _ _ h e
end
theorem at_0 {α : Type} {x : α} {xs : List α} : atI (x :: xs) 0 = some x := show atI _ ((0 : Nat) : Int) = _ from atI_nat rfl
theorem at_1 {α : Type} {x y : α} {xs : List α} : atI (x :: y :: xs) 1 = some y := show atI _ ((1 : Nat) : Int) = _ from atI_nat rfl
theorem at_2 {α : Type} {x y z : α} {xs : List α} : atI (x :: y :: z :: xs) 2 = some z := show atI _ ((2 : Nat) : Int) = _ from atI_nat rfl
theorem at_3 {α : Type} {x y z u : α} {xs : List α} : atI (x :: y :: z :: u :: xs) 3 = some u := show atI _ ((3 : Nat) : Int) = _ from atI_nat rfl
theorem sum_one : ∀ l : List Nat, (l.map fun _ => 1).sum = l.length
  | [] => rfl
  | _ :: r => by
    rw [List.map_cons, List.sum_cons, sum_one r, List.length_cons]
    omega
theorem join_one : ∀ l : List Nat, TL.joinL [] (l.map fun c => [c]) = l
  | [] => rfl
  | [c] => rfl
  | c :: d :: r => by
    have ih := join_one (d :: r)
    show [c] ++ ([] ++ TL.joinL [] ((d :: r).map fun c => [c])) = _
    rw [ih]
    rfl
theorem ixv {b : Bool} {K : PySem.W.Frag} {H : Hp} {a : Addr} {xs : List V} {i : Int} {v : V} {Q : VK} (hS : SqK b K H a xs) (e : atI xs i = some v) (q : Q v H) : rIx K (.ref a) (.int i) H Q := by
  cases b
  · exact .inr (.inl ⟨a, _, _, _, rfl, rfl, hS, e, q⟩)
  · exact .inl ⟨a, _, _, _, rfl, rfl, hS, e, q⟩
theorem sgn_at (z : Str) (r : Int) (h : 0 < z.length) : ∃ c, atI z.cps.toList (r % (z.length : Int)) = some c := by
  have h1 := Int.emod_nonneg r (show (z.length : Int) ≠ 0 by omega)
  have h2 := Int.emod_lt_of_pos r (show 0 < (z.length : Int) by omega)
  obtain ⟨j, hj⟩ : ∃ j : Nat, r % (z.length : Int) = (j : Int) := ⟨(r % (z.length : Int)).toNat, by omega⟩
  rw [hj] at h2 ⊢
  have hl : j < z.cps.toList.length := by
    show j < z.cps.size
    have : z.length = z.cps.size := rfl
    omega
  exact ⟨z.cps.toList[j], atI_nat (List.getElem?_eq_getElem hl)⟩
theorem modN (r : Int) {n : Nat} (h : 0 < n) : ∃ c : Nat, r % (n : Int) = (c : Int) ∧ c < n := by
  have h1 := Int.emod_nonneg r (show (n : Int) ≠ 0 by omega)
  have h2 := Int.emod_lt_of_pos r (show 0 < (n : Int) by omega)
  exact ⟨(r % (n : Int)).toNat, by omega, by omega⟩
end Z
set_option Elab.async false
set_option linter.all false
set_option maxRecDepth 100000
set_option maxHeartbeats 4000000
namespace Z
open PySem PySem.Spec PyProof PyProof.Rows L2 F
/-! ### x in y, y an instance of a class with __contains__ -/
structure InO (P : Program) (w : World) (K : PySem.W.Frag) (mg : Str → Option Value) (base : Heap) (k : Nat) (C : Addr) (sp : Sp) : Prop where
  ex : ∃ (f : Addr) (fd : FuncData) (ps : List Str), FnOk P w K mg base CX0 k f fd ps sp ∧ PySem.W.findIn K (.ref C) "__contains__" = some (some (.ref f)) ∧ PySem.W.isFn K (.ref f) = true ∧ Binds K fd ps []
def rInO (C : Addr) (sp : Sp) : R2 := fun x y H Q => ∃ b dy gs, y = .ref b ∧ H b = some (.ins C dy gs) ∧ sp [.ref b, x] H (fun v H' => ∃ r, v = .bl r ∧ Q (.bl r) H') E0
theorem op_ownIn {X : Cx} {k j : Nat} {C : Addr} {sp : Sp} (c : InO X.prog X.w X.K X.mg X.base k C sp) (hr : Room j X.A) (hk : k ≤ j) : OpR X (compareOp .In) (rInO C sp) := by
  intro pins s σ H x y v u Q I rx ry hq
  obtain ⟨f, fd, ps, F, hs, hf, hb⟩ := c.ex
  obtain ⟨b, dy, gs, rfl, hb', q⟩ := hq
  cases ry
  obtain ⟨mB, J, _⟩ := ins_get I.hok hb'
  obtain ⟨od, J, _⟩ := J.look
  obtain ⟨m, hF⟩ := I.fr
  refine PySem.W.in_K hF I.ok.mod.kin J hs hf ?_
  have r2 : Vals [V.ref b, x] [Value.ref b, v] := .cons rfl (.cons rx .nil)
  refine thn (run_fn (dvs := []) F (hr.mono hk) hb .nil pass0 I r2 q) fun r s' z => ?_
  obtain ⟨v', H', I', rv, b', rfl, q'⟩ := z
  cases rv
  exact wpAny_truthy_bool ⟨.bl b', H', I', rfl, q'⟩
/-! ### making with defaults -/
structure MakD (P : Program) (w : World) (K : PySem.W.Frag) (mg : Str → Option Value) (base : Heap) (k : Nat) (x : Str) (dvs : List V) (sp : Sp) : Prop where
  ex : ∃ (C f : Addr) (fd : FuncData) (ps : List Str) (si : Sp) (ds : List Value), Mk K C f ∧ FnOk P w K mg base CX0 k f fd ps si ∧ mg x = some (.ref C) ∧ Vals dvs ds ∧ Binds K fd ps ds ∧
    ∀ vs H Q E, sp vs H Q E → ∀ n dx, H n = none → H dx = none → dx ≠ n → si (.ref n :: (vs ++ dvs)) (upd (upd H dx (.own n)) n (.ins C dx [])) (fun v H2 => v = .non ∧ Q (.ref n) H2) E
theorem pe_mkD {X : Cx} {k j : Nat} {x : Str} {sp : Sp} {dvs : List V} {p pos : Pos} {e : Expr} {es : List Expr} {t : TA} (c : MakD X.prog X.w X.K X.mg X.base k x dvs sp) (hr : Room j X.A) (hk : k + 1 ≤ j) (hg : Gl X x) (ha : PA X (e :: es) t)
    (hdb : (x == ("__debug__" : Str)) = false := by decide) (he : starEach (e :: es) X.env = (false, eval e X.env) :: starEach es X.env := by rfl) (hpl : (backTo pos (starEach es X.env)).any (·.1) = false := by rfl) : PE X (.Call (.Name x p) (e :: es) [] pos) (tCall sp [] E0 t) := by
  obtain ⟨C, f, fd, ps, si, ds, M, F, hm, rv, b, imp⟩ := c.ex
  constructor
  intro pins s σ H Q I h
  refine wpAny_Call_Name_kw (ld_glob I hg hm ?_ hdb)
  refine PySem.W.callWith_K (h₀ := X.base) I.ok.mod.kin M.kp (thn (ha.run pos pins s σ H _ I h) fun us s1 ⟨vs, H1, I1, r, q⟩ => ⟨I1.kIn, ?_⟩) he hpl
  have q2 : sp vs H1 Q E0 := by
    have z : sp (vs ++ []) H1 Q E0 := q
    rw [List.append_nil] at z
    exact z
  exact run_make (dvs := dvs) M F (hr.mono hk) b rv pass0 I1 r (fun n dx n1 n2 n3 => imp _ _ _ _ q2 n dx n1 n2 n3)
end Z
set_option linter.all false
set_option maxRecDepth 100000
namespace Mc
/-! ### tables and their runs -/
abbrev Tbl := List (List (Option Nat))
def nx (T : Tbl) (s k : Nat) : Option Nat := (T.getD s []).getD k none
def rn (T : Tbl) : Option Nat → List Nat → Option Nat
  | o, [] => o
  | none, _ :: _ => none
  | some s, k :: w => rn T (nx T s k) w
structure Wf (T : Tbl) (m : Nat) : Prop where
  row : ∀ r ∈ T, r.length = m
  ent : ∀ r ∈ T, ∀ e, some e ∈ r → e < T.length
def Acc (T : Tbl) (G : Nat → Prop) (s : Nat) (w : List Nat) : Prop := ∃ t, rn T (some s) w = some t ∧ G t
def Liv (T : Tbl) (G : Nat → Prop) (s : Nat) : Prop := ∃ w, Acc T G s w
def Leq (T : Tbl) (G : Nat → Prop) (s t : Nat) : Prop := ∀ w, Acc T G s w ↔ Acc T G t w
theorem rn_none (T : Tbl) : ∀ w, rn T none w = none
  | [] => rfl
  | _ :: _ => rfl
theorem rn_app (T : Tbl) : ∀ (u : List Nat) (o : Option Nat) (v : List Nat), rn T o (u ++ v) = rn T (rn T o u) v
  | [], _, _ => rfl
  | _ :: _, none, v => (rn_none T v).symm
  | k :: u, some s, v => rn_app T u (nx T s k) v
theorem nx_mem {T : Tbl} {s k e : Nat} (h : nx T s k = some e) : ∃ r, T[s]? = some r ∧ r[k]? = some (some e) := by
  unfold nx at h
  cases hT : T[s]? with
  | none =>
    rw [List.getD_eq_getElem?_getD, List.getD_eq_getElem?_getD, hT] at h
    simp at h
  | some r =>
    rw [List.getD_eq_getElem?_getD, List.getD_eq_getElem?_getD, hT] at h
    cases hr : r[k]? with
    | none =>
      simp [hr] at h
    | some o =>
      simp [hr] at h
      exact ⟨r, rfl, by rw [hr, h]⟩
theorem nx_at {T : Tbl} {s k : Nat} {r : List (Option Nat)} {o : Option Nat} (h : T[s]? = some r) (h2 : r[k]? = some o) : nx T s k = o := by
  unfold nx
  rw [List.getD_eq_getElem?_getD, List.getD_eq_getElem?_getD, h]
  show (r[k]?).getD none = o
  rw [h2]
  rfl
theorem nx_lt {T : Tbl} {m s k e : Nat} (wf : Wf T m) (h : nx T s k = some e) : e < T.length ∧ k < m ∧ s < T.length := by
  obtain ⟨r, h1, h2⟩ := nx_mem h
  have mr := List.mem_of_getElem? h1
  refine ⟨wf.ent r mr e (List.mem_of_getElem? h2), ?_, (List.getElem?_eq_some_iff.mp h1).1⟩
  rw [← wf.row r mr]
  exact (List.getElem?_eq_some_iff.mp h2).1
theorem acc_cons {T : Tbl} {G : Nat → Prop} {s k : Nat} {w : List Nat} : Acc T G s (k :: w) ↔ ∃ e, nx T s k = some e ∧ Acc T G e w := by
  constructor
  · rintro ⟨t, h, g⟩
    have h : rn T (nx T s k) w = some t := h
    cases e : nx T s k with
    | none => rw [e, rn_none] at h; cases h
    | some e' => exact ⟨e', rfl, t, by rw [e] at h; exact h, g⟩
  · rintro ⟨e, h, t, h2, g⟩
    exact ⟨t, by show rn T (nx T s k) w = some t; rw [h]; exact h2, g⟩
theorem acc_nil {T : Tbl} {G : Nat → Prop} {s : Nat} : Acc T G s [] ↔ G s := ⟨fun ⟨t, h, g⟩ => by cases h; exact g, fun g => ⟨s, rfl, g⟩⟩
theorem Leq.refl {T : Tbl} {G : Nat → Prop} (s : Nat) : Leq T G s s := fun _ => Iff.rfl
theorem Leq.symm {T : Tbl} {G : Nat → Prop} {s t : Nat} (h : Leq T G s t) : Leq T G t s := fun w => (h w).symm
theorem Leq.trans {T : Tbl} {G : Nat → Prop} {s t u : Nat} (h : Leq T G s t) (k : Leq T G t u) : Leq T G s u := fun w => (h w).trans (k w)
theorem Leq.good {T : Tbl} {G : Nat → Prop} {s t : Nat} (h : Leq T G s t) : G s ↔ G t := by
  have := h []
  rwa [acc_nil, acc_nil] at this
theorem Leq.liv {T : Tbl} {G : Nat → Prop} {s t : Nat} (h : Leq T G s t) (l : Liv T G s) : Liv T G t := let ⟨w, a⟩ := l; ⟨w, (h w).mp a⟩
theorem Leq.step {T : Tbl} {G : Nat → Prop} {s t k e : Nat} (h : Leq T G s t) (n : nx T s k = some e) (l : Liv T G e) : ∃ e', nx T t k = some e' ∧ Leq T G e e' := by
  obtain ⟨w, a⟩ := l
  obtain ⟨e', h1, _⟩ := acc_cons.mp ((h (k :: w)).mp (acc_cons.mpr ⟨e, n, a⟩))
  refine ⟨e', h1, fun v => ⟨fun b => ?_, fun b => ?_⟩⟩
  · obtain ⟨e2, h2, b2⟩ := acc_cons.mp ((h (k :: v)).mp (acc_cons.mpr ⟨e, n, b⟩))
    rw [h1] at h2
    cases h2
    exact b2
  · obtain ⟨e2, h2, b2⟩ := acc_cons.mp ((h (k :: v)).mpr (acc_cons.mpr ⟨e', h1, b⟩))
    rw [n] at h2
    cases h2
    exact b2
theorem liv_back {T : Tbl} {G : Nat → Prop} {s t : Nat} {w : List Nat} (h : rn T (some s) w = some t) (l : Liv T G t) : Liv T G s := by
  obtain ⟨v, u, a, g⟩ := l
  exact ⟨w ++ v, u, by rw [rn_app, h]; exact a, g⟩
theorem liv_good {T : Tbl} {G : Nat → Prop} {s : Nat} (h : G s) : Liv T G s := ⟨[], acc_nil.mpr h⟩
theorem liv_step {T : Tbl} {G : Nat → Prop} {s k e : Nat} (h : nx T s k = some e) (l : Liv T G e) : Liv T G s := let ⟨w, a⟩ := l; ⟨k :: w, acc_cons.mpr ⟨e, h, a⟩⟩
/-- closed flags that hold the good states hold the live ones -/
theorem liv_closed {T : Tbl} {G : Nat → Prop} {al : Nat → Prop} (g : ∀ s, G s → al s) (c : ∀ s k e, nx T s k = some e → al e → al s) {s : Nat} (l : Liv T G s) : al s := by
  obtain ⟨w, a⟩ := l
  induction w generalizing s with
  | nil => exact g s (acc_nil.mp a)
  | cons k w ih =>
    obtain ⟨e, h, b⟩ := acc_cons.mp a
    exact c s k e h (ih b)
/-! ### the normal form -/
structure NfOf (T : Tbl) (G : Nat → Prop) (m : Nat) (R : Tbl) (g : List Nat) (met : List Nat) : Prop where
  zero : met[0]? = some 0
  len : R.length = met.length
  row : ∀ r ∈ R, r.length = m
  live : ∀ s ∈ met, s < T.length ∧ Liv T G s
  ap : ∀ (i j s t : Nat), met[i]? = some s → met[j]? = some t → Leq T G s t → i = j
  no : ∀ (i s k : Nat), met[i]? = some s → nx R i k = none → ∀ e, nx T s k = some e → ¬ Liv T G e
  yes : ∀ (i s k j : Nat), met[i]? = some s → nx R i k = some j → ∃ e t, nx T s k = some e ∧ met[j]? = some t ∧ Leq T G e t
  good : ∀ i : Nat, i ∈ g ↔ ∃ s, met[i]? = some s ∧ G s
  asc : g.Pairwise (· < ·)
  ord : ∀ j : Nat, 0 < j → j < met.length → ∃ i k : Nat, i < j ∧ nx R i k = some j ∧ ∀ (i' k' j' : Nat), (i' < i ∨ i' = i ∧ k' < k) → nx R i' k' = some j' → j' < j
def Nf (T : Tbl) (G : Nat → Prop) (m : Nat) (R : Tbl) (g : List Nat) : Prop := (R = [] ∧ g = [] ∧ (T = [] ∨ ¬ Liv T G 0)) ∨ ∃ met, NfOf T G m R g met
theorem NfOf.sim {T : Tbl} {G : Nat → Prop} {m : Nat} {R : Tbl} {g met : List Nat} (h : NfOf T G m R g met) : ∀ (w : List Nat) (i s t0 : Nat), met[i]? = some t0 → Leq T G s t0 → (rn R (some i) w = none → ∀ t, rn T (some s) w = some t → ¬ Liv T G t) ∧ ∀ j, rn R (some i) w = some j → ∃ t t1, rn T (some s) w = some t ∧ met[j]? = some t1 ∧ Leq T G t t1 := by
  intro w
  induction w with
  | nil =>
    intro i s t0 hi l
    exact ⟨fun z => (by cases z), fun j z => by cases z; exact ⟨s, t0, rfl, hi, l⟩⟩
  | cons k w ih =>
    intro i s t0 hi l
    cases e : nx R i k with
    | none =>
      refine ⟨fun _ t ht lt => ?_, fun j z => ?_⟩
      · have ht : rn T (nx T s k) w = some t := ht
        cases e2 : nx T s k with
        | none => rw [e2, rn_none] at ht; cases ht
        | some e' =>
          rw [e2] at ht
          have le := liv_back ht lt
          obtain ⟨e3, h3, l3⟩ := l.step e2 le
          exact h.no i t0 k hi e e3 h3 (l3.liv le)
      · have z : rn R (nx R i k) w = some j := z
        rw [e, rn_none] at z
        cases z
    | some j =>
      obtain ⟨e1, t1, h1, h2, l1⟩ := h.yes i t0 k j hi e
      have lv1 : Liv T G e1 := l1.symm.liv (h.live t1 (List.mem_of_getElem? h2)).2
      obtain ⟨e2, h3, l3⟩ := l.symm.step h1 lv1
      obtain ⟨a, b⟩ := ih j e2 t1 h2 (l3.symm.trans l1)
      refine ⟨fun z t ht => a (by have z : rn R (nx R i k) w = none := z; rw [e] at z; exact z) t (by have ht : rn T (nx T s k) w = some t := ht; rw [h3] at ht; exact ht), fun j' z => ?_⟩
      obtain ⟨t, t2, c1, c2, c3⟩ := b j' (by have z : rn R (nx R i k) w = some j' := z; rw [e] at z; exact z)
      exact ⟨t, t2, by show rn T (nx T s k) w = some t; rw [h3]; exact c1, c2, c3⟩
def st (T : Tbl) : Option Nat := if T.length = 0 then none else some 0
theorem Nf.read {T : Tbl} {G : Nat → Prop} {m : Nat} {R : Tbl} {g : List Nat} (h : Nf T G m R g) (w : List Nat) : (rn R (st R) w = none → ∀ t, rn T (st T) w = some t → ¬ Liv T G t) ∧ ∀ j, rn R (st R) w = some j → ∃ t, rn T (st T) w = some t ∧ Liv T G t ∧ (j ∈ g ↔ G t) := by
  rcases h with ⟨rfl, rfl, h⟩ | ⟨met, h⟩
  · have e : rn [] (st []) w = none := rn_none [] w
    rw [e]
    refine ⟨fun _ t ht lt => ?_, fun j z => (by cases z)⟩
    rcases h with rfl | h
    · rw [e] at ht; cases ht
    · unfold st at ht
      split at ht
      · rw [rn_none] at ht; cases ht
      · exact h (liv_back ht lt)
  · have hm : 0 < met.length := (List.getElem?_eq_some_iff.mp h.zero).1
    have hT := (h.live 0 (List.mem_of_getElem? h.zero)).1
    have e1 : st R = some 0 := if_neg (by rw [h.len]; omega)
    have e2 : st T = some 0 := if_neg (by omega)
    rw [e1, e2]
    obtain ⟨a, b⟩ := h.sim w 0 0 0 h.zero (Leq.refl 0)
    refine ⟨a, fun j z => ?_⟩
    obtain ⟨t, t1, c1, c2, c3⟩ := b j z
    refine ⟨t, c1, c3.symm.liv (h.live t1 (List.mem_of_getElem? c2)).2, (h.good j).trans ⟨fun ⟨s, q1, q2⟩ => ?_, fun q => ⟨t1, c2, c3.good.mp q⟩⟩⟩
    rw [c2] at q1
    cases q1
    exact c3.good.mpr q2
/-! ### texts: some characters are no letters -/
def rs (T : Tbl) (ix : Nat → Option Nat) : Option Nat → List Nat → Option Nat
  | o, [] => o
  | none, _ :: _ => none
  | some s, c :: w => match ix c with
    | none => none
    | some k => rs T ix (nx T s k) w
theorem rs_none (T : Tbl) (ix : Nat → Option Nat) : ∀ w, rs T ix none w = none
  | [] => rfl
  | _ :: _ => rfl
theorem rs_known (ix : Nat → Option Nat) : ∀ (w : List Nat), (∃ ks : List Nat, (∀ T o, rs T ix o w = rn T o ks) ∧ ∀ c ∈ w, ix c ≠ none) ∨ ((∀ T o, rs T ix o w = none) ∧ ∃ c ∈ w, ix c = none)
  | [] => .inl ⟨[], fun T o => by cases o <;> rfl, fun c m => absurd m (by simp)⟩
  | c :: w => by
    cases e : ix c with
    | none =>
      refine .inr ⟨fun T o => ?_, c, List.mem_cons_self, e⟩
      cases o with
      | none => rfl
      | some s => show (match ix c with | none => none | some k => rs T ix (nx T s k) w) = none; rw [e]
    | some k =>
      have step : ∀ T s, rs T ix (some s) (c :: w) = rs T ix (nx T s k) w := fun T s => by
        show (match ix c with | none => none | some k => rs T ix (nx T s k) w) = _
        rw [e]
      rcases rs_known ix w with ⟨ks, h, h2⟩ | ⟨h, d, hd, h2⟩
      · refine .inl ⟨k :: ks, fun T o => ?_, fun d m => ?_⟩
        · cases o with
          | none => rfl
          | some s => rw [step, h]; rfl
        · rcases List.mem_cons.mp m with rfl | m
          · rw [e]; exact fun z => by cases z
          · exact h2 d m
      · refine .inr ⟨fun T o => ?_, d, List.mem_cons_of_mem _ hd, h2⟩
        cases o with
        | none => rfl
        | some s => rw [step, h]
theorem Nf.text {T : Tbl} {G : Nat → Prop} {m : Nat} {R : Tbl} {g : List Nat} (h : Nf T G m R g) (ix : Nat → Option Nat) (w : List Nat) : (rs R ix (st R) w = none → ∀ t, rs T ix (st T) w = some t → ¬ Liv T G t) ∧ ∀ j, rs R ix (st R) w = some j → ∃ t, rs T ix (st T) w = some t ∧ Liv T G t ∧ (j ∈ g ↔ G t) := by
  rcases rs_known ix w with ⟨ks, e, _⟩ | ⟨e, _⟩
  · rw [e, e]
    exact h.read ks
  · rw [e, e]
    exact ⟨fun _ t z => (by cases z), fun j z => (by cases z)⟩
/-! ### first occurrences -/
section
variable {α β : Type} [DecidableEq α] [DecidableEq β]
def isF (f : Nat → α) (s : Nat) : Bool := (List.range s).all fun t => decide (f t ≠ f s)
def cf (f : Nat → α) (n : Nat) : Nat := ((List.range n).filter (isF f)).length
theorem isF_iff {f : Nat → α} {s : Nat} : isF f s = true ↔ ∀ t, t < s → f t ≠ f s := by
  unfold isF
  rw [List.all_eq_true]
  exact ⟨fun h t ht => of_decide_eq_true (h t (List.mem_range.mpr ht)), fun h t ht => decide_eq_true (h t (List.mem_range.mp ht))⟩
theorem cf_succ (f : Nat → α) (n : Nat) : cf f (n + 1) = cf f n + if isF f n then 1 else 0 := by
  unfold cf
  rw [List.range_succ, List.filter_append, List.length_append]
  congr 1
  cases e : isF f n <;> simp [e]
theorem cf_le (f : Nat → α) (n : Nat) : cf f n ≤ n := by
  have := List.length_filter_le (isF f) (List.range n)
  rwa [List.length_range] at this
theorem cf_pos (f : Nat → α) {n : Nat} (h : 0 < n) : 0 < cf f n := by
  cases n with
  | zero => exact absurd h (Nat.lt_irrefl _)
  | succ n =>
    clear h
    induction n with
    | zero => rw [cf_succ, show isF f 0 = true from rfl]; exact Nat.succ_pos _
    | succ n ih => rw [cf_succ]; omega
theorem first_ex (f : Nat → α) : ∀ s, ∃ t, t ≤ s ∧ f t = f s ∧ isF f t = true := by
  intro s
  induction s using Nat.strongRecOn with
  | _ s ih =>
    cases e : isF f s with
    | true => exact ⟨s, Nat.le_refl _, rfl, e⟩
    | false =>
      have : ∃ t, t < s ∧ f t = f s := by
        refine Classical.byContradiction fun c => ?_
        have : isF f s = true := isF_iff.mpr fun t ht q => c ⟨t, ht, q⟩
        rw [e] at this
        cases this
      obtain ⟨t, ht, q⟩ := this
      obtain ⟨u, hu, q2, q3⟩ := ih t ht
      exact ⟨u, by omega, q2.trans q, q3⟩
/-- a finer map has at least as many values; as many only if it is not finer -/
theorem cf_mono {f : Nat → α} {g : Nat → β} {n : Nat} (h : ∀ s t, s < n → t < n → g s = g t → f s = f t) : cf f n ≤ cf g n := by
  induction n with
  | zero => exact Nat.le_refl _
  | succ n ih =>
    have h1 := ih fun s t hs ht => h s t (by omega) (by omega)
    rw [cf_succ, cf_succ]
    cases e : isF f n with
    | false => simp; omega
    | true =>
      have : isF g n = true := isF_iff.mpr fun t ht q => isF_iff.mp e t ht (h t n (by omega) (by omega) q)
      rw [this]
      omega
theorem cf_eq {f : Nat → α} {g : Nat → β} {n : Nat} (h : ∀ s t, s < n → t < n → g s = g t → f s = f t) (e : cf g n = cf f n) : ∀ s t, s < n → t < n → f s = f t → g s = g t := by
  have sub : ∀ s, s < n → isF f s = true → isF g s = true := fun s hs hf => isF_iff.mpr fun t ht q => isF_iff.mp hf t ht (h t s (by omega) hs q)
  have all : ∀ k, k ≤ n → (cf g k = cf f k → ∀ s, s < k → isF g s = true → isF f s = true) ∧ cf f k ≤ cf g k := by
    intro k
    induction k with
    | zero => exact fun _ => ⟨fun _ s hs => absurd hs (Nat.not_lt_zero _), Nat.le_refl _⟩
    | succ k ih =>
      intro hk
      obtain ⟨i1, i2⟩ := ih (by omega)
      have sk := sub k (by omega)
      rw [cf_succ, cf_succ]
      cases ef : isF f k with
      | true =>
        rw [sk ef]
        refine ⟨fun q s hs hg => ?_, by simp; omega⟩
        by_cases c : s = k
        · subst c; exact ef
        · exact i1 (by simp at q; omega) s (by omega) hg
      | false =>
        cases eg : isF g k with
        | true => exact ⟨fun q => by simp at q; omega, by simp; omega⟩
        | false =>
          refine ⟨fun q s hs hg => ?_, by simp; omega⟩
          by_cases c : s = k
          · subst c; rw [eg] at hg; cases hg
          · exact i1 (by simp at q; omega) s (by omega) hg
  have back := (all n (Nat.le_refl n)).1 e
  intro s t hs ht q
  obtain ⟨s1, a1, a2, a3⟩ := first_ex g s
  obtain ⟨t1, b1, b2, b3⟩ := first_ex g t
  have fs := back s1 (by omega) a3
  have ft := back t1 (by omega) b3
  have e1 : f s1 = f t1 := (h s1 s (by omega) hs a2).trans (q.trans (h t1 t (by omega) ht b2).symm)
  have : s1 = t1 := by
    rcases Nat.lt_trichotomy s1 t1 with c | c | c
    · exact absurd e1 (isF_iff.mp ft s1 c)
    · exact c
    · exact absurd e1.symm (isF_iff.mp fs t1 c)
  rw [← a2, this, b2]
end
/-! ### classes of states -/
/-- what a row tells about the classes -/
def mk (T : Tbl) (m : Nat) (cl : Nat → Nat) (s : Nat) : Nat × List (Option Nat) := (cl s, (List.range m).map fun k => (nx T s k).map cl)
theorem mk_fst {T : Tbl} {m : Nat} {cl : Nat → Nat} {s t : Nat} (h : mk T m cl s = mk T m cl t) : cl s = cl t := congrArg (·.1) h
theorem mk_snd {T : Tbl} {m : Nat} {cl : Nat → Nat} {s t k : Nat} (h : mk T m cl s = mk T m cl t) (hk : k < m) : (nx T s k).map cl = (nx T t k).map cl := by
  have e := congrArg (fun z : Nat × List (Option Nat) => z.2[k]?) h
  unfold mk at e
  dsimp only at e
  rw [List.getElem?_map, List.getElem?_map, List.getElem?_range hk] at e
  injection e
theorem mk_mk {T : Tbl} {m : Nat} {cl : Nat → Nat} {s t : Nat} (h : cl s = cl t) (h2 : ∀ k, k < m → (nx T s k).map cl = (nx T t k).map cl) : mk T m cl s = mk T m cl t := by
  unfold mk
  rw [h]
  congr 1
  exact List.map_congr_left fun k hk => h2 k (List.mem_range.mp hk)
/-- states with the same language have the same class -/
def Crs (T : Tbl) (G : Nat → Prop) (cl : Nat → Nat) : Prop := ∀ s t, s < T.length → t < T.length → Leq T G s t → cl s = cl t
theorem Crs.next {T : Tbl} {G : Nat → Prop} {m : Nat} {cl : Nat → Nat} (wf : Wf T m) (lv : ∀ s k e, nx T s k = some e → Liv T G e) (h : Crs T G cl) {s t : Nat} (hs : s < T.length) (ht : t < T.length) (l : Leq T G s t) : mk T m cl s = mk T m cl t := by
  refine mk_mk (h s t hs ht l) fun k hk => ?_
  cases e : nx T s k with
  | some a =>
    obtain ⟨b, e2, l2⟩ := l.step e (lv _ _ _ e)
    rw [e2]
    show some (cl a) = some (cl b)
    rw [h a b (nx_lt wf e).1 (nx_lt wf e2).1 l2]
  | none =>
    cases e2 : nx T t k with
    | none => rfl
    | some b =>
      obtain ⟨a, e3, _⟩ := l.symm.step e2 (lv _ _ _ e2)
      rw [e] at e3
      cases e3
/-- stable classes tell the languages apart -/
theorem stable_leq {T : Tbl} {G : Nat → Prop} {m : Nat} {cl : Nat → Nat} (wf : Wf T m) (g : ∀ s t, s < T.length → t < T.length → cl s = cl t → (G s ↔ G t)) (st : ∀ s t, s < T.length → t < T.length → cl s = cl t → mk T m cl s = mk T m cl t) : ∀ s t, s < T.length → t < T.length → cl s = cl t → Leq T G s t := by
  have key : ∀ w s t, s < T.length → t < T.length → cl s = cl t → Acc T G s w → Acc T G t w := by
    intro w
    induction w with
    | nil => exact fun s t hs ht e a => acc_nil.mpr ((g s t hs ht e).mp (acc_nil.mp a))
    | cons k w ih =>
      intro s t hs ht e a
      obtain ⟨x, h1, a⟩ := acc_cons.mp a
      obtain ⟨x1, x2, x3⟩ := nx_lt wf h1
      have q := mk_snd (st s t hs ht e) x2
      rw [h1] at q
      cases h2 : nx T t k with
      | none => rw [h2] at q; cases q
      | some y =>
        rw [h2] at q
        have q : some (cl x) = some (cl y) := q
        injection q with q
        exact acc_cons.mpr ⟨y, h2, ih x y x1 (nx_lt wf h2).1 q a⟩
  exact fun s t hs ht e w => ⟨key w s t hs ht e, key w t s ht hs e.symm⟩
/-! ### flags -/
def cnt (al : Nat → Bool) (n : Nat) : Nat := ((List.range n).filter al).length
theorem cnt_succ (al : Nat → Bool) (n : Nat) : cnt al (n + 1) = cnt al n + if al n then 1 else 0 := by
  unfold cnt
  rw [List.range_succ, List.filter_append, List.length_append]
  congr 1
  cases e : al n <;> simp [e]
theorem cnt_le (al : Nat → Bool) (n : Nat) : cnt al n ≤ n := by
  have := List.length_filter_le al (List.range n)
  rwa [List.length_range] at this
theorem cnt_mono {al bl : Nat → Bool} : ∀ {n : Nat}, (∀ s, s < n → al s = true → bl s = true) → cnt al n ≤ cnt bl n
  | 0, _ => Nat.le_refl _
  | n + 1, h => by
    have := cnt_mono (n := n) fun s hs => h s (by omega)
    rw [cnt_succ, cnt_succ]
    cases e : al n with
    | false => simp; omega
    | true => rw [h n (by omega) e]; simp; omega
theorem cnt_lt {al bl : Nat → Bool} : ∀ {n x : Nat}, (∀ s, s < n → al s = true → bl s = true) → x < n → al x = false → bl x = true → cnt al n < cnt bl n
  | 0, x, _, hx, _, _ => absurd hx (Nat.not_lt_zero _)
  | n + 1, x, h, hx, h1, h2 => by
    rw [cnt_succ, cnt_succ]
    by_cases c : x = n
    · subst c
      have := cnt_mono (n := x) fun s hs => h s (by omega)
      rw [h1, h2]
      simp
      omega
    · have := cnt_lt (n := n) (x := x) (fun s hs => h s (by omega)) (by omega) h1 h2
      cases e : al n with
      | false => simp; omega
      | true => rw [h n (by omega) e]; simp; omega
/-! ### the rows that are kept -/
structure Kpt (T : Tbl) (G : Nat → Prop) (m : Nat) (T' : Tbl) : Prop where
  len : T'.length = T.length
  wf : Wf T' m
  nx : ∀ s k e, nx T' s k = some e ↔ nx T s k = some e ∧ Liv T G e
theorem Kpt.acc {T T' : Tbl} {G : Nat → Prop} {m : Nat} (h : Kpt T G m T') : ∀ w s, Acc T' G s w ↔ Acc T G s w
  | [], s => by rw [acc_nil, acc_nil]
  | k :: w, s => by
    rw [acc_cons, acc_cons]
    constructor
    · rintro ⟨e, h1, a⟩
      exact ⟨e, ((h.nx s k e).mp h1).1, (h.acc w e).mp a⟩
    · rintro ⟨e, h1, a⟩
      exact ⟨e, (h.nx s k e).mpr ⟨h1, w, a⟩, (h.acc w e).mpr a⟩
theorem Kpt.liv {T T' : Tbl} {G : Nat → Prop} {m : Nat} (h : Kpt T G m T') (s : Nat) : Liv T' G s ↔ Liv T G s := ⟨fun ⟨w, a⟩ => ⟨w, (h.acc w s).mp a⟩, fun ⟨w, a⟩ => ⟨w, (h.acc w s).mpr a⟩⟩
theorem Kpt.leq {T T' : Tbl} {G : Nat → Prop} {m : Nat} (h : Kpt T G m T') (s t : Nat) : Leq T' G s t ↔ Leq T G s t := by
  constructor
  · intro l w
    rw [← h.acc, ← h.acc]
    exact l w
  · intro l w
    rw [h.acc, h.acc]
    exact l w
theorem Kpt.lv {T T' : Tbl} {G : Nat → Prop} {m : Nat} (h : Kpt T G m T') (s k e : Nat) (z : Mc.nx T' s k = some e) : Liv T' G e := (h.liv e).mpr ((h.nx s k e).mp z).2
theorem Kpt.nf {T T' : Tbl} {G : Nat → Prop} {m : Nat} {R : Tbl} {g met : List Nat} (h : Kpt T G m T') (n : NfOf T' G m R g met) : NfOf T G m R g met where
  zero := n.zero
  len := n.len
  row := n.row
  live := fun s hs => ⟨by rw [← h.len]; exact (n.live s hs).1, (h.liv s).mp (n.live s hs).2⟩
  ap := fun i j s t h1 h2 l => n.ap i j s t h1 h2 ((h.leq s t).mpr l)
  no := fun i s k h1 h2 e h3 h4 => n.no i s k h1 h2 e ((h.nx s k e).mpr ⟨h3, h4⟩) ((h.liv e).mpr h4)
  yes := fun i s k j h1 h2 => let ⟨e, t, h3, h4, h5⟩ := n.yes i s k j h1 h2; ⟨e, t, ((h.nx s k e).mp h3).1, h4, (h.leq e t).mp h5⟩
  good := n.good
  asc := n.asc
  ord := n.ord
def kp (al : Nat → Bool) : Option Nat → Option Nat
  | none => none
  | some e => if al e = true then some e else none
def kpT (al : Nat → Bool) (T : Tbl) : Tbl := T.map fun r => r.map (kp al)
theorem nx_kp (al : Nat → Bool) (T : Tbl) (s k : Nat) : nx (kpT al T) s k = kp al (nx T s k) := by
  unfold nx kpT
  rw [List.getD_eq_getElem?_getD, List.getD_eq_getElem?_getD, List.getD_eq_getElem?_getD, List.getD_eq_getElem?_getD, List.getElem?_map]
  cases T[s]? with
  | none => rfl
  | some r =>
    show ((r.map (kp al))[k]?).getD none = kp al ((r[k]?).getD none)
    rw [List.getElem?_map]
    cases r[k]? <;> rfl
theorem kp_some {al : Nat → Bool} {o : Option Nat} {e : Nat} : kp al o = some e ↔ o = some e ∧ al e = true := by
  cases o with
  | none => exact ⟨fun z => (by cases z), fun z => (by cases z.1)⟩
  | some x =>
    show (if al x = true then some x else none) = some e ↔ _
    constructor
    · intro z
      by_cases c : al x = true
      · rw [if_pos c] at z
        cases z
        exact ⟨rfl, c⟩
      · rw [if_neg c] at z
        cases z
    · rintro ⟨z, c⟩
      cases z
      rw [if_pos c]
theorem kpt_of {T : Tbl} {G : Nat → Prop} {m : Nat} {al : Nat → Bool} (wf : Wf T m) (h : ∀ s, s < T.length → (al s = true ↔ Liv T G s)) : Kpt T G m (kpT al T) where
  len := List.length_map ..
  wf := ⟨fun r hr => by
    obtain ⟨r0, h0, rfl⟩ := List.mem_map.mp hr
    rw [List.length_map]
    exact wf.row r0 h0, fun r hr e he => by
    obtain ⟨r0, h0, rfl⟩ := List.mem_map.mp hr
    obtain ⟨o, ho, h1⟩ := List.mem_map.mp he
    have := (kp_some.mp h1).1
    subst this
    unfold kpT
    rw [List.length_map]
    exact wf.ent r0 h0 e ho⟩
  nx := fun s k e => by
    rw [nx_kp, kp_some]
    constructor
    · rintro ⟨h1, h2⟩
      exact ⟨h1, (h e (nx_lt wf h1).1).mp h2⟩
    · rintro ⟨h1, h2⟩
      exact ⟨h1, (h e (nx_lt wf h1).1).mpr h2⟩
theorem nd_len : ∀ {n : Nat} {l : List Nat}, l.Nodup → (∀ x ∈ l, x < n) → l.length ≤ n := by
  intro n
  induction n with
  | zero =>
    intro l _ h
    cases l with
    | nil => exact Nat.le_refl _
    | cons x r => exact absurd (h x List.mem_cons_self) (Nat.not_lt_zero _)
  | succ n ih =>
    intro l nd h
    have z := ih (l := l.erase n) (nd.erase _) (fun x hx => by
      have h1 := h x (List.mem_of_mem_erase hx)
      have h2 : x ≠ n := fun e => nd.not_mem_erase (e ▸ hx)
      omega)
    by_cases c : n ∈ l
    · rw [List.length_erase_of_mem c] at z
      omega
    · rw [List.erase_of_not_mem c] at z
      omega
/-! ### the walk that numbers the states -/
theorem nx_grow {R : Tbl} {L : List (Option Nat)} {o : Option Nat} {i k : Nat} : nx (R ++ [L ++ [o]]) i k = if i = R.length ∧ k = L.length then o else nx (R ++ [L]) i k := by
  unfold nx
  simp only [List.getD_eq_getElem?_getD]
  by_cases c : i < R.length
  · rw [if_neg (by omega), List.getElem?_append_left c, List.getElem?_append_left c]
  · rw [List.getElem?_append_right (by omega), List.getElem?_append_right (by omega)]
    by_cases d : i = R.length
    · subst d
      rw [Nat.sub_self]
      show ((L ++ [o])[k]?).getD none = if R.length = R.length ∧ k = L.length then o else (L[k]?).getD none
      by_cases e : k < L.length
      · rw [if_neg (by omega), List.getElem?_append_left e]
      · rw [List.getElem?_append_right (by omega)]
        by_cases f : k = L.length
        · subst f
          rw [if_pos ⟨rfl, rfl⟩, Nat.sub_self]
          rfl
        · rw [if_neg (by omega), List.getElem?_eq_none (by simp; omega), List.getElem?_eq_none (by omega)]
    · rw [if_neg (by omega)]
      obtain ⟨x, hx⟩ : ∃ x, i - R.length = x + 1 := ⟨i - R.length - 1, by omega⟩
      rw [hx]
      rfl
theorem nx_close {A : Tbl} {i k : Nat} : nx (A ++ [[]]) i k = nx A i k := by
  unfold nx
  simp only [List.getD_eq_getElem?_getD]
  by_cases c : i < A.length
  · rw [List.getElem?_append_left c]
  · rw [List.getElem?_append_right (by omega), List.getElem?_eq_none (show A.length ≤ i by omega)]
    cases h : i - A.length with
    | zero => rfl
    | succ x => rfl
structure Bf (T : Tbl) (G : Nat → Prop) (m : Nat) (met : List Nat) (R : Tbl) (L : List (Option Nat)) : Prop where
  zero : met[0]? = some 0
  live : ∀ s ∈ met, s < T.length ∧ Liv T G s
  ap : ∀ (i j s t : Nat), met[i]? = some s → met[j]? = some t → Leq T G s t → i = j
  row : ∀ r ∈ R, r.length = m
  len : L.length ≤ m
  le : R.length ≤ met.length
  no : ∀ (i s k : Nat), (i < R.length ∧ k < m ∨ i = R.length ∧ k < L.length) → met[i]? = some s → nx (R ++ [L]) i k = none → nx T s k = none
  yes : ∀ (i s k j : Nat), met[i]? = some s → nx (R ++ [L]) i k = some j → ∃ e t, nx T s k = some e ∧ met[j]? = some t ∧ Leq T G e t
  bd : ∀ (i k j : Nat), nx (R ++ [L]) i k = some j → j < met.length
  ord : ∀ j : Nat, 0 < j → j < met.length → ∃ i k : Nat, i < j ∧ nx (R ++ [L]) i k = some j ∧ ∀ (i' k' j' : Nat), (i' < i ∨ i' = i ∧ k' < k) → nx (R ++ [L]) i' k' = some j' → j' < j
theorem nx_out {R : Tbl} {L : List (Option Nat)} {i k j : Nat} (h : nx (R ++ [L]) i k = some j) : i < R.length ∨ i = R.length ∧ k < L.length := by
  obtain ⟨r, h1, h2⟩ := nx_mem h
  have hi := (List.getElem?_eq_some_iff.mp h1).1
  rw [List.length_append] at hi
  have hi : i < R.length + 1 := hi
  by_cases c : i < R.length
  · exact .inl c
  · have e : i = R.length := by omega
    subst e
    rw [List.getElem?_append_right (Nat.le_refl _), Nat.sub_self] at h1
    cases h1
    exact .inr ⟨rfl, (List.getElem?_eq_some_iff.mp h2).1⟩
/-- one more entry: none, or an old number, or the next one -/
theorem Bf.put {T : Tbl} {G : Nat → Prop} {m : Nat} {met more : List Nat} {R : Tbl} {L : List (Option Nat)} {o : Option Nat} {s : Nat} (h : Bf T G m met R L) (hs : met[R.length]? = some s) (hL : L.length < m)
    (hm : more = [] ∨ ∃ e, more = [e] ∧ o = some met.length ∧ e < T.length ∧ Liv T G e ∧ ∀ t ∈ met, ¬ Leq T G e t)
    (ho : (o = none ∧ nx T s L.length = none) ∨ ∃ j e t, o = some j ∧ nx T s L.length = some e ∧ (met ++ more)[j]? = some t ∧ Leq T G e t) : Bf T G m (met ++ more) R (L ++ [o]) := by
  have ml : R.length < met.length := (List.getElem?_eq_some_iff.mp hs).1
  have up : ∀ {i t : Nat}, met[i]? = some t → (met ++ more)[i]? = some t := fun {i t} hi => by
    rw [List.getElem?_append_left (List.getElem?_eq_some_iff.mp hi).1]
    exact hi
  have dn : ∀ {i t : Nat}, (met ++ more)[i]? = some t → met[i]? = some t ∨ (i = met.length ∧ more = [t]) := fun {i t} hi => by
    by_cases c : i < met.length
    · rw [List.getElem?_append_left c] at hi
      exact .inl hi
    · rw [List.getElem?_append_right (by omega)] at hi
      rcases hm with rfl | ⟨e, rfl, _⟩
      · simp at hi
      · have c2 : i - met.length = 0 := by
          have := (List.getElem?_eq_some_iff.mp hi).1
          simp at this
          omega
        rw [c2] at hi
        cases hi
        exact .inr ⟨by omega, rfl⟩
  have low : ∀ {i t : Nat}, (met ++ more)[i]? = some t → i < met.length → met[i]? = some t := fun {i t} hi hl => by
    rw [List.getElem?_append_left hl] at hi
    exact hi
  refine ⟨up h.zero, fun t ht => ?_, fun i j a b ha hb l => ?_, h.row, by rw [List.length_append]; exact hL, Nat.le_trans h.le (by rw [List.length_append]; omega), fun i a k hc ha hn => ?_, fun i a k j ha hy => ?_, fun i k j hy => ?_, fun j j0 jl => ?_⟩
  · rcases List.mem_append.mp ht with ht | ht
    · exact h.live t ht
    · rcases hm with rfl | ⟨e, rfl, _, e1, e2, _⟩
      · exact absurd ht (by simp)
      · rw [List.mem_singleton.mp ht]
        exact ⟨e1, e2⟩
  · rcases dn ha with ha1 | ⟨rfl, ma⟩
    · rcases dn hb with hb1 | ⟨rfl, mb⟩
      · exact h.ap i j a b ha1 hb1 l
      · rcases hm with rfl | ⟨e, rfl, _, _, _, no⟩
        · cases mb
        · cases mb
          exact absurd l.symm (no a (List.mem_of_getElem? ha1))
    · rcases dn hb with hb1 | ⟨rfl, mb⟩
      · rcases hm with rfl | ⟨e, rfl, _, _, _, no⟩
        · cases ma
        · cases ma
          exact absurd l (no b (List.mem_of_getElem? hb1))
      · rfl
  · rw [nx_grow] at hn
    by_cases c : i = R.length ∧ k = L.length
    · rw [if_pos c] at hn
      rcases ho with ⟨_, h2⟩ | ⟨j, e, t, h1, _⟩
      · rw [c.1] at ha
        have := low ha ml
        rw [hs] at this
        cases this
        rw [c.2]
        exact h2
      · rw [h1] at hn; cases hn
    · rw [if_neg c] at hn
      rw [List.length_append] at hc
      have hc : i < R.length ∧ k < m ∨ i = R.length ∧ k < L.length + 1 := hc
      exact h.no i a k (by omega) (low ha (by omega)) hn
  · rw [nx_grow] at hy
    by_cases c : i = R.length ∧ k = L.length
    · rw [if_pos c] at hy
      rcases ho with ⟨h1, _⟩ | ⟨j', e, t, h1, h2, h3, h4⟩
      · rw [h1] at hy; cases hy
      · rw [h1] at hy
        cases hy
        rw [c.1] at ha
        have := low ha ml
        rw [hs] at this
        cases this
        rw [c.2]
        exact ⟨e, t, h2, h3, h4⟩
    · rw [if_neg c] at hy
      have hi := nx_out hy
      obtain ⟨e, t, h1, h2, h3⟩ := h.yes i a k j (low ha (by omega)) hy
      exact ⟨e, t, h1, up h2, h3⟩
  · rw [nx_grow] at hy
    rw [List.length_append]
    by_cases c : i = R.length ∧ k = L.length
    · rw [if_pos c] at hy
      rcases ho with ⟨h1, _⟩ | ⟨j', e, t, h1, h2, h3, h4⟩
      · rw [h1] at hy; cases hy
      · rw [h1] at hy
        cases hy
        have := (List.getElem?_eq_some_iff.mp h3).1
        rwa [List.length_append] at this
    · rw [if_neg c] at hy
      have := h.bd i k j hy
      omega
  · by_cases c : j < met.length
    · obtain ⟨i, k, h1, h2, h3⟩ := h.ord j j0 c
      have hi := nx_out h2
      refine ⟨i, k, h1, ?_, fun i' k' j' hb hy => ?_⟩
      · rw [nx_grow, if_neg (by omega)]
        exact h2
      · rw [nx_grow, if_neg (by omega)] at hy
        exact h3 i' k' j' hb hy
    · rcases hm with rfl | ⟨e, rfl, ho2, _⟩
      · rw [List.append_nil] at jl
        exact absurd jl c
      · have hj : j = met.length := by
          rw [List.length_append] at jl
          have jl : j < met.length + 1 := jl
          omega
        subst hj
        refine ⟨R.length, L.length, ml, by rw [nx_grow, if_pos ⟨rfl, rfl⟩]; exact ho2, fun i' k' j' hb hy => ?_⟩
        rw [nx_grow, if_neg (by omega)] at hy
        exact h.bd i' k' j' hy
theorem Bf.close {T : Tbl} {G : Nat → Prop} {m : Nat} {met : List Nat} {R : Tbl} {L : List (Option Nat)} (h : Bf T G m met R L) (hR : R.length < met.length) (hL : L.length = m) : Bf T G m met (R ++ [L]) [] := by
  refine ⟨h.zero, h.live, h.ap, fun r hr => ?_, Nat.zero_le _, by rw [List.length_append]; exact hR, fun i s k hc hs hn => ?_, fun i s k j hs hy => ?_, fun i k j hy => ?_, fun j j0 jl => ?_⟩
  · rcases List.mem_append.mp hr with hr | hr
    · exact h.row r hr
    · rw [List.mem_singleton.mp hr]
      exact hL
  · rw [nx_close] at hn
    rw [List.length_append] at hc
    have hc : i < R.length + 1 ∧ k < m ∨ i = R.length + 1 ∧ k < 0 := hc
    exact h.no i s k (by omega) hs hn
  · rw [nx_close] at hy
    exact h.yes i s k j hs hy
  · rw [nx_close] at hy
    exact h.bd i k j hy
  · obtain ⟨i, k, h1, h2, h3⟩ := h.ord j j0 jl
    exact ⟨i, k, h1, by rw [nx_close]; exact h2, fun i' k' j' hb hy => h3 i' k' j' hb (by rw [nx_close] at hy; exact hy)⟩
theorem Bf.start {T : Tbl} {G : Nat → Prop} {m : Nat} (h : 0 < T.length) (l : Liv T G 0) : Bf T G m [0] [] [] := by
  have e : ∀ i k, nx ([] ++ [[]]) i k = none := fun i k => by
    rw [nx_close]
    rfl
  refine ⟨rfl, fun s hs => by rw [List.mem_singleton.mp hs]; exact ⟨h, l⟩, fun i j s t hi hj _ => ?_, fun r hr => absurd hr (by simp), Nat.zero_le _, Nat.zero_le _, fun i s k hc _ _ => ?_, fun i s k j _ hy => ?_, fun i k j hy => ?_, fun j j0 jl => ?_⟩
  · have h1 := (List.getElem?_eq_some_iff.mp hi).1
    have h2 := (List.getElem?_eq_some_iff.mp hj).1
    have h1 : i < 1 := h1
    have h2 : j < 1 := h2
    omega
  · have hc : i < 0 ∧ k < m ∨ i = 0 ∧ k < 0 := hc
    omega
  · rw [e] at hy; cases hy
  · rw [e] at hy; cases hy
  · have jl : j < 1 := jl
    omega
theorem Bf.nodup {T : Tbl} {G : Nat → Prop} {m : Nat} {met : List Nat} {R : Tbl} {L : List (Option Nat)} (h : Bf T G m met R L) : met.length ≤ T.length := by
  have nd : met.Nodup := by
    rw [List.Nodup, List.pairwise_iff_getElem]
    intro i j hi hj hij e
    have h1 := List.getElem?_eq_getElem hi
    have h2 := List.getElem?_eq_getElem hj
    have := h.ap i j _ _ h1 h2 (by rw [e]; exact Leq.refl _)
    omega
  exact nd_len nd fun x hx => (h.live x hx).1
theorem Bf.nf {T : Tbl} {G : Nat → Prop} {m : Nat} {met : List Nat} {R : Tbl} {g : List Nat} (wf : Wf T m) (h : Bf T G m met R []) (hR : R.length = met.length) (hg : ∀ i : Nat, i ∈ g ↔ ∃ s, met[i]? = some s ∧ G s) (asc : g.Pairwise (· < ·)) : NfOf T G m R g met where
  zero := h.zero
  len := hR
  row := h.row
  live := h.live
  ap := h.ap
  no := fun i s k hs hn e he _ => by
    have hi := (List.getElem?_eq_some_iff.mp hs).1
    have := h.no i s k (.inl ⟨by omega, (nx_lt wf he).2.1⟩) hs (by rw [nx_close]; exact hn)
    rw [this] at he
    cases he
  yes := fun i s k j hs hy => h.yes i s k j hs (by rw [nx_close]; exact hy)
  good := hg
  asc := asc
  ord := fun j j0 jl => by
    obtain ⟨i, k, h1, h2, h3⟩ := h.ord j j0 jl
    rw [nx_close] at h2
    exact ⟨i, k, h1, h2, fun i' k' j' hb hy => h3 i' k' j' hb (by rw [nx_close]; exact hy)⟩
/-! ### letters -/
def ixOf : List Nat → Nat → Option Nat
  | [], _ => none
  | x :: l, c => if x = c then some 0 else (ixOf l c).map (· + 1)
theorem ixOf_some : ∀ {l : List Nat} {c i : Nat}, ixOf l c = some i → l[i]? = some c
  | [], _, _, h => by cases h
  | x :: l, c, i, h => by
    unfold ixOf at h
    by_cases e : x = c
    · rw [if_pos e] at h
      cases h
      rw [e]
      rfl
    · rw [if_neg e] at h
      obtain ⟨j, hj, rfl⟩ := Option.map_eq_some_iff.mp h
      show l[j]? = some c
      exact ixOf_some hj
theorem ixOf_none : ∀ {l : List Nat} {c : Nat}, ixOf l c = none ↔ c ∉ l
  | [], _ => ⟨fun _ h => (by cases h), fun _ => rfl⟩
  | x :: l, c => by
    unfold ixOf
    by_cases e : x = c
    · rw [if_pos e]
      exact ⟨fun h => (by cases h), fun h => absurd (by rw [e]; exact List.mem_cons_self) h⟩
    · rw [if_neg e, Option.map_eq_none_iff, ixOf_none]
      exact ⟨fun h m => (List.mem_cons.mp m).elim (fun z => e z.symm) h, fun h m => h (List.mem_cons_of_mem _ m)⟩
theorem rs_app (T : Tbl) (ix : Nat → Option Nat) : ∀ (u : List Nat) (o : Option Nat) (v : List Nat), rs T ix o (u ++ v) = rs T ix (rs T ix o u) v
  | [], _, _ => rfl
  | _ :: _, none, v => (rs_none T ix v).symm
  | c :: u, some s, v => by
    show (match ix c with | none => none | some k => rs T ix (nx T s k) (u ++ v)) = rs T ix (match ix c with | none => none | some k => rs T ix (nx T s k) u) v
    cases ix c with
    | none => exact (rs_none T ix v).symm
    | some k => exact rs_app T ix u (nx T s k) v
theorem rs_one {T : Tbl} {ix : Nat → Option Nat} {s c : Nat} : rs T ix (some s) [c] = match ix c with | none => none | some k => nx T s k := by
  show (match ix c with | none => none | some k => rs T ix (nx T s k) []) = _
  cases ix c with
  | none => rfl
  | some k =>
    show rs T ix (nx T s k) [] = nx T s k
    cases nx T s k <;> rfl
theorem Nf.wf {T : Tbl} {G : Nat → Prop} {m : Nat} {R : Tbl} {g : List Nat} (h : Nf T G m R g) : Wf R m ∧ ∀ j ∈ g, j < R.length := by
  rcases h with ⟨rfl, rfl, _⟩ | ⟨met, h⟩
  · exact ⟨⟨fun r m => absurd m (by simp), fun r m => absurd m (by simp)⟩, fun j m => absurd m (by simp)⟩
  · refine ⟨⟨h.row, fun r hr e he => ?_⟩, fun j hj => ?_⟩
    · obtain ⟨i, hi, rfl⟩ := List.getElem_of_mem hr
      obtain ⟨k, hk, ek⟩ := List.getElem_of_mem he
      have hm : i < met.length := by rw [← h.len]; exact hi
      obtain ⟨_, t, _, h2, _⟩ := h.yes i met[i] k e (List.getElem?_eq_getElem hm) (nx_at (List.getElem?_eq_getElem hi) (by rw [List.getElem?_eq_getElem hk, ek]))
      rw [h.len]
      exact (List.getElem?_eq_some_iff.mp h2).1
    · obtain ⟨s, hs, _⟩ := (h.good j).mp hj
      rw [h.len]
      exact (List.getElem?_eq_some_iff.mp hs).1
theorem cnt_all {al : Nat → Bool} : ∀ {n : Nat}, n ≤ cnt al n → ∀ s, s < n → al s = true
  | 0, _, s, hs => absurd hs (Nat.not_lt_zero _)
  | n + 1, h, s, hs => by
    rw [cnt_succ] at h
    have le := cnt_le al n
    cases e : al n with
    | false =>
      rw [e] at h
      simp at h
      omega
    | true =>
      by_cases c : s = n
      · rw [c]; exact e
      · rw [e] at h
        simp at h
        exact cnt_all (by omega) s (by omega)
/-- one round over all states -/
theorem round_end {T : Tbl} {m r : Nat} {a0 al : Nat → Bool} (wf : Wf T m) (h0 : r ≤ cnt a0 T.length ∨ ∀ s k e, nx T s k = some e → a0 e = true → a0 s = true) (mo : ∀ s, a0 s = true → al s = true) (cl : (∀ s k e, nx T s k = some e → a0 e = true → a0 s = true) → ∀ s, al s = a0 s)
    (st : ∀ s, s < T.length → ∀ k e, nx T s k = some e → a0 e = true → al s = true) : r + 1 ≤ cnt al T.length ∨ ∀ s k e, nx T s k = some e → al e = true → al s = true := by
  by_cases c : ∀ s k e, nx T s k = some e → a0 e = true → a0 s = true
  · right
    intro s k e h1 h2
    rw [cl c] at h2 ⊢
    exact c s k e h1 h2
  · have h1 := h0.resolve_right c
    by_cases d : ∃ x, x < T.length ∧ a0 x = false ∧ al x = true
    · obtain ⟨x, hx, e1, e2⟩ := d
      have := cnt_lt (n := T.length) (fun s _ => mo s) hx e1 e2
      left
      omega
    · refine absurd (fun s k e h2 h3 => ?_) c
      have hs := (nx_lt wf h2).2.2
      cases e4 : a0 s with
      | true => rfl
      | false => exact absurd ⟨s, hs, e4, st s hs k e h2 h3⟩ d
end Mc
set_option Elab.async false
set_option linter.all false
set_option maxRecDepth 100000
namespace Z
open PySem PySem.Spec PyProof.Rows L2 Mc
def eV : Option Nat → V
  | none => .non
  | some k => .int (k : Int)
/-- a table: a list (or tuple) of lists (or tuples) -/
structure Tb (q q2 : Bool) (K : PySem.W.Frag) (H : Hp) (a : Addr) (zs : List (Addr × List (Option Nat))) : Prop where
  sq : SqK q K H a (zs.map fun z => V.ref z.1)
  at_ : ∀ z ∈ zs, SqK q2 K H z.1 (z.2.map eV)
theorem Tb.mono {q q2 : Bool} {K : PySem.W.Frag} {H H' : Hp} {a : Addr} {zs : List (Addr × List (Option Nat))} (s : Same H H') (h : Tb q q2 K H a zs) : Tb q q2 K H' a zs := ⟨Z.Same.sqK s h.sq, fun z m => Z.Same.sqK s (h.at_ z m)⟩
def tb (zs : List (Addr × List (Option Nat))) : Tbl := zs.map (·.2)
def gsq (gs : List Nat) : List V := gs.map fun (g : Nat) => .int (g : Int)
/-! ### tables as data -/
def eD : Option Nat → PyData
  | none => .none
  | some k => .int (k : Int)
def rowD (b : Bool) (r : List (Option Nat)) : PyData := sqD b (r.map eD)
def tbD (b b2 : Bool) (T : Tbl) : PyData := sqD b (T.map (rowD b2))
theorem dpa_row {K : PySem.W.Frag} {H : Hp} : ∀ r : List (Option Nat), DpAll K H (r.map eV) (r.map eD)
  | [] => .nil
  | none :: r => .cons .non (dpa_row r)
  | some k :: r => .cons (.int _) (dpa_row r)
theorem dp_row {b : Bool} {K : PySem.W.Frag} {H : Hp} {a : Addr} {r : List (Option Nat)} (h : SqK b K H a (r.map eV)) : Dp K H (.ref a) (rowD b r) := dp_sq h (dpa_row r)
theorem dpa_tb {b : Bool} {K : PySem.W.Frag} {H : Hp} : ∀ {zs : List (Addr × List (Option Nat))}, (∀ z ∈ zs, SqK b K H z.1 (z.2.map eV)) → DpAll K H (zs.map fun z => V.ref z.1) ((tb zs).map (rowD b))
  | [], _ => .nil
  | z :: zs, h => .cons (dp_row (h z List.mem_cons_self)) (dpa_tb fun y m => h y (List.mem_cons_of_mem _ m))
theorem Tb.dp {q q2 : Bool} {K : PySem.W.Frag} {H : Hp} {a : Addr} {zs : List (Addr × List (Option Nat))} (h : Tb q q2 K H a zs) : Dp K H (.ref a) (tbD q q2 (tb zs)) := dp_sq h.sq (dpa_tb h.at_)
theorem lay_row : ∀ r : List (Option Nat), PyData.canLayAll0 (r.map eD) = true
  | [] => rfl
  | none :: r => by
    rw [List.map_cons, PyData.canLayAll0, lay_row r]
    rfl
  | some _ :: r => by
    rw [List.map_cons, PyData.canLayAll0, lay_row r]
    rfl
theorem dep_row : ∀ r : List (Option Nat), PyData.depthAll (r.map eD) = 0
  | [] => rfl
  | none :: r => by
    rw [List.map_cons, PyData.depthAll, dep_row r]
    rfl
  | some _ :: r => by
    rw [List.map_cons, PyData.depthAll, dep_row r]
    rfl
theorem shaped_row (b : Bool) (r : List (Option Nat)) : SeqAt.shaped (rowD b r) = true := by
  unfold SeqAt.shaped rowD
  cases b
  · show (PyData.canLayAll0 (r.map eD) && decide (PyData.depthAll (r.map eD) + 1 ≤ 64)) = true
    rw [lay_row, dep_row]
    rfl
  · show (PyData.canLayAll0 (r.map eD) && decide (PyData.depthAll (r.map eD) + 1 ≤ 64)) = true
    rw [lay_row, dep_row]
    rfl
theorem lay_tb (b : Bool) : ∀ T : Tbl, PyData.canLayAll0 (T.map (rowD b)) = true
  | [] => rfl
  | n :: r => by
    rw [List.map_cons, PyData.canLayAll0, lay_tb b r, SeqAt.canLay_of_shaped (shaped_row b n)]
    rfl
theorem dep_tb (b : Bool) : ∀ T : Tbl, PyData.depthAll (T.map (rowD b)) ≤ 1
  | [] => Nat.zero_le _
  | n :: r => by
    rw [List.map_cons, PyData.depthAll]
    have h := dep_tb b r
    have h2 : (rowD b n).depth = 1 := by
      cases b
      · show PyData.depthAll (n.map eD) + 1 = 1
        rw [dep_row]
      · show PyData.depthAll (n.map eD) + 1 = 1
        rw [dep_row]
    omega
theorem shaped_tb (b b2 : Bool) (T : Tbl) : SeqAt.shaped (tbD b b2 T) = true := by
  have h := dep_tb b2 T
  unfold SeqAt.shaped tbD
  cases b
  · show (PyData.canLayAll0 (T.map (rowD b2)) && decide (PyData.depthAll (T.map (rowD b2)) + 1 ≤ 64)) = true
    rw [lay_tb, decide_eq_true (by omega)]
    rfl
  · show (PyData.canLayAll0 (T.map (rowD b2)) && decide (PyData.depthAll (T.map (rowD b2)) + 1 ≤ 64)) = true
    rw [lay_tb, decide_eq_true (by omega)]
    rfl
theorem eqv_e (a b : Option Nat) : PyData.eqv (eD a) (eD b) = decide (a = b) := by
  cases a <;> cases b
  · rfl
  · rfl
  · rfl
  · rename_i x y
    show PyData.eqv (.int (x : Int)) (.int (y : Int)) = _
    rw [PyData.eqv]
    by_cases h : x = y
    · subst h
      simp
    · have h2 : ¬ (x : Int) = (y : Int) := by omega
      have h3 : ¬ (some x = some y) := fun z => h (by injection z)
      rw [decide_eq_false h3]
      simp [h2]
theorem eqvAll_row : ∀ r s : List (Option Nat), PyData.eqvAll (r.map eD) (s.map eD) = decide (r = s)
  | [], [] => rfl
  | [], _ :: _ => rfl
  | _ :: _, [] => rfl
  | a :: r, b :: s => by
    rw [List.map_cons, List.map_cons, PyData.eqvAll, eqv_e, eqvAll_row r s]
    by_cases h1 : a = b
    · by_cases h2 : r = s
      · simp [h1, h2]
      · simp [h1, h2]
    · simp [h1]
theorem eqv_row (b : Bool) (r s : List (Option Nat)) : PyData.eqv (rowD b r) (rowD b s) = decide (r = s) := by
  cases b
  · show PyData.eqv (.tuple _) (.tuple _) = _
    rw [PyData.eqv, eqvAll_row]
  · show PyData.eqv (.list _) (.list _) = _
    rw [PyData.eqv, eqvAll_row]
theorem eqvAll_tb (b : Bool) : ∀ T U : Tbl, PyData.eqvAll (T.map (rowD b)) (U.map (rowD b)) = decide (T = U)
  | [], [] => rfl
  | [], _ :: _ => rfl
  | _ :: _, [] => rfl
  | a :: r, c :: s => by
    rw [List.map_cons, List.map_cons, PyData.eqvAll, eqv_row, eqvAll_tb b r s]
    by_cases h1 : a = c
    · by_cases h2 : r = s
      · simp [h1, h2]
      · simp [h1, h2]
    · simp [h1]
theorem eqv_tb (b b2 : Bool) (T U : Tbl) : PyData.eqv (tbD b b2 T) (tbD b b2 U) = decide (T = U) := by
  cases b
  · show PyData.eqv (.tuple _) (.tuple _) = _
    rw [PyData.eqv, eqvAll_tb]
  · show PyData.eqv (.list _) (.list _) = _
    rw [PyData.eqv, eqvAll_tb]
/-! ### lists of numbers as data -/
def natD (b : Bool) (g : List Nat) : PyData := intsD b (g.map fun (x : Nat) => (x : Int))
theorem gsq_ints (g : List Nat) : gsq g = (g.map fun (x : Nat) => (x : Int)).map V.int := by
  unfold gsq
  rw [List.map_map]
  rfl
theorem dp_nat {b : Bool} {K : PySem.W.Frag} {H : Hp} {a : Addr} {g : List Nat} (h : SqK b K H a (gsq g)) : Dp K H (.ref a) (natD b g) := by
  rw [gsq_ints] at h
  exact dp_ints h
theorem shaped_nat (b : Bool) (g : List Nat) : SeqAt.shaped (natD b g) = true := shaped_ints _ _
theorem natI_inj : ∀ {g h : List Nat}, (g.map fun (x : Nat) => (x : Int)) = (h.map fun (x : Nat) => (x : Int)) → g = h
  | [], [], _ => rfl
  | [], _ :: _, e => by cases e
  | _ :: _, [], e => by cases e
  | a :: g, b :: h, e => by
    rw [List.map_cons, List.map_cons] at e
    injection e with e1 e2
    rw [show a = b by omega, natI_inj e2]
theorem eqv_nat (b : Bool) (g h : List Nat) : PyData.eqv (natD b g) (natD b h) = decide (g = h) := by
  have key : PyData.eqv (natD b g) (natD b h) = decide ((g.map fun (x : Nat) => (x : Int)) = (h.map fun (x : Nat) => (x : Int))) := by
    cases b
    · show PyData.eqv (.tuple _) (.tuple _) = _
      rw [PyData.eqv, PySem.W.ked_eqvAll]
    · show PyData.eqv (.list _) (.list _) = _
      rw [PyData.eqv, PySem.W.ked_eqvAll]
  rw [key]
  exact decide_eq_decide.mpr ⟨natI_inj, fun e => by rw [e]⟩
end Z
set_option pp.maxSteps 700
set_option Elab.async false
set_option linter.all false
set_option maxRecDepth 100000
set_option maxHeartbeats 4000000
open SX (S S_inj S_len S_cat)
namespace Z
open Mc
open PySem PySem.Spec PyProof.Rows L2
open C8 (pss_cut tCut)
local macro_rules | `(tactic| walk_at "num") => `(tactic| first | rfl | omega | decide | exact Nat.le_of_lt (small1000 (by simp)) | exact ⟨by omega, by omega⟩ | exact ⟨by omega, by omega, by omega⟩ | exact ⟨by decide, by decide, by decide⟩ | exact Or.inl ⟨by omega, by omega⟩ | exact Or.inr ⟨by omega, by omega⟩)
local macro_rules | `(tactic| walk_at "go") => `(tactic| repeat (first | refine ⟨_, rfl, ?_⟩ | refine ⟨_, _, rfl, rfl, ?_⟩ | refine ⟨_, _, rfl, ?_⟩ | (refine ⟨_, _, rfl, rfl, ?_, ?_⟩; focus walk_at "num") | refine Or.inl ⟨_, rfl, ?_⟩ | refine ⟨_, _, _, _, rfl, rfl, (by assumption), (by rfl), ?_⟩ | refine ⟨_, _, _, _, _, rfl, (by assumption), (by assumption), (by assumption), (by rfl), ?_⟩ | refine ⟨rfl, ?_⟩ | (refine And.intro ?_ ?_; focus walk_at "num")))
abbrev s_check_letters : Stmt := topS 39
abbrev N_check_letters : List Str := ["letters", "index", "letter"]
abbrev P_check_letters : List Str := ["letters"]
theorem sc_check_letters : FnScope N_check_letters P_check_letters (defScope s_check_letters) := ⟨rfl, rfl, rfl, by decide +kernel, rfl, by decide +kernel, by decide +kernel⟩
abbrev s_check_rows : Stmt := topS 40
abbrev N_check_rows : List Str := ["many", "rows", "state", "row", "entry"]
abbrev P_check_rows : List Str := ["many", "rows"]
theorem sc_check_rows : FnScope N_check_rows P_check_rows (defScope s_check_rows) := ⟨rfl, rfl, rfl, by decide +kernel, rfl, by decide +kernel, by decide +kernel⟩
abbrev s_flags_of : Stmt := topS 25
abbrev N_flags_of : List Str := ["many", "states", "state", "found"]
abbrev P_flags_of : List Str := ["many", "states"]
theorem sc_flags_of : FnScope N_flags_of P_flags_of (defScope s_flags_of) := ⟨rfl, rfl, rfl, by decide +kernel, rfl, by decide +kernel, by decide +kernel⟩
theorem set_flag {n g : Nat} {gs : List Nat} : ((List.range n).map fun i => V.bl (decide (i ∈ gs))).set g (V.bl true) = (List.range n).map fun i => V.bl (decide (i ∈ gs ++ [g])) := by
  apply List.ext_getElem
  · rw [List.length_set, List.length_map, List.length_map]
  · intro i h1 h2
    rw [List.length_map, List.length_range] at h2
    rw [List.getElem_set, List.getElem_map, List.getElem_map, List.getElem_range]
    by_cases c : g = i
    · rw [if_pos c, decide_eq_true (by rw [c]; exact List.mem_append_right _ List.mem_cons_self)]
    · rw [if_neg c]
      congr 1
      refine decide_eq_decide.mpr ⟨fun m => List.mem_append_left _ m, fun m => ?_⟩
      rcases List.mem_append.mp m with m | m
      · exact m
      · exact absurd (List.mem_singleton.mp m).symm c
section
variable {P : Program} {w : World} {K : PySem.W.Frag} {mg : Str → Option Value} {base : Heap} {f : Addr} {fd : FuncData}
def spCkL : Sp := fun vs H Q _ => ∃ l : List Nat, vs = [.str (S l)] ∧ l.Nodup ∧ l ≠ [] ∧ l.length ≤ 100000 ∧ ∀ H', Same H H' → Q .non H'
theorem ok_check_letters (F : FnP K "check_letters" s_check_letters f fd) (m_enumerate : mg "enumerate" = none) : FnOk P w K mg base CX0 1 f fd P_check_letters spCkL := by
  refine F.ok sc_check_letters (fun vs H Q E h => ?_) (fun cdv A outer s H vs Q E hr h => ?_)
  · obtain ⟨l, rfl, _⟩ := h
    rfl
  · obtain ⟨l, rfl, nd, ne, ll, q⟩ := h
    refine ⟨_, PSs.nox (pss_cons (ps_for PassesOwn.never rfl (pi_enumS (by rfl) m_enumerate (pa_cons (pv 0) pa_nil)) (pg_tup rfl (pgs_cons (pg_name (i := 1) sc_check_letters.nd rfl (by first | exact .inl rfl | exact .inr rfl)) (pgs_cons (pg_name (i := 2) sc_check_letters.nd rfl (by first | exact .inl rfl | exact .inr rfl)) pgs_nil)))
        (pss_one (ps_if (pt_cmpR op_in_sign (pv 2) (pe_slice C8.sl_txt (pv 0) po_none (po_some (pv 1))) (by rfl)) (pss_one ps_never) pss_nil)))
      (pss_one (ps_if (pt_cmpR op_eq (pv 0) pe_str (nomark _)) (pss_one ps_never) pss_nil))), ?_⟩
    walk_at "go"
    refine for_enumS (K := K) (fun k σ H1 => Same H H1 ∧ ∃ v1 v2 : Option V, σ = [some (.str (S l)), v1, v2]) ⟨Same.refl _, none, none, rfl⟩ ?_ ?_
    · rintro k c σ H1 H2 ec ⟨s1, v1, v2, rfl⟩ s2
      have ec : l[k]? = some c := by simpa using ec
      have hk := (List.getElem?_eq_some_iff.mp ec).1
      walk_at "go"
      refine ⟨by rw [S_len]; exact Nat.le_trans ll (by decide), ?_⟩
      rw [SX.slice_to (by omega), Int.toNat_natCast]
      walk_at "go"
      have no : c ∉ (S (l.take k)).cps.toList := by
        show c ∉ l.take k
        intro hm
        obtain ⟨j, hj, e⟩ := List.getElem_of_mem hm
        rw [List.length_take] at hj
        rw [List.getElem_take] at e
        have h2 := List.getElem?_eq_getElem (show j < l.length by omega)
        rw [e] at h2
        have := nd_inj nd h2 ec
        omega
      rw [decide_eq_false no]
      walk_at "go"
      exact ⟨s1.trans s2, _, _, rfl⟩
    · rintro σ H1 ⟨s1, v1, v2, rfl⟩
      walk_at "go"
      rw [decide_eq_false (show ¬ V.str (S l) = V.str (Str.ofString "") from fun z => by injection z with z; exact ne (S_inj (z.trans (show Str.ofString "" = S [] from rfl))))]
      exact q H1 s1
def spCkR (K : PySem.W.Frag) : Sp := fun vs H Q _ => ∃ (q q2 : Bool) (m : Nat) (a : Addr) (zs : List (Addr × List (Option Nat))), vs = [.int (m : Int), .ref a] ∧ Tb q q2 K H a zs ∧ Wf (tb zs) m ∧ ∀ H', Same H H' → Q .non H'
theorem ok_check_rows (F : FnP K "check_rows" s_check_rows f fd) (m_enumerate : mg "enumerate" = none) (m_len : mg "len" = none) : FnOk P w K mg base CX0 1 f fd P_check_rows (spCkR K) := by
  refine F.ok sc_check_rows (fun vs H Q E h => ?_) (fun cdv A outer s H vs Q E hr h => ?_)
  · obtain ⟨q, q2, m, a, zs, rfl, _⟩ := h
    rfl
  · obtain ⟨q, q2, m, a, zs, rfl, hT, wf, qq⟩ := h
    refine ⟨_, PSs.nox (pss_one (ps_for PassesOwn.never rfl (pi_enumM (by rfl) m_enumerate (pa_cons (pv 1) pa_nil)) (pg_tup rfl (pgs_cons (pg_name (i := 2) sc_check_rows.nd rfl (by first | exact .inl rfl | exact .inr rfl)) (pgs_cons (pg_name (i := 3) sc_check_rows.nd rfl (by first | exact .inl rfl | exact .inr rfl)) pgs_nil)))
        (pss_cons (ps_if (pt_cmpR op_ne (pe_callB call_len_seq (by rfl) m_len PySem.boot_len (pa_cons (pv 3) pa_nil)) (pv 0) (nomark _)) (pss_one ps_never) pss_nil)
      (pss_one (ps_for PassesOwn.never rfl (pi_sq (pv 3)) (pg_name (i := 4) sc_check_rows.nd rfl (by first | exact .inl rfl | exact .inr rfl))
        (pss_one (ps_if (PW.pt (pw_and (pt_cmpR op_notN (pv 4) pe_non (nomark _)) (pw_and1 (pt_not (pt_chain op_le op_lt pe_int (pv 4) (pe_callB call_len_seq (by rfl) m_len PySem.boot_len (pa_cons (pv 1) pa_nil))))))) (pss_one ps_never) pss_nil))))))), ?_⟩
    walk_at "go"
    refine ⟨q, _, _, rfl, hT.sq, ?_⟩
    refine for_enum hT.sq (fun k σ H1 => Same H H1 ∧ ∃ v2 v3 v4 : Option V, σ = [some (.int (m : Int)), some (.ref a), v2, v3, v4]) ⟨Same.refl _, none, none, none, rfl⟩ (fun k σ H1 p => p.1) ?_ ?_
    · rintro k x σ H1 H2 ex ⟨s1, v2, v3, v4, rfl⟩ s2
      rw [List.getElem?_map] at ex
      obtain ⟨z, ez, rfl⟩ := Option.map_eq_some_iff.mp ex
      have hT2 := hT.mono (s1.trans s2)
      have zm := List.mem_of_getElem? ez
      have hz := hT2.at_ z zm
      have mz : z.2 ∈ tb zs := List.mem_map.mpr ⟨z, zm, rfl⟩
      have lz := wf.row _ mz
      walk_at "go"
      refine ⟨z.1, _, rfl, sqk_or hz, ?_⟩
      rw [List.length_map, lz]
      walk_at "go"
      rw [decide_eq_true rfl]
      walk_at "go"
      refine rd_sq (b := q2) rfl hz ?_
      refine for_gen (n := m) (fun i σ J => Same H J ∧ ∃ v4 : Option V, σ = [some (.int (m : Int)), some (.ref a), some (.int (k : Int)), some (.ref z.1), v4]) ⟨s1.trans s2, v4, rfl⟩ ?_ ?_ ?_ ?_
      · rintro i σ J hi ⟨s3, _⟩
        exact itq_go (Z.Same.sqK s3 ((hT.at_ z zm))) (x := eV (z.2.getD i none)) (by rw [List.getElem?_map, List.getD_eq_getElem?_getD, List.getElem?_eq_getElem (by omega)]; rfl)
      · rintro σ J ⟨s3, _⟩
        exact itq_stop (Z.Same.sqK s3 ((hT.at_ z zm))) (by rw [List.length_map]; omega)
      · rintro i σ J x J' hi ⟨s3, v4, rfl⟩ y
        obtain ⟨rfl, ex⟩ := itq_yld (Z.Same.sqK s3 ((hT.at_ z zm))) y
        have hi2 : i < z.2.length := by omega
        rw [List.getElem?_map, List.getElem?_eq_getElem hi2] at ex
        cases ex
        have me : z.2[i] ∈ z.2 := List.getElem_mem hi2
        have ent := wf.ent _ mz
        generalize z.2[i] = e at me
        cases e with
        | none =>
          walk_at "go"
          exact ⟨_, rfl⟩
        | some e =>
          have lt : e < zs.length := by simpa [tb] using ent e me
          dsimp only [eV]
          walk_at "go"
          refine ⟨a, _, rfl, sqk_or (Z.Same.sqK s3 hT.sq), ?_⟩
          rw [List.length_map]
          walk_at "go"
          rw [decide_eq_true (show (e : Int) < (zs.length : Int) by omega)]
          walk_at "go"
          exact ⟨_, rfl⟩
      · rintro σ J ⟨s3, v4, rfl⟩
        exact ⟨s3, _, _, _, rfl⟩
    · rintro σ H1 ⟨s1, v2, v3, v4, rfl⟩
      exact qq H1 s1
def spFlags (K : PySem.W.Frag) : Sp := fun vs H Q _ => ∃ (q : Bool) (n : Nat) (a : Addr) (gs : List Nat), vs = [.int (n : Int), .ref a] ∧ SqK q K H a (gsq gs) ∧ (∀ g ∈ gs, g < n) ∧ n ≤ 1000000 ∧ ∀ (L : Addr) H', Same H H' → H L = none → H' L = some (.lst ((List.range n).map fun i => V.bl (decide (i ∈ gs)))) → Q (.ref L) H'
theorem ok_flags_of (F : FnP K "flags_of" s_flags_of f fd) (m_range : mg "range" = none) : FnOk P w K mg base CX0 1 f fd P_flags_of (spFlags K) := by
  refine F.ok sc_flags_of (fun vs H Q E h => ?_) (fun cdv A outer s H vs Q E hr h => ?_)
  · obtain ⟨q, n, a, gs, rfl, _⟩ := h
    rfl
  · obtain ⟨q, n, a, gs, rfl, hS, hg, hn, qq⟩ := h
    refine ⟨_, PSs.nox (pss_cons (ps_setLc (i := 3) (own := [("state", 2)]) (g := (gName 2)) (tt := tYes) (by rfl) sc_flags_of.nd rfl rfl (sw_true rfl rfl rfl (by decide +kernel)) (pi_range1 (by rfl) m_range (pa_cons (pv 0) pa_nil)) (blkOk_by (own := [("state", 2)]) (N := N_flags_of) (sc := defScope s_flags_of) (by decide +kernel)) (fun _ _ _ _ _ => (pg_name (i := 2) sc_flags_of.nd rfl (by first | exact .inl rfl | exact .inr rfl))) (fun _ _ _ _ _ => pts_nil) (fun _ _ _ _ _ => pe_bl))
      (pss_cons (ps_for PassesOwn.never rfl (pi_sq (pv 1)) (pg_name (i := 2) sc_flags_of.nd rfl (by first | exact .inl rfl | exact .inr rfl))
        (pss_one (ps_asg pe_bl (pg_sub (pv 3) (pv 2) set_list))))
      (pss_one (ps_ret (pv 3))))), ?_⟩
    walk_at "go"
    intro L nL
    refine lc_gen (n := n) (fun k J => Same H J ∧ J L = some (.lst ((List.range k).map fun _ => V.bl false))) ⟨same_new nL, upd_same⟩ ?_ ?_ ?_ ?_
    · intro k J hk _
      show k < ((n : Int)).toNat
      omega
    · intro J _
      show ((n : Int)).toNat ≤ n
      omega
    · rintro k J x J' hk ⟨s1, eL⟩ ⟨rfl, rfl⟩
      walk_at "go"
      refine ⟨_, eL, by rw [List.length_map, List.length_range]; exact szC (by omega), Z.Same.mut s1 nL, ?_⟩
      rw [upd_same, List.range_succ, List.map_append]
      rfl
    rintro J ⟨s1, eL⟩
    walk_at "go"
    have lg : (gsq gs).length = gs.length := List.length_map ..
    refine rd_sq (b := q) rfl (Z.Same.sqK s1 hS) ?_
    refine for_gen (n := gs.length) (fun k σ J => Same H J ∧ J L = some (.lst ((List.range n).map fun i => V.bl (decide (i ∈ gs.take k)))) ∧ ∃ v2 : Option V, σ = [some (.int (n : Int)), some (.ref a), v2, some (.ref L)]) ⟨s1, by rw [eL]; simp, none, rfl⟩ ?_ ?_ ?_ ?_
    · rintro k σ J hk ⟨s2, _⟩
      exact itq_go (Z.Same.sqK s2 hS) (x := .int ((gs[k] : Nat) : Int)) (by unfold gsq; rw [List.getElem?_map, List.getElem?_eq_getElem hk]; rfl)
    · rintro σ J ⟨s2, _⟩
      exact itq_stop (Z.Same.sqK s2 hS) (by omega)
    · rintro k σ J x J' hk ⟨s2, eL, v2, rfl⟩ y
      obtain ⟨rfl, ex⟩ := itq_yld (Z.Same.sqK s2 hS) y
      unfold gsq at ex
      rw [List.getElem?_map, List.getElem?_eq_getElem hk] at ex
      cases ex
      have hgk := hg _ (List.getElem_mem hk)
      have tk : gs.take (k + 1) = gs.take k ++ [gs[k]] := by
        rw [List.take_succ, List.getElem?_eq_getElem hk]
        rfl
      generalize gs[k] = g at hgk tk
      walk_at "go"
      refine ⟨L, _, _, g, rfl, rfl, eL, by rw [List.length_map, List.length_range]; exact ixN_nat hgk, ?_⟩
      refine ⟨Z.Same.mut s2 nL, ?_, _, rfl⟩
      rw [upd_same, tk, set_flag]
    · rintro σ J ⟨s2, eL, v2, rfl⟩
      rw [List.take_length] at eL
      walk_at "go"
      exact qq L J s2 nL eL
end
end Z
set_option pp.maxSteps 700
set_option Elab.async false
set_option linter.all false
set_option maxRecDepth 100000
set_option maxHeartbeats 4000000
open SX (S S_inj S_len S_cat)
namespace Z
open Mc
open PySem PySem.Spec PyProof.Rows L2
open C8 (pss_cut tCut)
local macro_rules | `(tactic| walk_at "num") => `(tactic| first | rfl | omega | decide | exact Nat.le_of_lt (small1000 (by simp)) | exact ⟨by omega, by omega⟩ | exact ⟨by omega, by omega, by omega⟩ | exact ⟨by decide, by decide, by decide⟩ | exact Or.inl ⟨by omega, by omega⟩ | exact Or.inr ⟨by omega, by omega⟩)
local macro_rules | `(tactic| walk_at "go") => `(tactic| repeat (first | refine ⟨_, rfl, ?_⟩ | refine ⟨_, _, rfl, rfl, ?_⟩ | refine ⟨_, _, rfl, ?_⟩ | (refine ⟨_, _, rfl, rfl, ?_, ?_⟩; focus walk_at "num") | refine Or.inl ⟨_, rfl, ?_⟩ | refine ⟨_, _, _, _, rfl, rfl, (by assumption), (by rfl), ?_⟩ | refine ⟨_, _, _, _, _, rfl, (by assumption), (by assumption), (by assumption), (by rfl), ?_⟩ | refine ⟨rfl, ?_⟩ | (refine And.intro ?_ ?_; focus walk_at "num")))
abbrev s_live_rows : Stmt := topS 26
abbrev N_live_rows : List Str := ["rows", "good", "flag", "alive", "changed", "state", "row", "entry", "kept"]
abbrev P_live_rows : List Str := ["rows", "good"]
theorem sc_live_rows : FnScope N_live_rows P_live_rows (defScope s_live_rows) := ⟨rfl, rfl, rfl, by decide +kernel, rfl, by decide +kernel, by decide +kernel⟩
def bls (n : Nat) (al : Nat → Bool) : List V := (List.range n).map fun i => V.bl (al i)
theorem row_at {r : List (Option Nat)} {i : Nat} (h : i < r.length) : (r.map eV)[i]? = some (eV (r.getD i none)) := by
  rw [List.getElem?_map, List.getD_eq_getElem?_getD, List.getElem?_eq_getElem h]
  rfl
theorem row_nx {zs : List (Addr × List (Option Nat))} {k i : Nat} {z : Addr × List (Option Nat)} (h : zs[k]? = some z) (hi : i < z.2.length) : z.2.getD i none = nx (tb zs) k i :=
  (nx_at (by unfold tb; rw [List.getElem?_map, h]; rfl) (by rw [List.getD_eq_getElem?_getD, List.getElem?_eq_getElem hi]; rfl)).symm
def elB (al : Nat → Bool) : Option Nat → Bool
  | none => false
  | some e => al e
theorem bls_at {n i : Nat} {al : Nat → Bool} (h : i < n) : atI (bls n al) (i : Int) = some (.bl (al i)) := atI_nat (by unfold bls; rw [List.getElem?_map, List.getElem?_range h]; rfl)
theorem bls_set {n i : Nat} {al : Nat → Bool} : (bls n al).set i (V.bl true) = bls n fun j => if j = i then true else al j := by
  unfold bls
  apply List.ext_getElem
  · rw [List.length_set, List.length_map, List.length_map]
  · intro j h1 h2
    rw [List.length_map, List.length_range] at h2
    rw [List.getElem_set, List.getElem_map, List.getElem_map, List.getElem_range]
    by_cases c : i = j
    · subst c
      simp
    · have c2 : ¬ j = i := fun z => c z.symm
      simp [c, c2]
theorem bls_len (n : Nat) (al : Nat → Bool) : (bls n al).length = n := by unfold bls; rw [List.length_map, List.length_range]
theorem fltL_all {n : Nat} {g : Nat → V} : fltL (fun _ => true) g n = (List.range n).map g := by
  unfold fltL
  rw [List.filter_eq_self.mpr fun _ _ => rfl]
theorem row_range {β : Type} {r : List (Option Nat)} {f : Option Nat → β} : ((List.range r.length).map fun i => f (r.getD i none)) = r.map f := by
  apply List.ext_getElem
  · rw [List.length_map, List.length_map, List.length_range]
  · intro i h1 h2
    rw [List.length_map] at h2
    rw [List.getElem_map, List.getElem_map, List.getElem_range, List.getD_eq_getElem?_getD, List.getElem?_eq_getElem h2]
    rfl
theorem ne_of_none' {H : Hp} {B L : Addr} {o : HO} (s4 : H L = some o) (n : H B = none) : B ≠ L := fun e => by
  rw [e, s4] at n
  cases n
section
variable {P : Program} {w : World} {K : PySem.W.Frag} {mg : Str → Option Value} {base : Heap} {f : Addr} {fd : FuncData}
def inG (gs : List Nat) : Nat → Prop := fun s => s ∈ gs
def spLive (K : PySem.W.Frag) : Sp := fun vs H Q _ => ∃ (q q2 q3 : Bool) (m : Nat) (a g : Addr) (zs : List (Addr × List (Option Nat))) (gs : List Nat), vs = [.ref a, .ref g] ∧ Tb q q2 K H a zs ∧ Wf (tb zs) m ∧ m ≤ 1000 ∧ zs.length ≤ 1000000 ∧ SqK q3 K H g (gsq gs) ∧ (∀ s ∈ gs, s < zs.length) ∧
  ∀ (L : Addr) (zk : List (Addr × List (Option Nat))) H', Same H H' → H L = none → Tb true true K H' L zk → ((zk = [] ∧ (zs = [] ∨ ¬ Liv (tb zs) (inG gs) 0)) ∨ (0 < zs.length ∧ Liv (tb zs) (inG gs) 0 ∧ Kpt (tb zs) (inG gs) m (tb zk))) → Q (.ref L) H'
theorem ok_live_rows (F : FnP K "live_rows" s_live_rows f fd) (m_len : mg "len" = none) (m_any : mg "any" = none) (m_enumerate : mg "enumerate" = none) (c_flags_of : Cal P w K mg base 1 "flags_of" (spFlags K)) : FnOk P w K mg base CX0 2 f fd P_live_rows (spLive K) := by
  refine F.ok sc_live_rows (fun vs H Q E h => ?_) (fun cdv A outer s H vs Q E hr h => ?_)
  · obtain ⟨q, q2, q3, m, a, g, zs, gs, rfl, _⟩ := h
    rfl
  · obtain ⟨q, q2, q3, m, a, g, zs, gs, rfl, hT, wf, hm, hn, hG, hgs, qq⟩ := h
    refine ⟨_, PSs.nox (pss_cons (ps_set (i := 3) sc_live_rows.nd rfl (by first | exact .inl rfl | exact .inr rfl) (pe_lc (own := [("flag", 2)]) (g := (gName 2)) (tt := tYes) (by rfl) sc_live_rows.nd (pi_list (pe_cl c_flags_of hr (by decide) (by rfl) (pa_cons (pe_callB call_len_seq (by rfl) m_len PySem.boot_len (pa_cons (pv 0) pa_nil)) (pa_cons (pv 1) pa_nil)))) (blkOk_by (own := [("flag", 2)]) (N := N_live_rows) (sc := defScope s_live_rows) (by decide +kernel)) (fun _ _ _ _ _ => (pg_name (i := 2) sc_live_rows.nd rfl (by first | exact .inl rfl | exact .inr rfl))) (fun _ _ _ _ _ => pts_nil) (fun _ _ _ _ _ => (pv 2))))
      (pss_cons (ps_set (i := 4) sc_live_rows.nd rfl (by first | exact .inl rfl | exact .inr rfl) pe_bl)
      (pss_cut (ps_while PassesOwn.never (pt_val (pv 4))
        (pss_cons (ps_set (i := 4) sc_live_rows.nd rfl (by first | exact .inl rfl | exact .inr rfl) pe_bl)
      (pss_one (ps_for PassesOwn.never rfl (pi_enumM (by rfl) m_enumerate (pa_cons (pv 0) pa_nil)) (pg_tup rfl (pgs_cons (pg_name (i := 5) sc_live_rows.nd rfl (by first | exact .inl rfl | exact .inr rfl)) (pgs_cons (pg_name (i := 6) sc_live_rows.nd rfl (by first | exact .inl rfl | exact .inr rfl)) pgs_nil)))
        (pss_one (ps_if (PW.pt (pw_and (pt_not (pt_val (pe_ix ix_list (pv 3) (pv 5) (fun _ _ => rfl)))) (pw_and1 (pt_val (pe_callB (cr_any rfl) (by rfl) m_any (by decide +kernel) (pa_cons (pe_lc (own := [("entry", 7)]) (g := (gName 7)) (tt := tYes) (by rfl) sc_live_rows.nd (pi_sq (pv 6)) (blkOk_by (own := [("entry", 7)]) (N := N_live_rows) (sc := defScope s_live_rows) (by decide +kernel)) (fun _ _ _ _ _ => (pg_name (i := 7) sc_live_rows.nd rfl (by first | exact .inl rfl | exact .inr rfl))) (fun _ _ _ _ _ => pts_nil) (fun _ _ _ _ _ => (pe_and (pe_cmpR op_notN (pv 7) pe_non (nomark _)) (pe_one (pe_ix (ix_list_K (K := K) rfl) (pv 3) (pv 7) (fun _ _ => rfl)))))) pa_nil)))))) (pss_cons (ps_asg pe_bl (pg_sub (pv 3) (pv 5) set_list))
      (pss_one (ps_set (i := 4) sc_live_rows.nd rfl (by first | exact .inl rfl | exact .inr rfl) pe_bl))) pss_nil))))))
      (pss_cons (ps_setLc (i := 8) (own := [("row", 6)]) (g := (gName 6)) (tt := tYes) (by rfl) sc_live_rows.nd rfl rfl (sw_true rfl rfl rfl (by decide +kernel)) (pi_sq (pv 0)) (blkOk_by (own := [("row", 6)]) (N := N_live_rows) (sc := defScope s_live_rows) (by decide +kernel)) (fun _ _ _ _ _ => (pg_name (i := 6) sc_live_rows.nd rfl (by first | exact .inl rfl | exact .inr rfl))) (fun _ _ _ _ _ => pts_nil) (fun _ _ _ _ _ => (pe_lc (own := [("entry", 7)]) (g := (gName 7)) (tt := tYes) (by rfl) sc_live_rows.nd (pi_sq_K (K := K) rfl (pv 6)) (blkOk_by (own := [("entry", 7)]) (N := N_live_rows) (sc := relS _ (defScope s_live_rows)) (by decide +kernel)) (fun _ _ _ _ _ => (pg_name (i := 7) sc_live_rows.nd rfl (by first | exact .inl rfl | exact .inr rfl))) (fun _ _ _ _ _ => pts_nil) (fun _ _ _ _ _ => (pe_ifExp (PW.pt (pw_and (pt_cmpR op_notN (pv 7) pe_non (nomark _)) (pw_and1 (pt_val (pe_ix (ix_list_K (K := K) rfl) (pv 3) (pv 7) (fun _ _ => rfl)))))) (pv 7) pe_non)))))
      (pss_one (ps_ret (pe_ifExp (PW.pt (pw_and (pt_cmpR op_gt (pe_callB call_len_seq (by rfl) m_len PySem.boot_len (pa_cons (pv 0) pa_nil)) pe_int (nomark _)) (pw_and1 (pt_val (pe_ix ix_list (pv 3) pe_int (fun _ _ => rfl)))))) (pv 8) (pe_lst pa_nil)))))))), ?_⟩
    walk_at "go"
    refine ⟨a, _, rfl, sqk_or hT.sq, ?_⟩
    rw [List.length_map]
    walk_at "go"
    refine ⟨q3, zs.length, g, gs, rfl, hG, hgs, by omega, fun L0 H1 s1 nL0 eL0 => ?_⟩
    walk_at "go"
    refine ⟨⟨_, SqL.of eL0⟩, fun A0 nA0 => ?_⟩
    refine lc_gen (n := zs.length) (fun k J => Same H1 J ∧ J A0 = some (.lst (bls k fun i => decide (i ∈ gs)))) ⟨same_new nA0, upd_same⟩ ?_ ?_ ?_ ?_
    · rintro k J hk ⟨s2, _⟩
      exact ⟨_, .bl (decide (k ∈ gs)), SqL.of (s2 _ _ eL0), by rw [List.getElem?_map, List.getElem?_range hk]; rfl⟩
    · rintro J ⟨s2, _⟩
      exact ⟨_, SqL.of (s2 _ _ eL0), by rw [List.length_map, List.length_range]; exact Nat.le_refl _⟩
    · rintro k J x J' hk ⟨s2, eA⟩ ⟨rfl, e⟩
      have hx := e _ (SqL.of (s2 _ _ eL0))
      rw [List.getElem?_map, List.getElem?_range hk] at hx
      cases hx
      walk_at "go"
      refine ⟨_, eA, by unfold bls; rw [List.length_map, List.length_range]; exact szC (by omega), Z.Same.mut s2 nA0, ?_⟩
      unfold bls
      rw [upd_same, List.range_succ, List.map_append]
      rfl
    rintro J ⟨s2, eA⟩
    have nA := none_of s1 nA0
    have sJ := s1.trans s2
    clear eL0 nA0 s1 s2
    walk_at "go"
    obtain ⟨n, hn'⟩ : ∃ n, n = zs.length := ⟨_, rfl⟩
    obtain ⟨T, hT'⟩ : ∃ T, T = tb zs := ⟨_, rfl⟩
    have lT : T.length = n := by rw [hT', hn']; exact List.length_map ..
    rw [← hT'] at wf qq
    rw [← hn'] at hn hgs qq eA
    refine ⟨fun σ' J => Same H J ∧ ∃ (al : Nat → Bool) (v5 v6 : Option V), J A0 = some (.lst (bls n al)) ∧ (∀ s, s < n → (al s = true ↔ Liv T (inG gs) s)) ∧ σ' = [some (.ref a), some (.ref g), none, some (.ref A0), some (.bl false), v5, v6, none, none], ?_, ?_⟩
    · refine ⟨fun μ σ J => Same H J ∧ ∃ (al : Nat → Bool) (ch : Bool) (v5 v6 : Option V), J A0 = some (.lst (bls n al)) ∧ (∀ s, s < n → al s = true → Liv T (inG gs) s) ∧ (∀ s, s ∈ gs → al s = true) ∧ (ch = false → ∀ s k e, nx T s k = some e → al e = true → al s = true) ∧ μ = (if ch = true then n - cnt al n + 1 else 0) ∧ σ = [some (.ref a), some (.ref g), none, some (.ref A0), some (.bl ch), v5, v6, none, none], ⟨_, sJ, fun i => decide (i ∈ gs), true, none, none, eA, fun s _ e => liv_good (show s ∈ gs from of_decide_eq_true e), fun s e => decide_eq_true e, fun z => (by cases z), rfl, rfl⟩, ?_⟩
      rintro μ σ J ⟨s3, al, ch, v5, v6, eA, snd, hgl, cl, rfl, rfl⟩
      walk_at "go"
      cases ch
      · rw [if_neg Bool.false_ne_true]
        refine ⟨s3, al, v5, v6, eA, fun s hs => ⟨snd s hs, fun l => ?_⟩, rfl⟩
        exact liv_closed (al := fun s => al s = true) hgl (cl rfl) l
      rw [if_pos rfl]
      refine ⟨fun σ' J' => Same H J' ∧ ∃ (al' : Nat → Bool) (ch' : Bool) (v5 v6 : Option V), J' A0 = some (.lst (bls n al')) ∧ (∀ s, s < n → al' s = true → Liv T (inG gs) s) ∧ (∀ s, s ∈ gs → al' s = true) ∧ (ch' = false → ∀ s k e, nx T s k = some e → al' e = true → al' s = true) ∧ (ch' = true → cnt al n < cnt al' n) ∧ σ' = [some (.ref a), some (.ref g), none, some (.ref A0), some (.bl ch'), v5, v6, none, none], ?_, ?_⟩
      · rintro σ' J' ⟨s4, al', ch', v5, v6, eA', snd', hgl', cl', up, rfl⟩
        refine ⟨_, ?_, s4, al', ch', v5, v6, eA', snd', hgl', cl', rfl, rfl⟩
        cases ch'
        · rw [if_neg Bool.false_ne_true, if_pos rfl]
          exact Nat.succ_pos _
        · rw [if_pos rfl, if_pos rfl]
          have := up rfl
          have := cnt_le al' n
          omega
      walk_at "go"
      refine ⟨q, _, _, rfl, Z.Same.sqK s3 hT.sq, ?_⟩
      refine for_enum hT.sq (fun k σ J => Same H J ∧ ∃ (al' : Nat → Bool) (ch' : Bool) (v5 v6 : Option V), J A0 = some (.lst (bls n al')) ∧ (∀ s, s < n → al' s = true → Liv T (inG gs) s) ∧ (∀ s, al s = true → al' s = true) ∧ (ch' = false → (∀ s, al' s = al s) ∧ ∀ s, s < k → ∀ k e, nx T s k = some e → al e = true → al s = true) ∧ (ch' = true → cnt al n < cnt al' n) ∧ σ = [some (.ref a), some (.ref g), none, some (.ref A0), some (.bl ch'), v5, v6, none, none]) ⟨s3, al, false, v5, v6, eA, snd, fun _ h => h, fun _ => ⟨fun _ => rfl, fun s hs => absurd hs (Nat.not_lt_zero _)⟩, fun z => (by cases z), rfl⟩ (fun k σ J p => p.1) ?_ ?_
      · rintro k x σ J J2 ex ⟨s4, al', ch', v5, v6, eA', snd', mo, un, up, rfl⟩ s5
        rw [List.getElem?_map] at ex
        obtain ⟨z, ez, rfl⟩ := Option.map_eq_some_iff.mp ex
        have hk : k < n := by rw [hn']; exact (List.getElem?_eq_some_iff.mp ez).1
        have hz := (hT.mono (s4.trans s5)).at_ z (List.mem_of_getElem? ez)
        have mz : z.2 ∈ T := by rw [hT']; exact List.mem_map.mpr ⟨z, List.mem_of_getElem? ez, rfl⟩
        have lz := wf.row _ mz
        have rx : ∀ i, i < m → z.2.getD i none = nx T k i := fun i hi => by rw [hT']; exact row_nx ez (by omega)
        have eA2 := s5 _ _ eA'
        walk_at "go"
        refine ⟨A0, _, _, _, rfl, rfl, SqL.of eA2, bls_at hk, ?_⟩
        cases e1 : al' k
        · walk_at "go"
          refine rd_sq (b := q2) rfl hz ?_
          intro B nB
          refine lc_flt (n := m) (fun i => eV (z.2.getD i none)) (fun _ => true) (fun i => .bl (elB al' (z.2.getD i none))) (by omega) nB (fun i J3 hi s6 => itq_go (Z.Same.sqK s6 hz) (row_at (by omega))) (fun J3 s6 => itq_stop (Z.Same.sqK s6 hz) (by rw [List.length_map]; omega)) (fun i J3 x J4 hi s6 y => ?_) (fun i => rfl) (fun i J3 Q1 hi s6 q1 => ?_) (fun i J3 Q1 hi _ s6 q1 => ?_) (fun J3 s6 eB => ?_)
          · obtain ⟨rfl, ex⟩ := itq_yld (Z.Same.sqK s6 hz) y
            rw [row_at (by omega)] at ex
            cases ex
            exact ⟨Same.refl _, rfl⟩
          · exact q1 _ (Same.refl _)
          · rw [rx i hi] at q1 ⊢
            cases e2 : nx T k i with
            | none =>
              rw [e2] at q1
              walk_at "go"
              exact q1 _ (Same.refl _)
            | some e =>
              rw [e2] at q1
              have he := (nx_lt wf e2).1
              rw [lT] at he
              dsimp only [eV]
              walk_at "go"
              exact ⟨A0, _, _, _, rfl, rfl, SqL.of (s6 _ _ eA2), bls_at he, q1 _ (Same.refl _)⟩
          rw [fltL_all] at eB
          walk_at "go"
          refine ⟨B, (List.range m).map fun i => elB al' (z.2.getD i none), rfl, SqL.of (by rw [eB, List.map_map]; rfl), ?_⟩
          have s7 := s4.trans (s5.trans s6)
          have eA3 := s6 _ _ eA2
          have hany : ∀ k1 e, nx T k k1 = some e → al' e = true → ((List.range m).map fun i => elB al' (z.2.getD i none)).any id = true := fun k1 e he hl => by
            have hk1 := (nx_lt wf he).2.1
            refine List.any_eq_true.mpr ⟨elB al' (z.2.getD k1 none), List.mem_map.mpr ⟨k1, List.mem_range.mpr hk1, rfl⟩, ?_⟩
            rw [rx k1 hk1, he]
            exact hl
          cases e3 : ((List.range m).map fun i => elB al' (z.2.getD i none)).any id
          · walk_at "go"
            refine ⟨al', ch', _, _, eA3, snd', mo, fun zz => ⟨(un zz).1, fun s hs k1 e he hl => ?_⟩, up, rfl⟩
            by_cases c : s = k
            · subst c
              rw [← (un zz).1 e] at hl
              rw [hany k1 e he hl] at e3
              cases e3
            · exact (un zz).2 s (by omega) k1 e he hl
          · walk_at "go"
            refine ⟨A0, _, _, k, rfl, rfl, eA3, by rw [bls_len]; exact ixN_nat hk, ?_⟩
            rw [bls_set]
            walk_at "go"
            have alk : al k = false := by
              cases e4 : al k with
              | false => rfl
              | true => rw [mo k e4] at e1; cases e1
            refine ⟨Z.Same.mut s7 nA, fun j => if j = k then true else al' j, true, _, _, upd_same, fun s hs h => ?_, fun s h => ?_, fun zz => (by cases zz), fun _ => cnt_lt (x := k) (fun s hs h => ?_) hk alk (by simp), rfl⟩
            · by_cases c : s = k
              · subst c
                obtain ⟨b, hb, hb2⟩ := List.any_eq_true.mp e3
                obtain ⟨i, hi, rfl⟩ := List.mem_map.mp hb
                rw [rx i (List.mem_range.mp hi)] at hb2
                cases e5 : nx T s i with
                | none => rw [e5] at hb2; cases hb2
                | some e =>
                  rw [e5] at hb2
                  exact liv_step e5 (snd' e (by rw [← lT]; exact (nx_lt wf e5).1) hb2)
              · simp only [c, if_false] at h
                exact snd' s hs h
            · by_cases c : s = k
              · simp [c]
              · simp only [c, if_false]
                exact mo s h
            · by_cases c : s = k
              · simp [c]
              · simp only [c, if_false]
                exact mo s h
        · walk_at "go"
          refine ite2 (fun e => absurd e (show ¬ ((!true) = true) from Bool.false_ne_true)) (fun _ => ?_)
          refine ite2 (fun e => absurd e Bool.false_ne_true) (fun _ => ?_)
          refine ⟨s4.trans s5, al', ch', _, _, eA2, snd', mo, fun zz => ⟨(un zz).1, fun s hs k1 e he hl => ?_⟩, up, rfl⟩
          by_cases c : s = k
          · subst c
            rw [← (un zz).1 s]
            exact e1
          · exact (un zz).2 s (by omega) k1 e he hl
      · rintro σ J ⟨s4, al', ch', v5, v6, eA', snd', mo, un, up, rfl⟩
        rw [List.length_map, ← hn'] at un
        refine ⟨s4, al', ch', v5, v6, eA', snd', fun s hs => mo s (hgl s hs), fun z s k e he hl => ?_, up, rfl⟩
        obtain ⟨u1, u2⟩ := un z
        rw [u1] at hl ⊢
        exact u2 s (by rw [← lT]; exact (nx_lt wf he).2.2) k e he hl
    rintro σ' J ⟨s3, al, v5, v6, eA, hal, rfl⟩
    walk_at "go"
    refine rd_sq (b := q) rfl (hT.mono s3).sq ?_
    intro L nL
    refine lc_gen (n := n) (fun k J' => Same J J' ∧ ∃ zk : List (Addr × List (Option Nat)), J' L = some (.lst (zk.map fun z => V.ref z.1)) ∧ (∀ z ∈ zk, J' z.1 = some (.lst (z.2.map eV)) ∧ z.1 ≠ L) ∧ tb zk = kpT al (T.take k)) ⟨same_new nL, [], upd_same, fun z hz => absurd hz (by simp), rfl⟩ ?_ ?_ ?_ ?_
    · rintro k J' hk ⟨s4, _⟩
      have hk2 : k < zs.length := by omega
      exact itq_go (Z.Same.sqK (s3.trans s4) hT.sq) (x := .ref zs[k].1) (by rw [List.getElem?_map, List.getElem?_eq_getElem hk2]; rfl)
    · rintro J' ⟨s4, _⟩
      exact itq_stop (Z.Same.sqK (s3.trans s4) hT.sq) (by rw [List.length_map]; omega)
    · rintro k J' x J2 hk ⟨s4, zk, eL, hz, ek⟩ y
      obtain ⟨rfl, ex⟩ := itq_yld (Z.Same.sqK (s3.trans s4) hT.sq) y
      have hk2 : k < zs.length := by omega
      rw [List.getElem?_map, List.getElem?_eq_getElem hk2] at ex
      cases ex
      have zk2 := (hT.mono (s3.trans s4)).at_ _ (List.getElem_mem hk2)
      have mz : zs[k].2 ∈ T := by rw [hT']; exact List.mem_map.mpr ⟨_, List.getElem_mem hk2, rfl⟩
      have tk : T.take (k + 1) = T.take k ++ [zs[k].2] := by
        rw [hT']
        unfold tb
        rw [List.take_succ, List.getElem?_map, List.getElem?_eq_getElem hk2]
        rfl
      have lz := wf.row _ mz
      have ent := wf.ent _ mz
      generalize zs[k] = z at zk2 mz tk lz ent
      have eA2 := s4 _ _ eA
      walk_at "go"
      refine rd_sq (b := q2) rfl zk2 ?_
      intro B nB
      refine lc_flt (n := m) (fun i => eV (z.2.getD i none)) (fun _ => true) (fun i => eV (kp al (z.2.getD i none))) (by omega) nB (fun i J3 hi s6 => itq_go (Z.Same.sqK s6 zk2) (row_at (by omega))) (fun J3 s6 => itq_stop (Z.Same.sqK s6 zk2) (by rw [List.length_map]; omega)) (fun i J3 x J4 hi s6 y => ?_) (fun i => rfl) (fun i J3 Q1 hi s6 q1 => ?_) (fun i J3 Q1 hi _ s6 q1 => ?_) (fun J3 s6 eB => ?_)
      · obtain ⟨rfl, ex⟩ := itq_yld (Z.Same.sqK s6 zk2) y
        rw [row_at (by omega)] at ex
        cases ex
        exact ⟨Same.refl _, rfl⟩
      · exact q1 _ (Same.refl _)
      · have me : z.2.getD i none ∈ z.2 := by
          rw [List.getD_eq_getElem?_getD, List.getElem?_eq_getElem (show i < z.2.length by omega)]
          exact List.getElem_mem _
        generalize z.2.getD i none = o at me q1
        cases o with
        | none =>
          walk_at "go"
          exact q1 _ (Same.refl _)
        | some e =>
          have he := ent e me
          rw [lT] at he
          dsimp only [eV]
          walk_at "go"
          refine ⟨A0, _, _, _, rfl, rfl, SqL.of (s6 _ _ eA2), bls_at he, ?_⟩
          have ee : kp al (some e) = if al e = true then some e else none := rfl
          rw [ee] at q1
          cases e1 : al e
          · rw [e1, if_neg Bool.false_ne_true] at q1
            walk_at "go"
            exact q1 _ (Same.refl _)
          · rw [e1, if_pos rfl] at q1
            walk_at "go"
            exact q1 _ (Same.refl _)
      have nBL : B ≠ L := ne_of_none' (s4 := eL) nB
      rw [fltL_all, ← lz, row_range (f := fun o => eV (kp al o))] at eB
      have ezk : zk.length ≤ 1000000 := by
        have := congrArg List.length ek
        unfold tb kpT at this
        rw [List.length_map, List.length_map, List.length_take] at this
        omega
      refine ⟨_, s6 _ _ eL, by rw [List.length_map]; exact szC (by omega), Z.Same.mut (s4.trans s6) nL, zk ++ [(B, z.2.map (kp al))], by rw [upd_same, List.map_append]; rfl, fun y hy => ?_, ?_⟩
      · rcases List.mem_append.mp hy with hy | hy
        · obtain ⟨h1, h2⟩ := hz y hy
          exact ⟨by rw [upd_ne h2]; exact s6 _ _ h1, h2⟩
        · rw [List.mem_singleton.mp hy]
          refine ⟨?_, nBL⟩
          rw [upd_ne nBL, eB, List.map_map]
          rfl
      · unfold tb at ek ⊢
        rw [List.map_append, ek, tk]
        unfold kpT
        rw [List.map_append]
        rfl
    rintro J' ⟨s4, zk, eL, hz, ek⟩
    rw [List.take_of_length_le (by omega)] at ek
    have hTk : Tb true true K J' L zk := ⟨SqL.of eL, fun z m => SqL.of (hz z m).1⟩
    have nLH := none_of s3 nL
    have s3' := s3.trans s4
    walk_at "go"
    refine ⟨a, _, rfl, sqk_or (Z.Same.sqK s3' hT.sq), ?_⟩
    rw [List.length_map, ← hn']
    walk_at "go"
    have nil : ∀ (zs0 : zs = [] ∨ ¬ Liv T (inG gs) 0) (B : Addr), J' B = none → Q (.ref B) (upd J' B (.lst [])) := fun zs0 B nB =>
      qq B [] _ (s3'.trans (same_new nB)) (none_of s3' nB) ⟨SqL.of upd_same, fun z m => absurd m (by simp)⟩ (.inl ⟨rfl, zs0⟩)
    by_cases n0 : n = 0
    · rw [decide_eq_false (show ¬ (0 : Int) < (n : Int) by omega)]
      walk_at "go"
      exact nil (.inl (List.length_eq_zero_iff.mp (by omega)))
    · have n1 : 0 < n := by omega
      rw [decide_eq_true (show (0 : Int) < (n : Int) by omega)]
      walk_at "go"
      refine ⟨A0, _, _, _, rfl, rfl, SqL.of (s4 _ _ eA), bls_at (i := 0) n1, ?_⟩
      cases e1 : al 0
      · walk_at "go"
        exact nil (.inr fun l => by rw [(hal 0 n1).mpr l] at e1; cases e1)
      · walk_at "go"
        refine qq L zk J' s3' nLH hTk (.inr ⟨n1, (hal 0 n1).mp e1, ?_⟩)
        rw [ek]
        exact kpt_of wf (by rw [lT]; exact hal)
end
end Z
set_option pp.maxSteps 700
set_option Elab.async false
set_option linter.all false
set_option maxRecDepth 100000
set_option maxHeartbeats 4000000
open SX (S S_inj S_len S_cat)
namespace Z
open Mc
open PySem PySem.Spec PyProof.Rows L2
open C8 (pss_cut tCut)
local macro_rules | `(tactic| walk_at "num") => `(tactic| first | rfl | omega | decide | exact Nat.le_of_lt (small1000 (by simp)) | exact ⟨by omega, by omega⟩ | exact ⟨by omega, by omega, by omega⟩ | exact ⟨by decide, by decide, by decide⟩ | exact Or.inl ⟨by omega, by omega⟩ | exact Or.inr ⟨by omega, by omega⟩)
local macro_rules | `(tactic| walk_at "go") => `(tactic| repeat (first | refine ⟨_, rfl, ?_⟩ | refine ⟨_, _, rfl, rfl, ?_⟩ | refine ⟨_, _, rfl, ?_⟩ | (refine ⟨_, _, rfl, rfl, ?_, ?_⟩; focus walk_at "num") | refine Or.inl ⟨_, rfl, ?_⟩ | refine ⟨_, _, _, _, rfl, rfl, (by assumption), (by rfl), ?_⟩ | refine ⟨_, _, _, _, _, rfl, (by assumption), (by assumption), (by assumption), (by rfl), ?_⟩ | refine ⟨rfl, ?_⟩ | (refine And.intro ?_ ?_; focus walk_at "num")))
abbrev s_state_classes : Stmt := topS 27
abbrev N_state_classes : List Str := ["rows", "good", "flag", "classes", "many", "numbers", "finer", "state", "row", "entry", "mark"]
abbrev P_state_classes : List Str := ["rows", "good"]
theorem sc_state_classes : FnScope N_state_classes P_state_classes (defScope s_state_classes) := ⟨rfl, rfl, rfl, by decide +kernel, rfl, by decide +kernel, by decide +kernel⟩
def nls (n : Nat) (f : Nat → Nat) : List V := (List.range n).map fun i => V.int ((f i : Nat) : Int)
def lk : Option Nat → NestedKey
  | none => .none
  | some c => .num (c : Int)
def nk (p : Nat × List (Option Nat)) : NestedKey := .tup (.num ((p.1 : Nat) : Int) :: p.2.map lk)
theorem lk_inj : ∀ {a b : Option Nat}, lk a = lk b → a = b
  | none, none, _ => rfl
  | some _, none, h => by cases h
  | none, some _, h => by cases h
  | some a, some b, h => by
    have h : NestedKey.num (a : Int) = NestedKey.num (b : Int) := h
    injection h with h
    rw [show a = b by omega]
theorem lks_inj : ∀ {a b : List (Option Nat)}, a.map lk = b.map lk → a = b
  | [], [], _ => rfl
  | [], _ :: _, h => by cases h
  | _ :: _, [], h => by cases h
  | x :: a, y :: b, h => by
    rw [List.map_cons, List.map_cons] at h
    injection h with h1 h2
    rw [lk_inj h1, lks_inj h2]
theorem nk_inj {p q : Nat × List (Option Nat)} (h : nk p = nk q) : p = q := by
  unfold nk at h
  injection h with h
  injection h with h1 h2
  injection h1 with h1
  exact Prod.ext (by omega) (lks_inj h2)
theorem lks_depth : ∀ l : List (Option Nat), NestedKey.depthAll (l.map lk) ≤ 1
  | [] => by decide
  | x :: l => by
    have := lks_depth l
    cases x <;> simp only [List.map_cons, NestedKey.depthAll, lk, NestedKey.depth] <;> omega
theorem nk_depth (p : Nat × List (Option Nat)) : (nk p).depth ≤ 8 := by
  have := lks_depth p.2
  unfold nk
  simp only [NestedKey.depth, NestedKey.depthAll]
  omega
theorem atN_some {kvs : List (NestedKey × Addr × Int)} {k : NestedKey} {v : Int} (h : atN kvs k = some v) : ∃ x ∈ kvs, x.1 = k ∧ x.2.2 = v := by
  unfold atN at h
  obtain ⟨x, hx, e⟩ := Option.map_eq_some_iff.mp h
  exact ⟨x, List.mem_of_find?_eq_some hx, of_decide_eq_true (List.find?_some (p := fun x : NestedKey × Addr × Int => decide (x.1 = k)) hx), e⟩
theorem atN_none {kvs : List (NestedKey × Addr × Int)} {k : NestedKey} (h : atN kvs k = none) : ∀ x ∈ kvs, x.1 ≠ k := fun x hx e => by
  unfold atN at h
  rw [Option.map_eq_none_iff] at h
  have := List.find?_eq_none.mp h x hx
  rw [decide_eq_true e] at this
  exact this rfl
/-- marks are numbered as they are met -/
structure Num (f : Nat → Nat × List (Option Nat)) (k : Nat) (kvs : List (NestedKey × Addr × Int)) (fn : Nat → Nat) : Prop where
  len : kvs.length = cf f k
  val : ∀ (i : Nat) x, kvs[i]? = some x → x.2.2 = (i : Int)
  at_ : ∀ s, s < k → ∃ x, kvs[fn s]? = some x ∧ x.1 = nk (f s)
  one : ∀ (i j : Nat) x y, kvs[i]? = some x → kvs[j]? = some y → x.1 = y.1 → i = j
  src : ∀ x ∈ kvs, ∃ s, s < k ∧ x.1 = nk (f s)
theorem Num.eq {f : Nat → Nat × List (Option Nat)} {k : Nat} {kvs : List (NestedKey × Addr × Int)} {fn : Nat → Nat} (h : Num f k kvs fn) {s t : Nat} (hs : s < k) (ht : t < k) : fn s = fn t ↔ f s = f t := by
  obtain ⟨x, hx, ex⟩ := h.at_ s hs
  obtain ⟨y, hy, ey⟩ := h.at_ t ht
  constructor
  · intro e
    rw [e, hy] at hx
    cases hx
    exact nk_inj (ex.symm.trans ey)
  · intro e
    exact h.one _ _ x y hx hy (by rw [ex, ey, e])
theorem Num.cf {f : Nat → Nat × List (Option Nat)} {k : Nat} {kvs : List (NestedKey × Addr × Int)} {fn : Nat → Nat} (h : Num f k kvs fn) : Mc.cf fn k = Mc.cf f k :=
  Nat.le_antisymm (cf_mono fun _ _ hs ht e => (h.eq hs ht).mpr e) (cf_mono fun _ _ hs ht e => (h.eq hs ht).mp e)
theorem Num.old {f : Nat → Nat × List (Option Nat)} {k : Nat} {kvs : List (NestedKey × Addr × Int)} {fn : Nat → Nat} (h : Num f k kvs fn) {v : Int} (e : atN kvs (nk (f k)) = some v) : ∃ i : Nat, v = (i : Int) ∧ Num f (k + 1) kvs fun s => if s = k then i else fn s := by
  obtain ⟨x, hx, e1, e2⟩ := atN_some e
  obtain ⟨i, hi, rfl⟩ := List.getElem_of_mem hx
  have gi := List.getElem?_eq_getElem hi
  have hv := h.val i _ gi
  refine ⟨i, by rw [← e2, hv], ?_, h.val, fun s hs => ?_, h.one, fun x hx => ?_⟩
  · obtain ⟨s, hs, es⟩ := h.src _ hx
    have nf : isF f k = false := by
      cases c : isF f k with
      | false => rfl
      | true => exact absurd (nk_inj (es.symm.trans e1)) (isF_iff.mp c s hs)
    rw [cf_succ, nf]
    exact h.len
  · by_cases c : s = k
    · subst c
      exact ⟨_, by rw [if_pos rfl]; exact gi, e1⟩
    · rw [if_neg c]
      exact h.at_ s (by omega)
  · obtain ⟨s, hs, es⟩ := h.src x hx
    exact ⟨s, by omega, es⟩
theorem Num.new {f : Nat → Nat × List (Option Nat)} {k : Nat} {kvs : List (NestedKey × Addr × Int)} {fn : Nat → Nat} (h : Num f k kvs fn) (e : atN kvs (nk (f k)) = none) (b : Addr) : Num f (k + 1) (kvs ++ [(nk (f k), b, (kvs.length : Int))]) fun s => if s = k then kvs.length else fn s := by
  have no := atN_none e
  have get : ∀ (i : Nat) x, (kvs ++ [(nk (f k), b, (kvs.length : Int))])[i]? = some x → kvs[i]? = some x ∨ i = kvs.length ∧ x = (nk (f k), b, (kvs.length : Int)) := fun i x hx => by
    by_cases c : i < kvs.length
    · rw [List.getElem?_append_left c] at hx
      exact .inl hx
    · rw [List.getElem?_append_right (by omega)] at hx
      have c2 : i - kvs.length = 0 := by
        have := (List.getElem?_eq_some_iff.mp hx).1
        simp at this
        omega
      rw [c2] at hx
      cases hx
      exact .inr ⟨by omega, rfl⟩
  refine ⟨?_, fun i x hx => ?_, fun s hs => ?_, fun i j x y hx hy exy => ?_, fun x hx => ?_⟩
  · have nf : isF f k = true := isF_iff.mpr fun t ht q => by
      obtain ⟨x, hx, ex⟩ := h.at_ t ht
      exact no x (List.mem_of_getElem? hx) (by rw [ex, q])
    rw [cf_succ, nf, List.length_append, h.len]
    rfl
  · rcases get i x hx with hx | ⟨rfl, rfl⟩
    · exact h.val i x hx
    · rfl
  · by_cases c : s = k
    · subst c
      exact ⟨_, by rw [if_pos rfl, List.getElem?_append_right (Nat.le_refl _), Nat.sub_self]; rfl, rfl⟩
    · rw [if_neg c]
      obtain ⟨x, hx, ex⟩ := h.at_ s (by omega)
      exact ⟨x, by rw [List.getElem?_append_left (List.getElem?_eq_some_iff.mp hx).1]; exact hx, ex⟩
  · rcases get i x hx with hx | ⟨rfl, rfl⟩
    · rcases get j y hy with hy | ⟨rfl, rfl⟩
      · exact h.one i j x y hx hy exy
      · exact absurd exy (no x (List.mem_of_getElem? hx))
    · rcases get j y hy with hy | ⟨rfl, rfl⟩
      · exact absurd exy.symm (no y (List.mem_of_getElem? hy))
      · rfl
  · rcases List.mem_append.mp hx with hx | hx
    · obtain ⟨s, hs, es⟩ := h.src x hx
      exact ⟨s, by omega, es⟩
    · rw [List.mem_singleton.mp hx]
      exact ⟨k, by omega, rfl⟩
theorem num_nil (f : Nat → Nat × List (Option Nat)) : Num f 0 [] fun _ => 0 := ⟨rfl, fun i x h => by simp at h, fun s hs => absurd hs (Nat.not_lt_zero _), fun i j x y h => by simp at h, fun x m => absurd m (by simp)⟩
theorem nls_len (n : Nat) (f : Nat → Nat) : (nls n f).length = n := by unfold nls; rw [List.length_map, List.length_range]
theorem nls_at {n i : Nat} {f : Nat → Nat} (h : i < n) : atI (nls n f) (i : Int) = some (.int ((f i : Nat) : Int)) := atI_nat (by unfold nls; rw [List.getElem?_map, List.getElem?_range h]; rfl)
theorem nls_snoc {k v : Nat} {f : Nat → Nat} : nls k f ++ [V.int (v : Int)] = nls (k + 1) fun s => if s = k then v else f s := by
  unfold nls
  rw [List.range_succ, List.map_append]
  congr 1
  · exact List.map_congr_left fun s hs => by simp [Nat.ne_of_lt (List.mem_range.mp hs)]
  · simp
theorem nka_lks {H : Hp} : ∀ {l : List (Option Nat)}, NkA H (l.map lk) (l.map eV)
  | [] => .nil
  | none :: l => .cons .none nka_lks
  | some c :: l => .cons (.int _) nka_lks
theorem DN.upd_lst {P : Program} {w : World} {H : Hp} {a b : Addr} {kvs : List (NestedKey × Addr × Int)} {xs ys : List V} (d : DN P w H a kvs) (e : H b = some (.lst xs)) : DN P w (upd H b (.lst ys)) a kvs := by
  have ht : ∀ c vs, H c = some (.tup vs) → (upd H b (.lst ys)) c = some (.tup vs) := fun c vs h => by
    rw [upd_ne (fun q => by rw [q, e] at h; cases h)]
    exact h
  refine ⟨?_, fun x m => ⟨NkV.keepT ht (d.ks x m).1, (d.ks x m).2⟩⟩
  rw [upd_ne (fun q => by have := d.at_; rw [q, e] at this; unfold DNo at this; cases this)]
  exact d.at_
section
variable {P : Program} {w : World} {K : PySem.W.Frag} {mg : Str → Option Value} {base : Heap} {f : Addr} {fd : FuncData}
def spClasses (K : PySem.W.Frag) : Sp := fun vs H Q _ => ∃ (q q2 q3 : Bool) (m : Nat) (a g : Addr) (zs : List (Addr × List (Option Nat))) (gs : List Nat), vs = [.ref a, .ref g] ∧ Tb q q2 K H a zs ∧ Wf (tb zs) m ∧ m ≤ 1000 ∧ 0 < zs.length ∧ zs.length ≤ 1000000 ∧ SqK q3 K H g (gsq gs) ∧ (∀ s ∈ gs, s < zs.length) ∧ (∀ s k e, nx (tb zs) s k = some e → Liv (tb zs) (inG gs) e) ∧
  ∀ (L : Addr) (fc : Nat → Nat) H', Same H H' → H L = none → H' L = some (.lst (nls zs.length fc)) → (∀ s t, s < zs.length → t < zs.length → (fc s = fc t ↔ Leq (tb zs) (inG gs) s t)) → Q (.ref L) H'
theorem ok_state_classes (F : FnP K "state_classes" s_state_classes f fd) (m_int : mg "int" = none) (m_tuple : mg "tuple" = none) (m_len : mg "len" = none) (m_enumerate : mg "enumerate" = none) (c_flags_of : Cal P w K mg base 1 "flags_of" (spFlags K)) : FnOk P w K mg base CX0 2 f fd P_state_classes (spClasses K) := by
  refine F.ok sc_state_classes (fun vs H Q E h => ?_) (fun cdv A outer s H vs Q E hr h => ?_)
  · obtain ⟨q, q2, q3, m, a, g, zs, gs, rfl, _⟩ := h
    rfl
  · obtain ⟨q, q2, q3, m, a, g, zs, gs, rfl, hT, wf, hm, hn0, hn, hG, hgs, lv, qq⟩ := h
    refine ⟨_, PSs.nox (pss_cons (ps_set (i := 3) sc_state_classes.nd rfl (by first | exact .inl rfl | exact .inr rfl) (pe_lc (own := [("flag", 2)]) (g := (gName 2)) (tt := tYes) (by rfl) sc_state_classes.nd (pi_list (pe_cl c_flags_of hr (by decide) (by rfl) (pa_cons (pe_callB call_len_seq (by rfl) m_len PySem.boot_len (pa_cons (pv 0) pa_nil)) (pa_cons (pv 1) pa_nil)))) (blkOk_by (own := [("flag", 2)]) (N := N_state_classes) (sc := defScope s_state_classes) (by decide +kernel)) (fun _ _ _ _ _ => (pg_name (i := 2) sc_state_classes.nd rfl (by first | exact .inl rfl | exact .inr rfl))) (fun _ _ _ _ _ => pts_nil) (fun _ _ _ _ _ => (pe_callTy call_int1 (by rfl) m_int (by decide +kernel) (pa_cons (pv 2) pa_nil)))))
      (pss_cons (ps_set (i := 4) sc_state_classes.nd rfl (by first | exact .inl rfl | exact .inr rfl) pe_int)
      (pss_one (ps_while PassesOwn.never (pt_val pe_bl)
        (pss_cons (ps_set (i := 5) sc_state_classes.nd rfl (by first | exact .inl rfl | exact .inr rfl) (pe_dnewN (P := P) (w := w) rfl rfl))
      (pss_cons (ps_set (i := 6) sc_state_classes.nd rfl (by first | exact .inl rfl | exact .inr rfl) (pe_lst pa_nil))
      (pss_cons (ps_for PassesOwn.never rfl (pi_enumM (by rfl) m_enumerate (pa_cons (pv 0) pa_nil)) (pg_tup rfl (pgs_cons (pg_name (i := 7) sc_state_classes.nd rfl (by first | exact .inl rfl | exact .inr rfl)) (pgs_cons (pg_name (i := 8) sc_state_classes.nd rfl (by first | exact .inl rfl | exact .inr rfl)) pgs_nil)))
        (pss_cons (ps_set (i := 10) sc_state_classes.nd rfl (by first | exact .inl rfl | exact .inr rfl) (pe_callTy call_tuple_of (by rfl) m_tuple (by decide +kernel) (pa_cons (pe_op op_cat (pe_lst (pa_cons (pe_ix ix_list (pv 3) (pv 7) (fun _ _ => rfl)) pa_nil)) (pe_lc (own := [("entry", 9)]) (g := (gName 9)) (tt := tYes) (by rfl) sc_state_classes.nd (pi_sq (pv 8)) (blkOk_by (own := [("entry", 9)]) (N := N_state_classes) (sc := defScope s_state_classes) (by decide +kernel)) (fun _ _ _ _ _ => (pg_name (i := 9) sc_state_classes.nd rfl (by first | exact .inl rfl | exact .inr rfl))) (fun _ _ _ _ _ => pts_nil) (fun _ _ _ _ _ => (pe_ifExp (pt_cmpR op_isN (pv 9) pe_non (nomark _)) pe_non (pe_ix (ix_list_K (K := K) rfl) (pv 3) (pv 9) (fun _ _ => rfl)))))) pa_nil)))
      (pss_one (ps_expr (pe_bm PySem.F.plainAttrs_list PySem.F.slot_list_append PySem.F.type_list_append mt_append (pv 6) (pa_cons (pe_dsetdN (P := P) (w := w) (Nat.lt_of_le_of_lt (Nat.add_le_add_left (by decide) _) hr.units) rfl rfl (pv 5) (pv 10) (pe_callB (call_lenN (P := P) (w := w) rfl rfl) (by rfl) m_len PySem.boot_len (pa_cons (pv 5) pa_nil)) ⟨rfl, rfl, rfl, rfl⟩) pa_nil))))))
      (pss_cons (ps_if (pt_cmpR op_eq (pe_callB (call_lenN (P := P) (w := w) rfl rfl) (by rfl) m_len PySem.boot_len (pa_cons (pv 5) pa_nil)) (pv 4) (nomark _)) (pss_one (ps_ret (pv 6))) pss_nil)
      (pss_cons (ps_set (i := 3) sc_state_classes.nd rfl (by first | exact .inl rfl | exact .inr rfl) (pv 6))
      (pss_one (ps_set (i := 4) sc_state_classes.nd rfl (by first | exact .inl rfl | exact .inr rfl) (pe_callB (call_lenN (P := P) (w := w) rfl rfl) (by rfl) m_len PySem.boot_len (pa_cons (pv 5) pa_nil))))))))))))), ?_⟩
    walk_at "go"
    refine ⟨a, _, rfl, sqk_or hT.sq, ?_⟩
    rw [List.length_map]
    walk_at "go"
    refine ⟨q3, zs.length, g, gs, rfl, hG, hgs, by omega, fun L0 H1 s1 nL0 eL0 => ?_⟩
    walk_at "go"
    refine ⟨⟨_, SqL.of eL0⟩, fun A0 nA0 => ?_⟩
    refine lc_gen (n := zs.length) (fun k J => Same H1 J ∧ J A0 = some (.lst (nls k fun i => if i ∈ gs then 1 else 0))) ⟨same_new nA0, upd_same⟩ ?_ ?_ ?_ ?_
    · rintro k J hk ⟨s2, _⟩
      exact ⟨_, .bl (decide (k ∈ gs)), SqL.of (s2 _ _ eL0), by rw [List.getElem?_map, List.getElem?_range hk]; rfl⟩
    · rintro J ⟨s2, _⟩
      exact ⟨_, SqL.of (s2 _ _ eL0), by rw [List.length_map, List.length_range]; exact Nat.le_refl _⟩
    · rintro k J x J' hk ⟨s2, eA⟩ ⟨rfl, e⟩
      have hx := e _ (SqL.of (s2 _ _ eL0))
      rw [List.getElem?_map, List.getElem?_range hk] at hx
      cases hx
      walk_at "go"
      have two : ∀ v : Nat, (if k ∈ gs then 1 else 0) = v → ∃ acc, J' A0 = some (.lst acc) ∧ acc.length < sizeLine ∧ Same H1 (upd J' A0 (.lst (acc ++ [V.int (v : Int)]))) ∧ (upd J' A0 (.lst (acc ++ [V.int (v : Int)]))) A0 = some (.lst (nls (k + 1) fun i => if i ∈ gs then 1 else 0)) := fun v hv => by
        refine ⟨_, eA, by rw [nls_len]; exact szC (by omega), Z.Same.mut s2 nA0, ?_⟩
        rw [upd_same, nls_snoc]
        congr 3
        funext i
        by_cases c : i = k
        · rw [if_pos c, c, hv]
        · rw [if_neg c]
      refine .inr ⟨_, rfl, ?_⟩
      by_cases c : k ∈ gs
      · rw [decide_eq_true c]
        exact two 1 (if_pos c)
      · rw [decide_eq_false c]
        exact two 0 (if_neg c)
    rintro J ⟨s2, eA⟩
    have nA := none_of s1 nA0
    have sJ := s1.trans s2
    clear eL0 nA0 s1 s2
    walk_at "go"
    obtain ⟨n, hn'⟩ : ∃ n, n = zs.length := ⟨_, rfl⟩
    obtain ⟨T, hT'⟩ : ∃ T, T = tb zs := ⟨_, rfl⟩
    have lT : T.length = n := by rw [hT', hn']; exact List.length_map ..
    rw [← hT'] at wf qq lv
    rw [← hn'] at hn hn0 hgs qq eA
    refine ⟨fun μ σ J => Same H J ∧ ∃ (Cl : Addr) (cl : Nat → Nat) (mn : Nat) (v5 v6 v7 v8 v10 : Option V), J Cl = some (.lst (nls n cl)) ∧ Crs T (inG gs) cl ∧ (∀ s t, s < n → t < n → cl s = cl t → (inG gs s ↔ inG gs t)) ∧ (mn = 0 ∨ mn = cf cl n) ∧ mn ≤ n ∧ μ = n - mn ∧ σ = [some (.ref a), some (.ref g), none, some (.ref Cl), some (.int (mn : Int)), v5, v6, v7, v8, none, v10], ⟨_, sJ, A0, _, 0, none, none, none, none, none, eA, fun s t hs ht l => ?_, fun s t hs ht e => ?_, .inl rfl, Nat.zero_le _, rfl, rfl⟩, ?_⟩
    · have := l.good
      unfold inG at this
      show (if s ∈ gs then (1 : Nat) else 0) = if t ∈ gs then 1 else 0
      by_cases c : s ∈ gs
      · rw [if_pos c, if_pos (this.mp c)]
      · rw [if_neg c, if_neg (fun z => c (this.mpr z))]
    · unfold inG
      have e : (if s ∈ gs then (1 : Nat) else 0) = if t ∈ gs then 1 else 0 := e
      by_cases c : s ∈ gs
      · by_cases d : t ∈ gs
        · exact ⟨fun _ => d, fun _ => c⟩
        · rw [if_pos c, if_neg d] at e; cases e
      · by_cases d : t ∈ gs
        · rw [if_neg c, if_pos d] at e; cases e
        · exact ⟨fun z => absurd z c, fun z => absurd z d⟩
    rintro μ σ J ⟨s3, Cl, cl, mn, v5, v6, v7, v8, v10, eC, crs, fl, hm0, mnn, rfl, rfl⟩
    walk_at "go"
    refine ite2 (fun _ => ?_) (fun e => absurd rfl e)
    refine ⟨fun σ' J' => Same H J' ∧ ∃ (Cl : Addr) (cl : Nat → Nat) (mn' : Nat) (v5 v6 v7 v8 v10 : Option V), J' Cl = some (.lst (nls n cl)) ∧ Crs T (inG gs) cl ∧ (∀ s t, s < n → t < n → cl s = cl t → (inG gs s ↔ inG gs t)) ∧ mn' = cf cl n ∧ mn' ≤ n ∧ mn < mn' ∧ σ' = [some (.ref a), some (.ref g), none, some (.ref Cl), some (.int (mn' : Int)), v5, v6, v7, v8, none, v10], ?_, ?_⟩
    · rintro σ' J' ⟨s4, Cl', cl', mn', v5, v6, v7, v8, v10, e1, e2, e3, e4, e5, e6, rfl⟩
      exact ⟨_, by omega, s4, Cl', cl', mn', v5, v6, v7, v8, v10, e1, e2, e3, .inr e4, e5, rfl, rfl⟩
    walk_at "go"
    intro D nD
    have sD := same_new (o := DNo P w D []) nD
    have hD : DN P w (upd J D (DNo P w D [])) D [] := dn_new
    generalize upd J D (DNo P w D []) = J1 at sD hD
    walk_at "go"
    intro Fn nFn
    have sF := same_new (o := .lst []) nFn
    have eF : (upd J1 Fn (.lst [])) Fn = some (.lst (nls 0 fun _ => 0)) := upd_same
    have hD1 := hD.mono sF
    generalize upd J1 Fn (.lst []) = J2 at sF eF hD1
    have nFnJ := none_of sD nFn
    have s32 := sD.trans sF
    walk_at "go"
    refine ⟨q, _, _, rfl, Z.Same.sqK (s3.trans s32) hT.sq, ?_⟩
    refine for_enum hT.sq (fun k σ J2 => Same H J2 ∧ Same J J2 ∧ (∃ kvs fn, DN P w J2 D kvs ∧ J2 Fn = some (.lst (nls k fn)) ∧ Num (mk T m cl) k kvs fn) ∧ ∃ v7 v8 v10 : Option V, σ = [some (.ref a), some (.ref g), none, some (.ref Cl), some (.int (mn : Int)), some (.ref D), some (.ref Fn), v7, v8, none, v10]) ⟨s3.trans s32, s32, ⟨_, _, hD1, eF, num_nil _⟩, _, _, _, rfl⟩ (fun k σ J p => p.1) ?_ ?_
    · rintro k x σ J3 J4 ex ⟨s4, sJ4, ⟨kvs, fn, hD, eF, num⟩, v7, v8, v10, rfl⟩ s5
      rw [List.getElem?_map] at ex
      obtain ⟨z, ez, rfl⟩ := Option.map_eq_some_iff.mp ex
      have hk : k < n := by rw [hn']; exact (List.getElem?_eq_some_iff.mp ez).1
      have hz := (hT.mono (s4.trans s5)).at_ z (List.mem_of_getElem? ez)
      have mz : z.2 ∈ T := by rw [hT']; exact List.mem_map.mpr ⟨z, List.mem_of_getElem? ez, rfl⟩
      have lz := wf.row _ mz
      have rx : ∀ i, i < m → z.2.getD i none = nx T k i := fun i hi => by rw [hT']; exact row_nx ez (by omega)
      have eC4 := (sJ4.trans s5) _ _ eC
      have hD4 := hD.mono s5
      have eF4 := s5 _ _ eF
      walk_at "go"
      refine ⟨Cl, _, _, _, rfl, rfl, SqL.of eC4, nls_at hk, ?_⟩
      walk_at "go"
      intro l1 nl1
      generalize eH_ : upd J4 l1 _ = J5
      have s6 : Same J4 J5 := by rw [← eH_]; exact same_new nl1
      have el1 : J5 l1 = some (.lst [.int ((cl k : Nat) : Int)]) := by rw [← eH_]; exact upd_same
      clear eH_
      walk_at "go"
      refine rd_sq (b := q2) rfl (Z.Same.sqK s6 hz) ?_
      intro B nB
      refine lc_flt (n := m) (fun i => eV (z.2.getD i none)) (fun _ => true) (fun i => eV ((z.2.getD i none).map cl)) (by omega) nB (fun i J6 hi s7 => itq_go (Z.Same.sqK (s6.trans s7) hz) (row_at (by omega))) (fun J6 s7 => itq_stop (Z.Same.sqK (s6.trans s7) hz) (by rw [List.length_map]; omega)) (fun i J6 x J7 hi s7 y => ?_) (fun i => rfl) (fun i J6 Q1 hi s7 q1 => ?_) (fun i J6 Q1 hi _ s7 q1 => ?_) (fun J6 s7 eB => ?_)
      · obtain ⟨rfl, ex⟩ := itq_yld (Z.Same.sqK (s6.trans s7) hz) y
        rw [row_at (by omega)] at ex
        cases ex
        exact ⟨Same.refl _, rfl⟩
      · exact q1 _ (Same.refl _)
      · rw [rx i hi] at q1 ⊢
        cases e2 : nx T k i with
        | none =>
          rw [e2] at q1
          walk_at "go"
          exact q1 _ (Same.refl _)
        | some e =>
          rw [e2] at q1
          have he := (nx_lt wf e2).1
          rw [lT] at he
          dsimp only [eV]
          walk_at "go"
          exact ⟨Cl, _, _, _, rfl, rfl, SqL.of ((s6.trans s7) _ _ eC4), nls_at he, q1 _ (Same.refl _)⟩
      have em : fltL (fun _ => true) (fun i => eV ((z.2.getD i none).map cl)) m = (mk T m cl k).2.map eV := by
        rw [fltL_all]
        unfold mk
        dsimp only
        rw [List.map_map]
        exact List.map_congr_left fun i hi => by rw [rx i (List.mem_range.mp hi)]; rfl
      rw [em] at eB
      have lmk : ((mk T m cl k).2.map eV).length = m := by unfold mk; simp
      walk_at "go"
      refine ⟨l1, B, _, _, rfl, rfl, s7 _ _ el1, eB, by rw [lmk]; exact Nat.le_trans (show 1 + m ≤ 2000 by omega) (by decide), fun l2 nl2 => ?_⟩
      have s8 := same_new (o := .lst ([.int ((cl k : Nat) : Int)] ++ (mk T m cl k).2.map eV)) nl2
      have el2 : (upd J6 l2 (.lst ([.int ((cl k : Nat) : Int)] ++ (mk T m cl k).2.map eV))) l2 = some (.lst ([.int ((cl k : Nat) : Int)] ++ (mk T m cl k).2.map eV)) := upd_same
      generalize upd J6 l2 (.lst ([.int ((cl k : Nat) : Int)] ++ (mk T m cl k).2.map eV)) = J7 at s8 el2
      walk_at "go"
      refine ⟨l2, _, rfl, .inl ⟨SqL.of el2, fun t nt => ?_⟩⟩
      have s9 := same_new (o := .tup ([.int ((cl k : Nat) : Int)] ++ (mk T m cl k).2.map eV)) nt
      have et : (upd J7 t (.tup ([.int ((cl k : Nat) : Int)] ++ (mk T m cl k).2.map eV))) t = some (.tup ([.int ((cl k : Nat) : Int)] ++ (mk T m cl k).2.map eV)) := upd_same
      generalize upd J7 t (.tup ([.int ((cl k : Nat) : Int)] ++ (mk T m cl k).2.map eV)) = J8 at s9 et
      have s48 := s6.trans (s7.trans (s8.trans s9))
      have hD8 := hD4.mono s48
      have eF8 := s48 _ _ eF4
      have hN : NkV J8 (nk (mk T m cl k)) (.ref t) := .tup et (.cons (.int _) nka_lks)
      clear s6 s7 s8 s9 el1 eB el2
      walk_at "go"
      refine ⟨.inl ⟨rfl, _, SqL.of eF8⟩, ?_⟩
      walk_at "go"
      refine ⟨D, kvs, rfl, hD8, ?_⟩
      have lkv : kvs.length ≤ 1000000 := by
        rw [num.len]
        exact Nat.le_trans (cf_le _ _) (by omega)
      have sJ8 := sJ4.trans (s5.trans s48)
      have sH8 := s4.trans (s5.trans s48)
      have nDH := none_of s3 nD
      have nFnH := none_of s3 nFnJ
      refine ⟨kvs, nk (mk T m cl k), t, _, hD8, rfl, rfl, hN, nk_depth _, Nat.lt_of_le_of_lt lkv (by decide), fun v hv => ?_, fun hv => ?_⟩
      · obtain ⟨i, rfl, num2⟩ := num.old hv
        walk_at "go"
        refine ⟨Fn, _, _, rfl, rfl, eF8, by rw [nls_len]; exact szC (by omega), ?_⟩
        rw [nls_snoc]
        exact ⟨Z.Same.mut sH8 nFnH, Z.Same.mut sJ8 nFnJ, ⟨kvs, _, hD8.upd_lst eF8, upd_same, num2⟩, _, _, _, rfl⟩
      · have num2 := num.new hv t
        have hD9 := hD8.put (i := (kvs.length : Int)) hN (nk_depth _)
        have eF9 : (upd J8 D (DNo P w D (kvs ++ [(nk (mk T m cl k), t, (kvs.length : Int))]))) Fn = some (.lst (nls k fn)) := by
          rw [upd_ne (fun e => by have := hD8.at_; rw [← e, eF8] at this; unfold DNo at this; cases this)]
          exact eF8
        have sJ9 : Same J (upd J8 D (DNo P w D (kvs ++ [(nk (mk T m cl k), t, (kvs.length : Int))]))) := Z.Same.mut sJ8 nD
        have sH9 : Same H (upd J8 D (DNo P w D (kvs ++ [(nk (mk T m cl k), t, (kvs.length : Int))]))) := Z.Same.mut sH8 nDH
        generalize upd J8 D (DNo P w D (kvs ++ [(nk (mk T m cl k), t, (kvs.length : Int))])) = J9 at hD9 eF9 sJ9 sH9
        walk_at "go"
        refine ⟨Fn, _, _, rfl, rfl, eF9, by rw [nls_len]; exact szC (by omega), ?_⟩
        rw [nls_snoc]
        exact ⟨Z.Same.mut sH9 nFnH, Z.Same.mut sJ9 nFnJ, ⟨_, _, hD9.upd_lst eF9, upd_same, num2⟩, _, _, _, rfl⟩
    · rintro σ J3 ⟨s4, sJ3, ⟨kvs, fn, hD, eF, num⟩, v7, v8, v10, rfl⟩
      rw [List.length_map, ← hn'] at eF num
      walk_at "go"
      refine ⟨D, kvs, rfl, hD, ?_⟩
      walk_at "go"
      have e1 := num.cf
      have e2 := num.len
      have np : 0 < kvs.length := by rw [e2]; exact cf_pos _ hn0
      have rfn : ∀ s t, s < n → t < n → fn s = fn t → cl s = cl t := fun s t hs ht e => mk_fst ((num.eq hs ht).mp e)
      by_cases c : kvs.length = mn
      · rw [decide_eq_true (show V.int (kvs.length : Int) = V.int (mn : Int) by rw [c])]
        walk_at "go"
        have em : mn = Mc.cf cl n := by
          rcases hm0 with z | z
          · omega
          · exact z
        have back := cf_eq (f := cl) (g := fn) rfn (by rw [e1, ← e2, c, em])
        have key : ∀ s t, s < n → t < n → (fn s = fn t ↔ Leq T (inG gs) s t) := fun s t hs ht => by
          constructor
          · intro e
            refine stable_leq (cl := cl) wf (by rw [lT]; exact fl) (by rw [lT]; exact fun s t hs ht e => (num.eq hs ht).mp (back s t hs ht e)) s t (by rw [lT]; exact hs) (by rw [lT]; exact ht) (rfn s t hs ht e)
          · intro l
            exact back s t hs ht (crs s t (by rw [lT]; exact hs) (by rw [lT]; exact ht) l)
        exact qq Fn fn J3 s4 (none_of s3 nFnJ) eF key
      · rw [decide_eq_false (show ¬ V.int (kvs.length : Int) = V.int (mn : Int) from fun z => by injection z with z; omega)]
        walk_at "go"
        refine ⟨D, kvs, rfl, hD, ?_⟩
        refine ⟨s4, Fn, fn, kvs.length, _, _, _, _, _, eF, fun s t hs ht l => ?_, fun s t hs ht e => fl s t hs ht (rfn s t hs ht e), by rw [e1, e2], by rw [e2]; exact cf_le _ _, ?_, rfl⟩
        · rw [lT] at hs ht
          exact (num.eq hs ht).mpr (crs.next wf lv (by rw [lT]; exact hs) (by rw [lT]; exact ht) l)
        · rcases hm0 with z | z
          · omega
          · have := cf_mono (f := cl) (g := fn) rfn
            rw [e1, ← e2, ← z] at this
            omega
end
end Z
set_option pp.maxSteps 700
set_option Elab.async false
set_option linter.all false
set_option maxRecDepth 100000
set_option maxHeartbeats 4000000
open SX (S S_inj S_len S_cat)
namespace Z
open Mc
open PySem PySem.Spec PyProof.Rows L2
open C8 (pss_cut tCut)
local macro_rules | `(tactic| walk_at "num") => `(tactic| first | rfl | omega | decide | exact Nat.le_of_lt (small1000 (by simp)) | exact ⟨by omega, by omega⟩ | exact ⟨by omega, by omega, by omega⟩ | exact ⟨by decide, by decide, by decide⟩ | exact Or.inl ⟨by omega, by omega⟩ | exact Or.inr ⟨by omega, by omega⟩)
local macro_rules | `(tactic| walk_at "go") => `(tactic| repeat (first | refine ⟨_, rfl, ?_⟩ | refine ⟨_, _, rfl, rfl, ?_⟩ | refine ⟨_, _, rfl, ?_⟩ | (refine ⟨_, _, rfl, rfl, ?_, ?_⟩; focus walk_at "num") | refine Or.inl ⟨_, rfl, ?_⟩ | refine ⟨_, _, _, _, rfl, rfl, (by assumption), (by rfl), ?_⟩ | refine ⟨_, _, _, _, _, rfl, (by assumption), (by assumption), (by assumption), (by rfl), ?_⟩ | refine ⟨rfl, ?_⟩ | (refine And.intro ?_ ?_; focus walk_at "num")))
abbrev s_normal_table : Stmt := topS 28
abbrev N_normal_table : List Str := ["rows", "good", "flags", "classes", "numbers", "met", "result", "line", "entry", "at", "state"]
abbrev P_normal_table : List Str := ["rows", "good"]
theorem sc_normal_table : FnScope N_normal_table P_normal_table (defScope s_normal_table) := ⟨rfl, rfl, rfl, by decide +kernel, rfl, by decide +kernel, by decide +kernel⟩
/-- the numbers of the classes met -/
structure Nmb (kvs : List (L2.Key × V)) (fc : Nat → Nat) (met : List Nat) : Prop where
  len : kvs.length ≤ met.length
  at_ : ∀ (j s : Nat), met[j]? = some s → valV kvs (.inl ((fc s : Nat) : Int)) = some (.int ((j : Nat) : Int))
  no : ∀ c : Nat, (∀ s ∈ met, fc s ≠ c) → valV kvs (.inl (c : Int)) = none
theorem Nmb.put {kvs : List (L2.Key × V)} {fc : Nat → Nat} {met : List Nat} (h : Nmb kvs fc met) {e : Nat} (he : ∀ s ∈ met, fc s ≠ fc e) : Nmb (putK kvs (.inl ((fc e : Nat) : Int)) (.int ((met.length : Nat) : Int))) fc (met ++ [e]) := by
  refine ⟨?_, fun j s hj => ?_, fun c hc => ?_⟩
  · have := length_putK kvs (.inl ((fc e : Nat) : Int)) (.int ((met.length : Nat) : Int))
    rw [List.length_append]
    have := h.len
    show _ ≤ met.length + 1
    omega
  · rw [valV_put]
    by_cases c : j < met.length
    · rw [List.getElem?_append_left c] at hj
      rw [if_neg (fun z => he s (List.mem_of_getElem? hj) (by injection z with z; omega))]
      exact h.at_ j s hj
    · rw [List.getElem?_append_right (by omega)] at hj
      have c2 : j - met.length = 0 := by
        have := (List.getElem?_eq_some_iff.mp hj).1
        simp at this
        omega
      rw [c2] at hj
      cases hj
      rw [if_pos rfl, show j = met.length by omega]
  · rw [valV_put, if_neg (fun z => hc e (List.mem_append_right _ List.mem_cons_self) (by injection z with z; omega))]
    exact h.no c fun s hs => hc s (List.mem_append_left _ hs)
section
variable {P : Program} {w : World} {K : PySem.W.Frag} {mg : Str → Option Value} {base : Heap} {f : Addr} {fd : FuncData}
def spNorm (K : PySem.W.Frag) : Sp := fun vs H Q _ => ∃ (q q2 q3 : Bool) (m : Nat) (a g : Addr) (zs : List (Addr × List (Option Nat))) (gs : List Nat), vs = [.ref a, .ref g] ∧ Tb q q2 K H a zs ∧ Wf (tb zs) m ∧ m ≤ 1000 ∧ zs.length ≤ 1000000 ∧ SqK q3 K H g (gsq gs) ∧ (∀ s ∈ gs, s < zs.length) ∧
  ∀ (t r u : Addr) (zr : List (Addr × List (Option Nat))) (g' : List Nat) H', Same H H' → H' t = some (.tup [.ref r, .ref u]) → Tb false false K H' r zr → H' u = some (.tup (gsq g')) → Nf (tb zs) (inG gs) m (tb zr) g' → Q (.ref t) H'
theorem ok_normal_table (F : FnP K "normal_table" s_normal_table f fd) (m_len : mg "len" = none) (m_tuple : mg "tuple" = none) (m_enumerate : mg "enumerate" = none) (c_flags_of : Cal P w K mg base 1 "flags_of" (spFlags K)) (c_live_rows : Cal P w K mg base 2 "live_rows" (spLive K)) (c_state_classes : Cal P w K mg base 2 "state_classes" (spClasses K)) : FnOk P w K mg base CX0 3 f fd P_normal_table (spNorm K) := by
  refine F.ok sc_normal_table (fun vs H Q E h => ?_) (fun cdv A outer s H vs Q E hr h => ?_)
  · obtain ⟨q, q2, q3, m, a, g, zs, gs, rfl, _⟩ := h
    rfl
  · obtain ⟨q, q2, q3, m, a, g, zs, gs, rfl, hT, wf, hm, hn, hG, hgs, qq⟩ := h
    refine ⟨_, PSs.nox (pss_cons (ps_set (i := 2) sc_normal_table.nd rfl (by first | exact .inl rfl | exact .inr rfl) (pe_cl c_flags_of hr (by decide) (by rfl) (pa_cons (pe_callB call_len_seq (by rfl) m_len PySem.boot_len (pa_cons (pv 0) pa_nil)) (pa_cons (pv 1) pa_nil))))
      (pss_cons (ps_set (i := 0) sc_normal_table.nd rfl (by first | exact .inl rfl | exact .inr rfl) (pe_cl c_live_rows hr (by decide) (by rfl) (pa_cons (pv 0) (pa_cons (pv 1) pa_nil))))
      (pss_cons (ps_if (pt_cmpR op_eq (pe_callB call_len_seq (by rfl) m_len PySem.boot_len (pa_cons (pv 0) pa_nil)) pe_int (nomark _)) (pss_one (ps_ret (pe_tup (pa_cons (pe_tup pa_nil) (pa_cons (pe_tup pa_nil) pa_nil))))) pss_nil)
      (pss_cons (ps_set (i := 3) sc_normal_table.nd rfl (by first | exact .inl rfl | exact .inr rfl) (pe_cl c_state_classes hr (by decide) (by rfl) (pa_cons (pv 0) (pa_cons (pv 1) pa_nil))))
      (pss_cons (ps_set (i := 4) sc_normal_table.nd rfl (by first | exact .inl rfl | exact .inr rfl) (pe_disp (pps_cons (pe_ix ix_list (pv 3) pe_int (fun _ _ => rfl)) pe_int pps_nil) rfl rfl (by simp) (by decide)))
      (pss_cons (ps_set (i := 5) sc_normal_table.nd rfl (by first | exact .inl rfl | exact .inr rfl) (pe_lst (pa_cons pe_int pa_nil)))
      (pss_cons (ps_set (i := 6) sc_normal_table.nd rfl (by first | exact .inl rfl | exact .inr rfl) (pe_lst pa_nil))
      (pss_cut (ps_while PassesOwn.never (pt_cmpR op_lt (pe_callB call_len_seq (by rfl) m_len PySem.boot_len (pa_cons (pv 6) pa_nil)) (pe_callB call_len_seq (by rfl) m_len PySem.boot_len (pa_cons (pv 5) pa_nil)) (nomark _))
        (pss_cons (ps_set (i := 7) sc_normal_table.nd rfl (by first | exact .inl rfl | exact .inr rfl) (pe_lst pa_nil))
      (pss_cut (ps_for PassesOwn.never rfl (pi_list (pe_ix ix_list (pv 0) (pe_ix ix_list (pv 5) (pe_callB call_len_seq (by rfl) m_len PySem.boot_len (pa_cons (pv 6) pa_nil)) (fun _ _ => rfl)) (fun _ _ => rfl))) (pg_name (i := 8) sc_normal_table.nd rfl (by first | exact .inl rfl | exact .inr rfl))
        (pss_cons (ps_if (pt_cmpR op_isN (pv 8) pe_non (nomark _)) (pss_cons (ps_expr (pe_bm PySem.F.plainAttrs_list PySem.F.slot_list_append PySem.F.type_list_append mt_append (pv 7) (pa_cons pe_non pa_nil)))
      (pss_one ps_continue)) pss_nil)
      (pss_cut (ps_if (pt_cmp (pc_dnotin (hu_of hr) (pe_ix ix_list (pv 3) (pv 8) (fun _ _ => rfl)) (pv 4)) (by rfl)) (pss_cons (ps_dput (hu_of hr) (pv 4) (pe_ix ix_list (pv 3) (pv 8) (fun _ _ => rfl)) (pe_callB call_len_seq (by rfl) m_len PySem.boot_len (pa_cons (pv 5) pa_nil)) rfl)
      (pss_one (ps_expr (pe_bm PySem.F.plainAttrs_list PySem.F.slot_list_append PySem.F.type_list_append mt_append (pv 5) (pa_cons (pv 8) pa_nil))))) pss_nil)
      (pss_one (ps_expr (pe_bm PySem.F.plainAttrs_list PySem.F.slot_list_append PySem.F.type_list_append mt_append (pv 7) (pa_cons (pe_dget (hu_of hr) (pv 4) (pe_ix ix_list (pv 3) (pv 8) (fun _ _ => rfl)) (fun _ _ => rfl)) pa_nil)))))))
      (pss_one (ps_expr (pe_bm PySem.F.plainAttrs_list PySem.F.slot_list_append PySem.F.type_list_append mt_append (pv 6) (pa_cons (pe_callTy call_tuple_of (by rfl) m_tuple (by decide +kernel) (pa_cons (pv 7) pa_nil)) pa_nil)))))))
      (pss_one (ps_ret (pe_tup (pa_cons (pe_callTy call_tuple_of (by rfl) m_tuple (by decide +kernel) (pa_cons (pv 6) pa_nil)) (pa_cons (pe_callTy call_tuple_of (by rfl) m_tuple (by decide +kernel) (pa_cons (pe_lc (own := [("at", 9), ("state", 10)]) (g := (gTup K 2 (gCons (gName 9) (gCons (gName 10) gNil)))) (by rfl) sc_normal_table.nd (pi_enumM (by rfl) m_enumerate (pa_cons (pv 5) pa_nil)) (blkOk_by (own := [("at", 9), ("state", 10)]) (N := N_normal_table) (sc := defScope s_normal_table) (by decide +kernel)) (fun _ _ _ _ _ => (pg_tup rfl (pgs_cons (pg_name (i := 9) sc_normal_table.nd rfl (by first | exact .inl rfl | exact .inr rfl)) (pgs_cons (pg_name (i := 10) sc_normal_table.nd rfl (by first | exact .inl rfl | exact .inr rfl)) pgs_nil)))) (fun _ _ _ _ _ => (pts_one (pt_val (pe_ix (ix_list_K (K := K) rfl) (pv 2) (pv 10) (fun _ _ => rfl))))) (fun _ _ _ _ _ => (pv 9))) pa_nil)) pa_nil))))))))))))), ?_⟩
    walk_at "go"
    refine ⟨a, _, rfl, sqk_or hT.sq, ?_⟩
    rw [List.length_map]
    walk_at "go"
    refine ⟨q3, zs.length, g, gs, rfl, hG, hgs, by omega, fun L0 H1 s1 nL0 eL0 => ?_⟩
    walk_at "go"
    refine ⟨q, q2, q3, m, a, g, zs, gs, rfl, hT.mono s1, wf, hm, hn, Z.Same.sqK s1 hG, hgs, fun L zk H2 s2 nL hK hk => ?_⟩
    walk_at "go"
    refine ⟨L, _, rfl, sqk_or hK.sq, ?_⟩
    rw [List.length_map]
    walk_at "go"
    have nLH := none_of s1 nL
    rcases hk with ⟨rfl, h0⟩ | ⟨n0, l0, kpt⟩
    · rw [decide_eq_true (show V.int (([] : List (Addr × List (Option Nat))).length : Int) = V.int 0 from rfl)]
      walk_at "go"
      intro r nr
      generalize eH_ : upd H2 r _ = H3
      have s3 : Same H2 H3 := by rw [← eH_]; exact same_new nr
      have er : H3 r = some (.tup []) := by rw [← eH_]; exact upd_same
      clear eH_
      walk_at "go"
      intro u nu
      generalize eH_ : upd H3 u _ = H4
      have s4 : Same H3 H4 := by rw [← eH_]; exact same_new nu
      have eu : H4 u = some (.tup []) := by rw [← eH_]; exact upd_same
      clear eH_
      walk_at "go"
      intro t nt
      generalize eH_ : upd H4 t _ = H5
      have s5 : Same H4 H5 := by rw [← eH_]; exact same_new nt
      have et : H5 t = some (.tup [.ref r, .ref u]) := by rw [← eH_]; exact upd_same
      clear eH_
      exact qq t r u [] [] H5 (s1.trans (s2.trans (s3.trans (s4.trans s5)))) et ⟨SqT.of ((s4.trans s5) _ _ er), fun z m => absurd m (by simp)⟩ (s5 _ _ eu) (.inl ⟨rfl, rfl, h0.imp (fun e => by rw [e]; rfl) id⟩)
    have lK : zk.length = zs.length := by
      have := kpt.len
      unfold tb at this
      rwa [List.length_map, List.length_map] at this
    rw [decide_eq_false (show ¬ V.int (zk.length : Int) = V.int 0 from fun z => by injection z with z; omega)]
    walk_at "go"
    have s12 := s1.trans s2
    have hG2 := Z.Same.sqK s12 hG
    refine ⟨true, true, q3, m, L, g, zk, gs, rfl, hK, kpt.wf, hm, by omega, by omega, hG2, by rw [lK]; exact hgs, ?_⟩
    obtain ⟨T, hT'⟩ : ∃ T, T = tb zk := ⟨_, rfl⟩
    have lT : T.length = zs.length := by rw [hT', kpt.len]; exact List.length_map ..
    rw [← hT'] at kpt ⊢
    refine ⟨kpt.lv, fun L3 fc H3 s3 nL3 eFc hfc => ?_⟩
    rw [lK] at hfc eFc
    obtain ⟨n, hn'⟩ : ∃ n, n = zs.length := ⟨_, rfl⟩
    rw [← hn'] at hfc eFc hn n0 lT lK hgs eL0
    have eL03 := (s2.trans s3) _ _ eL0
    have hK3 := hK.mono s3
    have sH3 := s12.trans s3
    have l0' := (kpt.liv 0).mpr l0
    intro Nu nNu
    have sN := same_new (o := .dK []) nNu
    walk_at "go"
    refine ⟨L3, _, _, _, rfl, rfl, SqL.of (sN _ _ eFc), nls_at (i := 0) n0, ?_⟩
    walk_at "go"
    refine ⟨upd_same, [(.inl ((fc 0 : Nat) : Int), .int 0)], rfl, (by show 1 ≤ 15; decide), ?_⟩
    have s35 : Same H3 (upd (upd H3 Nu (.dK [])) Nu (.dK (mergeK [] [(.inl ((fc 0 : Nat) : Int), .int 0)]))) := Z.Same.mut sN nNu
    have eNu : (upd (upd H3 Nu (.dK [])) Nu (.dK (mergeK [] [(.inl ((fc 0 : Nat) : Int), .int 0)]))) Nu = some (.dK [(.inl ((fc 0 : Nat) : Int), .int 0)]) := upd_same
    have nm0 : Nmb [(.inl ((fc 0 : Nat) : Int), .int 0)] fc [0] := by
      refine ⟨Nat.le_refl _, fun j s hj => ?_, fun c hc => ?_⟩
      · have h1 := (List.getElem?_eq_some_iff.mp hj).1
        have h1 : j < 1 := h1
        have : j = 0 := by omega
        subst this
        cases hj
        exact valV_pos rfl
      · rw [valV_neg (fun z => hc 0 List.mem_cons_self (by injection z with z; omega))]
        rfl
    generalize upd (upd H3 Nu (.dK [])) Nu (.dK (mergeK [] [(.inl ((fc 0 : Nat) : Int), .int 0)])) = H5 at s35 eNu
    clear sN
    walk_at "go"
    intro Me nMe
    have s6 := same_new (o := .lst [.int 0]) nMe
    have eMe : (upd H5 Me (.lst [.int 0])) Me = some (.lst (gsq [0])) := upd_same
    generalize upd H5 Me (.lst [.int 0]) = H6 at s6 eMe
    walk_at "go"
    intro Re nRe
    have s7 := same_new (o := .lst []) nRe
    have eRe : (upd H6 Re (.lst [])) Re = some (.lst (([] : List (Addr × List (Option Nat))).map fun z => V.ref z.1)) := upd_same
    have eNu7 := (s6.trans s7) _ _ eNu
    have eMe7 := s7 _ _ eMe
    generalize upd H6 Re (.lst []) = H7 at s7 eRe eNu7 eMe7
    have s37 := s35.trans (s6.trans s7)
    have nMe3 := none_of s35 nMe
    have nRe3 := none_of (s35.trans s6) nRe
    have MR : Me ≠ Re := fun e => by rw [e, nRe] at eMe; cases eMe
    clear s6 s7 eNu eMe s35 nMe nRe
    rw [show L2.start N_normal_table [V.ref a, V.ref g] = [some (.ref a), some (.ref g), none, none, none, none, none, none, none, none, none] from rfl]
    dsimp only [List.set]
    have bf0 : Bf T (inG gs) m [0] [] [] := Bf.start (by rw [lT]; exact n0) l0'
    refine ⟨fun σ' J => Same H3 J ∧ ∃ (met : List Nat) (zr : List (Addr × List (Option Nat))) (v7 v8 : Option V), J Me = some (.lst (gsq met)) ∧ J Re = some (.lst (zr.map fun z => V.ref z.1)) ∧ (∀ z ∈ zr, J z.1 = some (.tup (z.2.map eV))) ∧ Bf T (inG gs) m met (tb zr) [] ∧ zr.length = met.length ∧ σ' = [some (.ref L), some (.ref g), some (.ref L0), some (.ref L3), some (.ref Nu), some (.ref Me), some (.ref Re), v7, v8, none, none], ?_, ?_⟩
    · refine ⟨fun μ σ J => Same H3 J ∧ ∃ (met : List Nat) (zr : List (Addr × List (Option Nat))) (kvs : List (L2.Key × V)) (v7 v8 : Option V), J Me = some (.lst (gsq met)) ∧ J Re = some (.lst (zr.map fun z => V.ref z.1)) ∧ J Nu = some (.dK kvs) ∧ Nmb kvs fc met ∧ (∀ z ∈ zr, J z.1 = some (.tup (z.2.map eV))) ∧ Bf T (inG gs) m met (tb zr) [] ∧ μ = n - zr.length ∧ σ = [some (.ref L), some (.ref g), some (.ref L0), some (.ref L3), some (.ref Nu), some (.ref Me), some (.ref Re), v7, v8, none, none], ⟨_, s37, [0], [], _, none, none, eMe7, eRe, eNu7, nm0, fun z m => absurd m (by simp), bf0, rfl, rfl⟩, ?_⟩
      rintro μ σ J ⟨s4, met, zr, kvs, v7, v8, eM, eR, eN, nm, hz, bf, rfl, rfl⟩
      have lzr : (tb zr).length = zr.length := List.length_map ..
      have bfl := bf.le
      have bfn := bf.nodup
      rw [lzr] at bfl
      rw [lT] at bfn
      walk_at "go"
      refine ⟨Re, _, rfl, .inl (SqL.of eR), ?_⟩
      rw [List.length_map]
      walk_at "go"
      refine ⟨Me, _, rfl, .inl (SqL.of eM), ?_⟩
      rw [show (gsq met).length = met.length from List.length_map ..]
      walk_at "go"
      refine ite2 (fun e => ?_) (fun e => ?_)
      · have lt : zr.length < met.length := by have := of_decide_eq_true e; omega
        refine ⟨fun σ' J' => Same H3 J' ∧ ∃ (met : List Nat) (zr' : List (Addr × List (Option Nat))) (kvs : List (L2.Key × V)) (v7 v8 : Option V), J' Me = some (.lst (gsq met)) ∧ J' Re = some (.lst (zr'.map fun z => V.ref z.1)) ∧ J' Nu = some (.dK kvs) ∧ Nmb kvs fc met ∧ (∀ z ∈ zr', J' z.1 = some (.tup (z.2.map eV))) ∧ Bf T (inG gs) m met (tb zr') [] ∧ zr'.length = zr.length + 1 ∧ σ' = [some (.ref L), some (.ref g), some (.ref L0), some (.ref L3), some (.ref Nu), some (.ref Me), some (.ref Re), v7, v8, none, none], ?_, ?_⟩
        · rintro σ' J' ⟨s5, met', zr', kvs', v7, v8, e1, e2, e3, e4, e5, e6, e7, rfl⟩
          exact ⟨_, by omega, s5, met', zr', kvs', v7, v8, e1, e2, e3, e4, e5, e6, rfl, rfl⟩
        obtain ⟨s0, hs0⟩ : ∃ s0, met[zr.length]? = some s0 := ⟨_, List.getElem?_eq_getElem lt⟩
        have s0n := (bf.live s0 (List.mem_of_getElem? hs0)).1
        rw [lT] at s0n
        obtain ⟨z0, hz0⟩ : ∃ z0, zk[s0]? = some z0 := ⟨_, List.getElem?_eq_getElem (by omega)⟩
        have mz0 : z0.2 ∈ T := by rw [hT']; exact List.mem_map.mpr ⟨z0, List.mem_of_getElem? hz0, rfl⟩
        have lz0 := kpt.wf.row _ mz0
        have rx : ∀ i, i < m → z0.2.getD i none = nx T s0 i := fun i hi => by rw [hT']; exact row_nx hz0 (by omega)
        walk_at "go"
        intro Li nLi
        have s5 := same_new (o := .lst []) nLi
        have eLi : (upd J Li (.lst [])) Li = some (.lst (([] : List (Option Nat)).map eV)) := upd_same
        have LM : Li ≠ Me := ne_of_none' (s4 := eM) nLi
        have LR : Li ≠ Re := ne_of_none' (s4 := eR) nLi
        have LN : Li ≠ Nu := ne_of_none' (s4 := eN) nLi
        have MN : Me ≠ Nu := fun e => by rw [e, eN] at eM; cases eM
        have RN : Re ≠ Nu := fun e => by rw [e, eN] at eR; cases eR
        have nLi3 := none_of s4 nLi
        have hLz : ∀ z ∈ zr, z.1 ≠ Li := fun z hm e => by have := hz z hm; rw [e, nLi] at this; cases this
        have hMz : ∀ z ∈ zr, z.1 ≠ Me := fun z hm e => by have := hz z hm; rw [e, eM] at this; cases this
        have hRz : ∀ z ∈ zr, z.1 ≠ Re := fun z hm e => by have := hz z hm; rw [e, eR] at this; cases this
        have hNz : ∀ z ∈ zr, z.1 ≠ Nu := fun z hm e => by have := hz z hm; rw [e, eN] at this; cases this
        refine ⟨fun σ' J' => Same H3 J' ∧ ∃ (met : List Nat) (kvs : List (L2.Key × V)) (Ln : List (Option Nat)) (v8 : Option V), J' Me = some (.lst (gsq met)) ∧ J' Re = some (.lst (zr.map fun z => V.ref z.1)) ∧ J' Nu = some (.dK kvs) ∧ Nmb kvs fc met ∧ (∀ z ∈ zr, J' z.1 = some (.tup (z.2.map eV))) ∧ J' Li = some (.lst (Ln.map eV)) ∧ Ln.length = m ∧ Bf T (inG gs) m met (tb zr) Ln ∧ zr.length < met.length ∧ σ' = [some (.ref L), some (.ref g), some (.ref L0), some (.ref L3), some (.ref Nu), some (.ref Me), some (.ref Re), some (.ref Li), v8, none, none], ?_, ?_⟩
        · walk_at "go"
          refine ⟨Re, _, rfl, .inl (SqL.of (s5 _ _ eR)), ?_⟩
          rw [List.length_map]
          walk_at "go"
          refine ⟨Me, _, _, _, rfl, rfl, SqL.of (s5 _ _ eM), atI_nat (v := .int ((s0 : Nat) : Int)) (by unfold gsq; rw [List.getElem?_map, hs0]; rfl), ?_⟩
          walk_at "go"
          have hK5 := hK3.mono (s4.trans s5)
          refine ⟨L, _, _, _, rfl, rfl, hK5.sq, atI_nat (v := .ref z0.1) (by rw [List.getElem?_map, hz0]; rfl), ?_⟩
          walk_at "go"
          refine ⟨⟨_, hK5.at_ z0 (List.mem_of_getElem? hz0)⟩, ?_⟩
          refine for_gen (n := m) (fun k σ J => Same H3 J ∧ ∃ (met : List Nat) (kvs : List (L2.Key × V)) (Ln : List (Option Nat)) (v8 : Option V), J Me = some (.lst (gsq met)) ∧ J Re = some (.lst (zr.map fun z => V.ref z.1)) ∧ J Nu = some (.dK kvs) ∧ Nmb kvs fc met ∧ (∀ z ∈ zr, J z.1 = some (.tup (z.2.map eV))) ∧ J Li = some (.lst (Ln.map eV)) ∧ Ln.length = k ∧ Bf T (inG gs) m met (tb zr) Ln ∧ met[zr.length]? = some s0 ∧ σ = [some (.ref L), some (.ref g), some (.ref L0), some (.ref L3), some (.ref Nu), some (.ref Me), some (.ref Re), some (.ref Li), v8, none, none]) ⟨s4.trans s5, met, kvs, [], v8, s5 _ _ eM, s5 _ _ eR, s5 _ _ eN, nm, fun z hm => s5 _ _ (hz z hm), eLi, rfl, bf, hs0, rfl⟩ ?_ ?_ ?_ ?_
          · rintro k σ J hk ⟨s6, _⟩
            exact ⟨_, eV (z0.2.getD k none), (hK3.mono s6).at_ z0 (List.mem_of_getElem? hz0), row_at (by omega)⟩
          · rintro σ J ⟨s6, _⟩
            exact ⟨_, (hK3.mono s6).at_ z0 (List.mem_of_getElem? hz0), by rw [List.length_map]; omega⟩
          · rintro k σ J6 x J7 hk ⟨s6, met, kvs, Ln, v8, eM, eR, eN, nm, hz, eLi, lL, bf, hs0, rfl⟩ ⟨rfl, e⟩
            have hx := e _ ((hK3.mono s6).at_ z0 (List.mem_of_getElem? hz0))
            rw [row_at (by omega), rx k hk] at hx
            cases hx
            have hs0' : met[(tb zr).length]? = some s0 := by rw [show (tb zr).length = zr.length from List.length_map ..]; exact hs0
            have bfn := bf.nodup
            rw [lT] at bfn
            cases eo : nx T s0 k with
            | none =>
              walk_at "go"
              refine ⟨.inl ⟨rfl, _, SqL.of eLi⟩, ?_⟩
              walk_at "go"
              refine ⟨Li, _, _, rfl, rfl, eLi, by rw [List.length_map]; exact szC (by omega), ?_⟩
              have bf2 := bf.put (more := []) (o := none) hs0' (by omega) (.inl rfl) (.inl ⟨rfl, by rw [lL]; exact eo⟩)
              rw [List.append_nil] at bf2
              exact ⟨Z.Same.mut s6 nLi3, met, kvs, Ln ++ [none], _, by rw [upd_ne LM.symm]; exact eM, by rw [upd_ne LR.symm]; exact eR, by rw [upd_ne LN.symm]; exact eN, nm, fun z hm => by rw [upd_ne (hLz z hm)]; exact hz z hm, by rw [upd_same, List.map_append]; rfl, by rw [List.length_append, lL]; rfl, bf2, hs0, rfl⟩
            | some e =>
              dsimp only [eV]
              have he := (nx_lt kpt.wf eo).1
              rw [lT] at he
              have lvE := kpt.lv _ _ _ eo
              walk_at "go"
              refine ite2 (fun h => absurd (of_decide_eq_true h) (fun z => by cases z)) (fun _ => ?_)
              refine ⟨fun σ' J' => Same H3 J' ∧ ∃ (more : List Nat) (kvs2 : List (L2.Key × V)) (j t : Nat), J' Me = some (.lst (gsq (met ++ more))) ∧ J' Re = some (.lst (zr.map fun z => V.ref z.1)) ∧ J' Nu = some (.dK kvs2) ∧ Nmb kvs2 fc (met ++ more) ∧ (∀ z ∈ zr, J' z.1 = some (.tup (z.2.map eV))) ∧ J' Li = some (.lst (Ln.map eV)) ∧ (met ++ more)[j]? = some t ∧ t < n ∧ fc t = fc e ∧ (more = [] ∨ ∃ e', more = [e'] ∧ some j = some met.length ∧ e' < T.length ∧ Liv T (inG gs) e' ∧ ∀ t ∈ met, ¬ Leq T (inG gs) e' t) ∧ σ' = [some (.ref L), some (.ref g), some (.ref L0), some (.ref L3), some (.ref Nu), some (.ref Me), some (.ref Re), some (.ref Li), some (.int (e : Int)), none, none], ?_, ?_⟩
              · walk_at "go"
                refine ⟨L3, _, _, _, rfl, rfl, SqL.of (s6 _ _ eFc), nls_at he, ?_⟩
                walk_at "go"
                refine ⟨Nu, _, rfl, DGet.k (k := .inl ((fc e : Nat) : Int)) eN, ?_⟩
                by_cases hx : ∃ j t : Nat, met[j]? = some t ∧ fc t = fc e
                · obtain ⟨j, t, hj, ht⟩ := hx
                  have hv := nm.at_ j t hj
                  rw [ht] at hv
                  rw [hv]
                  walk_at "go"
                  have tn := (bf.live t (List.mem_of_getElem? hj)).1
                  rw [lT] at tn
                  exact ⟨[], kvs, j, t, by rw [List.append_nil]; exact eM, eR, eN, by rw [List.append_nil]; exact nm, hz, eLi, by rw [List.append_nil]; exact hj, tn, ht, .inl rfl, rfl⟩
                · have ne : ∀ t ∈ met, fc t ≠ fc e := fun t ht q => by
                    obtain ⟨j, hj, rfl⟩ := List.getElem_of_mem ht
                    exact hx ⟨j, _, List.getElem?_eq_getElem hj, q⟩
                  rw [nm.no (fc e) ne]
                  walk_at "go"
                  refine ⟨Me, _, rfl, .inl (SqL.of eM), ?_⟩
                  rw [show (gsq met).length = met.length from List.length_map ..]
                  walk_at "go"
                  refine ⟨L3, _, _, _, rfl, rfl, SqL.of (s6 _ _ eFc), nls_at he, ?_⟩
                  walk_at "go"
                  have nml := nm.len
                  refine ⟨Nu, _, rfl, DPut.k (k := .inl ((fc e : Nat) : Int)) eN (szC (by omega)), ?_⟩
                  have s7 : Same H3 (upd J7 Nu (.dK (putK kvs (.inl ((fc e : Nat) : Int)) (.int ((met.length : Nat) : Int))))) := Z.Same.mut s6 nNu
                  have eM7 : (upd J7 Nu (.dK (putK kvs (.inl ((fc e : Nat) : Int)) (.int ((met.length : Nat) : Int))))) Me = some (.lst (gsq met)) := by rw [upd_ne MN]; exact eM
                  have eR7 : (upd J7 Nu (.dK (putK kvs (.inl ((fc e : Nat) : Int)) (.int ((met.length : Nat) : Int))))) Re = some (.lst (zr.map fun z => V.ref z.1)) := by rw [upd_ne RN]; exact eR
                  have eN7 : (upd J7 Nu (.dK (putK kvs (.inl ((fc e : Nat) : Int)) (.int ((met.length : Nat) : Int))))) Nu = some (.dK (putK kvs (.inl ((fc e : Nat) : Int)) (.int ((met.length : Nat) : Int)))) := upd_same
                  have eL7 : (upd J7 Nu (.dK (putK kvs (.inl ((fc e : Nat) : Int)) (.int ((met.length : Nat) : Int))))) Li = some (.lst (Ln.map eV)) := by rw [upd_ne LN]; exact eLi
                  have hz7 : ∀ z ∈ zr, (upd J7 Nu (.dK (putK kvs (.inl ((fc e : Nat) : Int)) (.int ((met.length : Nat) : Int))))) z.1 = some (.tup (z.2.map eV)) := fun z hm => by rw [upd_ne (hNz z hm)]; exact hz z hm
                  generalize upd J7 Nu (.dK (putK kvs (.inl ((fc e : Nat) : Int)) (.int ((met.length : Nat) : Int)))) = J9 at s7 eM7 eR7 eN7 eL7 hz7
                  walk_at "go"
                  refine ⟨.inl ⟨rfl, _, SqL.of eM7⟩, ?_⟩
                  walk_at "go"
                  refine ⟨Me, _, _, rfl, rfl, eM7, by rw [show (gsq met).length = met.length from List.length_map ..]; exact szC (by omega), ?_⟩
                  refine ⟨Z.Same.mut s7 nMe3, [e], _, met.length, e, by rw [upd_same]; unfold gsq; rw [List.map_append]; rfl, by rw [upd_ne MR.symm]; exact eR7, by rw [upd_ne MN.symm]; exact eN7, nm.put ne, fun z hm => by rw [upd_ne (hMz z hm)]; exact hz7 z hm, by rw [upd_ne LM]; exact eL7, by rw [List.getElem?_append_right (Nat.le_refl _), Nat.sub_self]; rfl, he, rfl, .inr ⟨e, rfl, rfl, by rw [lT]; exact he, lvE, fun t ht l => ?_⟩, rfl⟩
                  have tn := (bf.live t ht).1
                  rw [lT] at tn
                  exact ne t ht ((hfc e t he tn).mpr l).symm
              rintro σ' J7 ⟨s7, more, kvs2, j, t, eM7, eR7, eN7, nm7, hz7, eL7, hj, tn, ht, hmo, rfl⟩
              walk_at "go"
              refine ⟨.inl ⟨rfl, _, SqL.of eL7⟩, ?_⟩
              walk_at "go"
              refine ⟨L3, _, _, _, rfl, rfl, SqL.of (s7 _ _ eFc), nls_at he, ?_⟩
              walk_at "go"
              have hv := nm7.at_ j t hj
              rw [ht] at hv
              refine ⟨Nu, _, rfl, (by have := DGet.k (k := .inl ((fc e : Nat) : Int)) eN7; rw [hv] at this; exact this), ?_⟩
              walk_at "go"
              refine ⟨Li, _, _, rfl, rfl, eL7, by rw [List.length_map]; exact szC (by omega), ?_⟩
              have bf2 := bf.put (more := more) (o := some j) hs0' (by omega) hmo (.inr ⟨j, e, t, rfl, by rw [lL]; exact eo, hj, (hfc e t he tn).mp ht.symm⟩)
              exact ⟨Z.Same.mut s7 nLi3, met ++ more, kvs2, Ln ++ [some j], _, by rw [upd_ne LM.symm]; exact eM7, by rw [upd_ne LR.symm]; exact eR7, by rw [upd_ne LN.symm]; exact eN7, nm7, fun z hm => by rw [upd_ne (hLz z hm)]; exact hz7 z hm, by rw [upd_same, List.map_append]; rfl, by rw [List.length_append, lL]; rfl, bf2, by rw [List.getElem?_append_left (List.getElem?_eq_some_iff.mp hs0).1]; exact hs0, rfl⟩
          · rintro σ J ⟨s6, met, kvs, Ln, v8, eM, eR, eN, nm, hz, eLi, lL, bf, hs0, rfl⟩
            exact ⟨s6, met, kvs, Ln, v8, eM, eR, eN, nm, hz, eLi, lL, bf, (List.getElem?_eq_some_iff.mp hs0).1, rfl⟩
        rintro σ' J6 ⟨s6, met, kvs, Ln, v8, eM, eR, eN, nm, hz, eLi, lL, bf, lt, rfl⟩
        walk_at "go"
        refine ⟨.inl ⟨rfl, _, SqL.of eR⟩, ?_⟩
        walk_at "go"
        refine ⟨Li, _, rfl, .inl ⟨SqL.of eLi, fun t nt => ?_⟩⟩
        have st_ := same_new (o := .tup (Ln.map eV)) nt
        have et : (upd J6 t (.tup (Ln.map eV))) t = some (.tup (Ln.map eV)) := upd_same
        have tR : t ≠ Re := ne_of_none' (s4 := eR) nt
        generalize upd J6 t (.tup (Ln.map eV)) = J7 at st_ et
        walk_at "go"
        refine ⟨Re, _, _, rfl, rfl, st_ _ _ eR, by rw [List.length_map]; exact szC (by omega), ?_⟩
        have bf2 := bf.close (by rw [show (tb zr).length = zr.length from List.length_map ..]; exact lt) lL
        refine ⟨Z.Same.mut (s6.trans st_) nRe3, met, zr ++ [(t, Ln)], kvs, _, _, by rw [upd_ne MR]; exact st_ _ _ eM, by rw [upd_same, List.map_append]; rfl, by rw [upd_ne RN.symm]; exact st_ _ _ eN, nm, fun z hm => ?_, by unfold tb at bf2 ⊢; rw [List.map_append]; exact bf2, by rw [List.length_append]; rfl, rfl⟩
        rcases List.mem_append.mp hm with hm | hm
        · rw [upd_ne (hRz z hm)]
          exact st_ _ _ (hz z hm)
        · rw [List.mem_singleton.mp hm, upd_ne tR]
          exact et
      · have lt : ¬ zr.length < met.length := fun z => e (decide_eq_true (by omega))
        exact ⟨s4, met, zr, _, _, eM, eR, hz, bf, by omega, rfl⟩
    rintro σ' J ⟨s4, met, zr, v7, v8, eM, eR, hz, bf, lz, rfl⟩
    have bfn := bf.nodup
    rw [lT] at bfn
    walk_at "go"
    refine ⟨Re, _, rfl, .inl ⟨SqL.of eR, fun r nr => ?_⟩⟩
    have sr := same_new (o := .tup (zr.map fun z => V.ref z.1)) nr
    have er : (upd J r (.tup (zr.map fun z => V.ref z.1))) r = some (.tup (zr.map fun z => V.ref z.1)) := upd_same
    generalize upd J r (.tup (zr.map fun z => V.ref z.1)) = J1 at sr er
    have eM1 := sr _ _ eM
    have eL01 := (s4.trans sr) _ _ eL03
    walk_at "go"
    refine ⟨true, _, _, rfl, SqL.of eM1, ?_⟩
    intro D nD
    refine lc_gen (n := met.length) (fun k J => Same J1 J ∧ J D = some (.lst (gsq ((List.range k).filter fun i => decide (met.getD i 0 ∈ gs))))) ⟨same_new nD, upd_same⟩ ?_ ?_ ?_ ?_
    · rintro k J hk ⟨s5, _⟩
      exact ⟨gsq met, .int ((met[k] : Nat) : Int), SqL.of (s5 _ _ eM1), by unfold gsq; rw [List.getElem?_map, List.getElem?_eq_getElem hk]; rfl⟩
    · rintro J ⟨s5, _⟩
      exact ⟨gsq met, SqL.of (s5 _ _ eM1), List.length_map ..⟩
    · rintro k J x J' hk ⟨s5, eD⟩ ⟨Tt, z, rfl, nT, rfl, e⟩
      have hx := e _ (SqL.of (s5 _ _ eM1))
      unfold gsq at hx
      rw [List.getElem?_map, List.getElem?_eq_getElem hk] at hx
      cases hx
      have ln : met[k] < n := by have := (bf.live _ (List.getElem_mem hk)).1; omega
      have sT := same_new (o := .tup [.int ((k : Nat) : Int), .int ((met[k] : Nat) : Int)]) nT
      have eg : met.getD k 0 = met[k] := by rw [List.getD_eq_getElem?_getD, List.getElem?_eq_getElem hk]; rfl
      refine ⟨Tt, _, rfl, SqT.of upd_same, rfl, _, _, rfl, _, _, rfl, rfl, ?_⟩
      walk_at "go"
      refine ⟨L0, _, _, _, rfl, rfl, SqL.of ((s5.trans sT) _ _ eL01), atI_nat (v := .bl (decide (met[k] ∈ gs))) (by rw [List.getElem?_map, List.getElem?_range ln]; rfl), ?_⟩
      have fs : (List.range (k + 1)).filter (fun i => decide (met.getD i 0 ∈ gs)) = (List.range k).filter (fun i => decide (met.getD i 0 ∈ gs)) ++ if met[k] ∈ gs then [k] else [] := by
        rw [List.range_succ, List.filter_append]
        congr 1
        by_cases c : met[k] ∈ gs
        · rw [if_pos c]
          simp only [List.filter_cons, List.filter_nil, eg, c, decide_true, if_true]
        · rw [if_neg c]
          simp only [List.filter_cons, List.filter_nil, eg, c, decide_false, if_false, Bool.false_eq_true]
      have lD : (gsq ((List.range k).filter fun i => decide (met.getD i 0 ∈ gs))).length ≤ 1000000 := by
        have h1 := List.length_filter_le (fun i => decide (met.getD i 0 ∈ gs)) (List.range k)
        rw [List.length_range] at h1
        rw [show (gsq ((List.range k).filter fun i => decide (met.getD i 0 ∈ gs))).length = _ from List.length_map ..]
        omega
      by_cases c : met[k] ∈ gs
      · rw [decide_eq_true c]
        walk_at "go"
        refine ⟨_, sT _ _ eD, szC (by omega), Z.Same.mut (s5.trans sT) nD, ?_⟩
        rw [upd_same, fs, if_pos c]
        unfold gsq
        rw [List.map_append]
        rfl
      · rw [decide_eq_false c]
        walk_at "go"
        refine ⟨s5.trans sT, ?_⟩
        rw [fs, if_neg c, List.append_nil]
        exact sT _ _ eD
    rintro J ⟨s5, eD⟩
    walk_at "go"
    refine ⟨D, _, rfl, .inl ⟨SqL.of eD, fun u nu => ?_⟩⟩
    have su := same_new (o := .tup (gsq ((List.range met.length).filter fun i => decide (met.getD i 0 ∈ gs)))) nu
    have eu : (upd J u (.tup (gsq ((List.range met.length).filter fun i => decide (met.getD i 0 ∈ gs))))) u = some (.tup (gsq ((List.range met.length).filter fun i => decide (met.getD i 0 ∈ gs)))) := upd_same
    generalize upd J u (.tup (gsq ((List.range met.length).filter fun i => decide (met.getD i 0 ∈ gs)))) = J8 at su eu
    walk_at "go"
    intro t nt
    have st_ := same_new (o := .tup [.ref r, .ref u]) nt
    have s18 := s5.trans (su.trans st_)
    have nf : NfOf T (inG gs) m (tb zr) ((List.range met.length).filter fun i => decide (met.getD i 0 ∈ gs)) met := bf.nf kpt.wf (by rw [show (tb zr).length = zr.length from List.length_map ..]; exact lz) (fun i => by
      rw [List.mem_filter, List.mem_range, decide_eq_true_iff]
      constructor
      · rintro ⟨hi, hg⟩
        refine ⟨met[i], List.getElem?_eq_getElem hi, ?_⟩
        rw [List.getD_eq_getElem?_getD, List.getElem?_eq_getElem hi] at hg
        exact hg
      · rintro ⟨s, hs, hg⟩
        refine ⟨(List.getElem?_eq_some_iff.mp hs).1, ?_⟩
        rw [List.getD_eq_getElem?_getD, hs]
        exact hg) (List.Pairwise.filter _ List.pairwise_lt_range)
    exact qq t r u zr _ _ (sH3.trans (s4.trans (sr.trans s18))) upd_same ⟨SqT.of (s18 _ _ er), fun z hm => SqT.of ((sr.trans s18) _ _ (hz z hm))⟩ (st_ _ _ eu) (.inr ⟨met, kpt.nf nf⟩)
end
end Z
set_option pp.maxSteps 700
set_option Elab.async false
set_option linter.all false
set_option maxRecDepth 100000
set_option maxHeartbeats 4000000
open SX (S S_inj S_len S_cat)
namespace Z
open Mc
open PySem PySem.Spec PyProof.Rows L2
open C8 (pss_cut tCut)
local macro_rules | `(tactic| walk_at "num") => `(tactic| first | rfl | omega | decide | exact Nat.le_of_lt (small1000 (by simp)) | exact ⟨by omega, by omega⟩ | exact ⟨by omega, by omega, by omega⟩ | exact ⟨by decide, by decide, by decide⟩ | exact Or.inl ⟨by omega, by omega⟩ | exact Or.inr ⟨by omega, by omega⟩)
local macro_rules | `(tactic| walk_at "go") => `(tactic| repeat (first | refine ⟨_, rfl, ?_⟩ | refine ⟨_, _, rfl, rfl, ?_⟩ | refine ⟨_, _, rfl, ?_⟩ | (refine ⟨_, _, rfl, rfl, ?_, ?_⟩; focus walk_at "num") | refine Or.inl ⟨_, rfl, ?_⟩ | refine ⟨_, _, _, _, rfl, rfl, (by assumption), (by rfl), ?_⟩ | refine ⟨_, _, _, _, _, rfl, (by assumption), (by assumption), (by assumption), (by rfl), ?_⟩ | refine ⟨rfl, ?_⟩ | (refine And.intro ?_ ?_; focus walk_at "num")))
abbrev s_Machine___init__ : Stmt := inClass (topS 41) 0
abbrev N_Machine___init__ : List Str := ["self", "letters", "rows", "good", "ends", "state"]
abbrev P_Machine___init__ : List Str := ["self", "letters", "rows", "good"]
theorem sc_Machine___init__ : FnScope N_Machine___init__ P_Machine___init__ (defScope s_Machine___init__) := ⟨rfl, rfl, rfl, by decide +kernel, rfl, by decide +kernel, by decide +kernel⟩
abbrev s_Machine_after : Stmt := inClass (topS 41) 9
abbrev N_Machine_after : List Str := ["self", "text", "state", "letter"]
abbrev P_Machine_after : List Str := ["self", "text"]
theorem sc_Machine_after : FnScope N_Machine_after P_Machine_after (defScope s_Machine_after) := ⟨rfl, rfl, rfl, by decide +kernel, rfl, by decide +kernel, by decide +kernel⟩
abbrev s_Machine___contains__ : Stmt := inClass (topS 41) 7
abbrev N_Machine___contains__ : List Str := ["self", "text", "state"]
abbrev P_Machine___contains__ : List Str := ["self", "text"]
theorem sc_Machine___contains__ : FnScope N_Machine___contains__ P_Machine___contains__ (defScope s_Machine___contains__) := ⟨rfl, rfl, rfl, by decide +kernel, rfl, by decide +kernel, by decide +kernel⟩
abbrev s_Machine___eq__ : Stmt := inClass (topS 41) 8
abbrev N_Machine___eq__ : List Str := ["self", "other"]
abbrev P_Machine___eq__ : List Str := ["self", "other"]
theorem sc_Machine___eq__ : FnScope N_Machine___eq__ P_Machine___eq__ (defScope s_Machine___eq__) := ⟨rfl, rfl, rfl, by decide +kernel, rfl, by decide +kernel, by decide +kernel⟩
abbrev FnM (K : PySem.W.Frag) (x q : Str) (st : Stmt) (f : Addr) (fd : FuncData) : Prop := FunD K x q (defArgs st) (defBody st) (defScope st) [] [] f fd
abbrev FnMq (K : PySem.W.Frag) (x q : Str) (st : Stmt) (dvs : List V) (f : Addr) (fd : FuncData) : Prop := FunD K x q (defArgs st) (defBody st) (defScope st) dvs [] f fd
def mF (l : List Nat) (r u : Addr) : List (Str × V) := [("letters", .str (S l)), ("rows", .ref r), ("good", .ref u)]
structure McAt (C : Addr) (K : PySem.W.Frag) (H : Hp) (n : Addr) (l : List Nat) (R : Tbl) (g : List Nat) : Prop where
  ex : ∃ (dx r u : Addr) (zr : List (Addr × List (Option Nat))), H n = some (.ins C dx (mF l r u)) ∧ Tb false false K H r zr ∧ H u = some (.tup (gsq g)) ∧ R = tb zr
theorem McAt.mono {C : Addr} {K : PySem.W.Frag} {H H' : Hp} {n : Addr} {l : List Nat} {R : Tbl} {g : List Nat} (s : Same H H') (h : McAt C K H n l R g) : McAt C K H' n l R g := by
  obtain ⟨dx, r, u, zr, h1, h2, h3, h4⟩ := h.ex
  exact ⟨dx, r, u, zr, s _ _ h1, h2.mono s, s _ _ h3, h4⟩
theorem rgV_nat (n : Nat) : rgV 0 (n : Int) = gsq (List.range n) := by
  unfold rgV gsq
  simp
theorem SB.sqK {q : Bool} {K : PySem.W.Frag} {p a C dx : Addr} {fs : List (Str × V)} {H H' : Hp} {xs : List V} (s : SB p H H') (hp : H p = some (.ins C dx fs)) (h : SqK q K H a xs) : SqK q K H' a xs := by
  cases q
  · rcases h with (h | ⟨o, h⟩) | h
    · exact .inl (.inl (s _ _ (fun e => by rw [e, hp] at h; cases h) h))
    · exact .inl (.inr ⟨o, s _ _ (fun e => by rw [e, hp] at h; cases h) h⟩)
    · exact .inr h
  · rcases h with (h | ⟨o, h⟩) | h
    · exact .inl (.inl (s _ _ (fun e => by rw [e, hp] at h; cases h) h))
    · exact .inl (.inr ⟨o, s _ _ (fun e => by rw [e, hp] at h; cases h) h⟩)
    · exact .inr h
theorem Tb.sb {q q2 : Bool} {K : PySem.W.Frag} {p C dx : Addr} {fs : List (Str × V)} {H H' : Hp} {a : Addr} {zs : List (Addr × List (Option Nat))} (s : SB p H H') (hp : H p = some (.ins C dx fs)) (h : Tb q q2 K H a zs) : Tb q q2 K H' a zs := ⟨SB.sqK s hp h.sq, fun z m => SB.sqK s hp (h.at_ z m)⟩
section
variable {P : Program} {w : World} {K : PySem.W.Frag} {mg : Str → Option Value} {base : Heap} {f C : Addr} {fd : FuncData}
def GoodV (K : PySem.W.Frag) (H : Hp) (n : Nat) (gv : V) (gs : List Nat) : Prop := ((gv = .non ∧ gs = List.range n) ∨ ∃ (q3 : Bool) (g : Addr), gv = .ref g ∧ SqK q3 K H g (gsq gs)) ∧ ∀ s ∈ gs, s < n
def spMIni (C : Addr) (K : PySem.W.Frag) : Sp := fun vs H Q _ => ∃ (q q2 : Bool) (n dx a : Addr) (l : List Nat) (gv : V) (zs : List (Addr × List (Option Nat))) (gs : List Nat), vs = [.ref n, .str (S l), .ref a, gv] ∧ H n = some (.ins C dx []) ∧ l.Nodup ∧ l ≠ [] ∧ l.length ≤ 1000 ∧ Tb q q2 K H a zs ∧ Wf (tb zs) l.length ∧ zs.length ≤ 1000000 ∧ GoodV K H zs.length gv gs ∧
  ∀ (r u : Addr) (zr : List (Addr × List (Option Nat))) (g' : List Nat) H', SB n H H' → H' n = some (.ins C dx (mF l r u)) → Tb false false K H' r zr → H' u = some (.tup (gsq g')) → Nf (tb zs) (inG gs) l.length (tb zr) g' → Q .non H'
theorem ok_minit (F : FnMq K "__init__" "Machine.__init__" s_Machine___init__ [.non] f fd) (m_len : mg "len" = none) (m_list : mg "list" = none) (m_range : mg "range" = none) (cls : Cls K C) (n_letters : NoAttr K C "letters") (n_rows : NoAttr K C "rows") (n_good : NoAttr K C "good") (c_check_letters : Cal P w K mg base 1 "check_letters" spCkL) (c_check_rows : Cal P w K mg base 1 "check_rows" (spCkR K)) (c_normal_table : Cal P w K mg base 3 "normal_table" (spNorm K)) : FnOk P w K mg base CX0 4 f fd P_Machine___init__ (spMIni C K) := by
  refine F.ok sc_Machine___init__ (fun vs H Q E h => ?_) (fun cdv A outer s H vs Q E hr h => ?_)
  · obtain ⟨q, q2, n, dx, a, l, gv, zs, gs, rfl, _⟩ := h
    rfl
  · obtain ⟨q, q2, n, dx, a, l, gv, zs, gs, rfl, hn, nd, ne, ll, hT, wf, lz, hg, qq⟩ := h
    refine ⟨_, PSs.nox (pss_cons (ps_expr (pe_cl c_check_letters hr (by decide) (by rfl) (pa_cons (pv 1) pa_nil)))
      (pss_cons (ps_expr (pe_cl c_check_rows hr (by decide) (by rfl) (pa_cons (pe_callB call_len_str (by rfl) m_len PySem.boot_len (pa_cons (pv 1) pa_nil)) (pa_cons (pv 2) pa_nil))))
      (pss_cut (ps_set (i := 4) sc_Machine___init__.nd rfl (by first | exact .inl rfl | exact .inr rfl) (pe_ifExp (pt_cmpR op_isN (pv 3) pe_non (nomark _)) (pe_listRg rfl (by rfl) m_list (prg_1 (by rfl) m_range (pe_callB call_len_seq (by rfl) m_len PySem.boot_len (pa_cons (pv 2) pa_nil)))) (pv 3)))
      (pss_cons (ps_for PassesOwn.never rfl (pi_sq (pv 4)) (pg_name (i := 5) sc_Machine___init__.nd rfl (by first | exact .inl rfl | exact .inr rfl))
        (pss_one (ps_if (pt_not (pt_chain op_le op_lt pe_int (pv 5) (pe_callB call_len_seq (by rfl) m_len PySem.boot_len (pa_cons (pv 2) pa_nil)))) (pss_one ps_never) pss_nil)))
      (pss_cons (ps_fld (pv 0) (pv 1) rfl)
      (pss_one (ps_asg (pe_cl c_normal_table hr (by decide) (by rfl) (pa_cons (pv 2) (pa_cons (pv 4) pa_nil))) (pg_tup rfl (pgs_cons (pg_fld (pv 0)) (pgs_cons (pg_fld (pv 0)) pgs_nil)))))))))), ?_⟩
    walk_at "go"
    intro H1 s1
    walk_at "go"
    refine ⟨by rw [S_len]; exact Nat.le_trans ll (by decide), ?_⟩
    rw [S_len]
    walk_at "go"
    refine ⟨q, q2, l.length, a, zs, rfl, hT.mono s1, wf, fun H2 s2 => ?_⟩
    have s12 := s1.trans s2
    walk_at "go"
    refine ⟨fun σ' J => Same H J ∧ ∃ (q3 : Bool) (e : Addr), SqK q3 K J e (gsq gs) ∧ σ' = [some (.ref n), some (.str (S l)), some (.ref a), some gv, some (.ref e), none], ?_, ?_⟩
    · obtain ⟨hg1, hg2⟩ := hg
      walk_at "go"
      rcases hg1 with ⟨rfl, rfl⟩ | ⟨q3, g, rfl, hG⟩
      · walk_at "go"
        refine ⟨a, _, rfl, sqk_or (Z.Same.sqK s12 hT.sq), ?_⟩
        rw [List.length_map]
        walk_at "go"
        intro e ne'
        rw [rgV_nat]
        exact ⟨s12.trans (same_new ne'), true, e, SqL.of upd_same, rfl⟩
      · walk_at "go"
        exact ⟨q3, g, Z.Same.sqK s12 hG, rfl⟩
    obtain ⟨hg1, hg2⟩ := hg
    clear hg1
    rintro σ' J ⟨s3, q3, e, hE, rfl⟩
    walk_at "go"
    refine rd_sq (b := q3) rfl hE ?_
    refine for_gen (n := gs.length) (fun k σ J' => J' = J ∧ ∃ v5 : Option V, σ = [some (.ref n), some (.str (S l)), some (.ref a), some gv, some (.ref e), v5]) ⟨rfl, none, rfl⟩ ?_ ?_ ?_ ?_
    · rintro k σ J' hk ⟨rfl, _⟩
      exact itq_go hE (x := .int ((gs[k] : Nat) : Int)) (by unfold gsq; rw [List.getElem?_map, List.getElem?_eq_getElem hk]; rfl)
    · rintro σ J' ⟨rfl, _⟩
      exact itq_stop hE (by rw [show (gsq gs).length = gs.length from List.length_map ..]; exact Nat.le_refl _)
    · rintro k σ J' x J2 hk ⟨rfl, v5, rfl⟩ y
      obtain ⟨rfl, ex⟩ := itq_yld hE y
      unfold gsq at ex
      rw [List.getElem?_map, List.getElem?_eq_getElem hk] at ex
      cases ex
      have hgk := hg2 _ (List.getElem_mem hk)
      walk_at "go"
      refine ⟨a, _, rfl, sqk_or (Z.Same.sqK s3 hT.sq), ?_⟩
      rw [List.length_map]
      walk_at "go"
      rw [decide_eq_true (show ((gs[k] : Nat) : Int) < (zs.length : Int) by omega)]
      walk_at "go"
      exact ⟨_, rfl⟩
    rintro σ J' ⟨rfl, v5, rfl⟩
    have hn3 := s3 _ _ hn
    walk_at "go"
    refine ⟨n, C, dx, _, rfl, hn3, cls, n_letters, by decide, ?_⟩
    have sb4 : SB n J' (upd J' n (.ins C dx (putF (Str.ofString "letters") (V.str (S l)) []))) := SB.upd (Z.Same.sb (Same.refl _))
    have hn4 : (upd J' n (.ins C dx (putF (Str.ofString "letters") (V.str (S l)) []))) n = some (.ins C dx [("letters", .str (S l))]) := upd_same
    have hT4 := (hT.mono s3).sb sb4 hn3
    have hE4 := SB.sqK sb4 hn3 hE
    generalize upd J' n (.ins C dx (putF (Str.ofString "letters") (V.str (S l)) [])) = H4 at sb4 hn4 hT4 hE4
    walk_at "go"
    refine ⟨q, q2, q3, l.length, a, e, zs, gs, rfl, hT4, wf, ll, lz, hE4, hg2, fun t r u zr g' H5 s5 et hR eu nf => ?_⟩
    have hn5 := s5 _ _ hn4
    refine ⟨t, _, rfl, SqT.of et, rfl, _, _, rfl, _, rfl, n, C, dx, _, rfl, hn5, cls, n_rows, (show (1 : Nat) < 1000 by decide), ?_⟩
    refine ⟨_, _, rfl, _, rfl, n, C, dx, _, rfl, upd_same, cls, n_good, (show (2 : Nat) < 1000 by decide), rfl, ?_⟩
    have sb6 : SB n H5 (upd (upd H5 n (.ins C dx (putF (Str.ofString "rows") (V.ref r) [("letters", .str (S l))]))) n (.ins C dx (putF (Str.ofString "good") (V.ref u) (putF (Str.ofString "rows") (V.ref r) [("letters", .str (S l))])))) := SB.upd (SB.upd (Z.Same.sb (Same.refl _)))
    refine qq r u zr g' _ ((Z.Same.sb s3).trans (sb4.trans ((Z.Same.sb s5).trans sb6))) upd_same (hR.sb sb6 hn5) (sb6 _ _ (fun e => by rw [e, hn5] at eu; cases eu) eu) nf
theorem occ_one {l : List Nat} {c i : Nat} (nd : l.Nodup) (h : l[i]? = some c) : ∃ rest, Builtin.Str.occurrences (S l) ⟨#[c]⟩ 0 (S l).length 1 = i :: rest := by
  have at_iff : ∀ j, PySem.StrLaws.At (S l) ⟨#[c]⟩ (S l).length j ↔ l[j]? = some c := fun j => by
    have e := PySem.StrLaws.subAt_eq (S l) ⟨#[c]⟩ j
    constructor
    · rintro ⟨_, h2⟩
      rw [e] at h2
      exact PySem.StrLaws.take1_drop.mp h2
    · intro h2
      refine ⟨?_, by rw [e]; exact PySem.StrLaws.take1_drop.mpr h2⟩
      rw [S_len]
      exact (List.getElem?_eq_some_iff.mp h2).1
  rcases PySem.StrLaws.occ_head (S l) ⟨#[c]⟩ 1 (Nat.le_refl _) with ⟨_, no⟩ | ⟨j, rest, e, hj, _⟩
  · exact absurd ((at_iff i).mpr h) (no i)
  · have := nd_inj nd ((at_iff j).mp hj) h
    subst this
    exact ⟨rest, e⟩
def spAfter (C : Addr) (K : PySem.W.Frag) : Sp := fun vs H Q _ => ∃ (n : Addr) (l t : List Nat) (R : Tbl) (g : List Nat), vs = [.ref n, .str (S t)] ∧ McAt C K H n l R g ∧ l.Nodup ∧ Wf R l.length ∧ Q (eV (rs R (ixOf l) (Mc.st R) t)) H
theorem ok_after (F : FnM K "after" "Machine.after" s_Machine_after f fd) (m_len : mg "len" = none) (cls : Cls K C) (n_letters : NoAttr K C "letters") (n_rows : NoAttr K C "rows") : FnOk P w K mg base CX0 1 f fd P_Machine_after (spAfter C K) := by
  refine F.ok sc_Machine_after (fun vs H Q E h => ?_) (fun cdv A outer s H vs Q E hr h => ?_)
  · obtain ⟨n, l, t, R, g, rfl, _⟩ := h
    rfl
  · obtain ⟨n, l, t, R, g, rfl, ⟨dx, r, u, zr, hn, hR, hu, rfl⟩, nd, wf, q⟩ := h
    refine ⟨_, PSs.nox (pss_cut (ps_set (i := 2) sc_Machine_after.nd rfl (by first | exact .inl rfl | exact .inr rfl) (pe_ifExp (pt_cmpR op_gt (pe_callB call_len_seq (by rfl) m_len PySem.boot_len (pa_cons (pe_fld (pv 0) rfl) pa_nil)) pe_int (nomark _)) pe_int pe_non))
      (pss_cons (ps_for PassesOwn.never rfl (pi_str (pv 1)) (pg_name (i := 3) sc_Machine_after.nd rfl (by first | exact .inl rfl | exact .inr rfl))
        (pss_cons (ps_if (PW.pt (pw_or (pt_cmpR op_isN (pv 2) pe_non (nomark _)) (pw_or1 (pt_cmpR op_notIn_sign (pv 3) (pe_fld (pv 0) rfl) (by rfl))))) (pss_one (ps_ret pe_non)) pss_nil)
      (pss_one (ps_set (i := 2) sc_Machine_after.nd rfl (by first | exact .inl rfl | exact .inr rfl) (pe_ix ix_tup (pe_ix ix_tup (pe_fld (pv 0) rfl) (pv 2) (fun _ _ => rfl)) (pe_bm PySem.F.plainAttrs_str PySem.F.slot_str_index PySem.F.type_str_index mt_sindex (pe_fld (pv 0) rfl) (pa_cons (pv 3) pa_nil)) (fun _ _ => rfl))))))
      (pss_one (ps_ret (pv 2))))), ?_⟩
    have lR : (tb zr).length = zr.length := List.length_map ..
    refine ⟨fun σ' J => J = H ∧ σ' = [some (.ref n), some (.str (S t)), some (eV (Mc.st (tb zr))), none], ?_, ?_⟩
    · walk_at "go"
      refine ⟨r, _, rfl, .inr hR.sq, ?_⟩
      rw [List.length_map]
      unfold Mc.st
      rw [lR]
      walk_at "go"
      by_cases c : zr.length = 0
      · rw [if_pos c, decide_eq_false (show ¬ (0 : Int) < (zr.length : Int) by omega)]
        walk_at "go"
        rfl
      · rw [if_neg c, decide_eq_true (show (0 : Int) < (zr.length : Int) by omega)]
        walk_at "go"
        rfl
    rintro σ' J ⟨rfl, rfl⟩
    walk_at "go"
    refine for_gen (n := t.length) (fun k σ J' => J' = J ∧ ∃ (o : Option Nat) (v3 : Option V), o = rs (tb zr) (ixOf l) (Mc.st (tb zr)) (t.take k) ∧ (∀ j, o = some j → j < zr.length) ∧ σ = [some (.ref n), some (.str (S t)), some (eV o), v3]) ⟨rfl, Mc.st (tb zr), none, by cases Mc.st (tb zr) <;> rfl, fun j hj => ?_, rfl⟩ ?_ ?_ ?_ ?_
    · unfold Mc.st at hj
      split at hj
      · cases hj
      · cases hj
        omega
    · rintro k σ J' hk ⟨rfl, _⟩
      show k < (S t).cps.size
      simpa using hk
    · rintro σ J' ⟨rfl, _⟩
      show (S t).cps.size ≤ t.length
      simp
    · rintro k σ J' x J2 hk ⟨rfl, o, v3, ho, hj, rfl⟩ ⟨rfl, c, ec, rfl⟩
      have ec : t[k]? = some c := by simpa using ec
      have tk : t.take (k + 1) = t.take k ++ [c] := by rw [List.take_succ, ec]; rfl
      have tt : t = t.take (k + 1) ++ t.drop (k + 1) := (List.take_append_drop _ _).symm
      walk_at "go"
      cases o with
      | none =>
        dsimp only [eV]
        walk_at "go"
        refine ite2 (fun _ => ?_) (fun e => absurd (decide_eq_true rfl) e)
        refine ite2 (fun _ => ?_) (fun e => absurd rfl e)
        have e1 : rs (tb zr) (ixOf l) (Mc.st (tb zr)) t = none := by
          conv => lhs; rw [← List.take_append_drop k t]
          rw [rs_app, ← ho, rs_none]
        rw [e1] at q
        exact q
      | some s0 =>
        have hs := hj s0 rfl
        dsimp only [eV]
        walk_at "go"
        refine ite2 (fun e => ?_) (fun e => ?_)
        · have nc : c ∉ l := by simpa using e
          have e1 : rs (tb zr) (ixOf l) (Mc.st (tb zr)) t = none := by
            conv => lhs; rw [tt]
            rw [rs_app, tk, rs_app, ← ho, rs_one, ixOf_none.mpr nc]
            exact rs_none _ _ _
          rw [e1] at q
          exact q
        · have hc : c ∈ l := by simpa using e
          obtain ⟨i, hi⟩ : ∃ i, ixOf l c = some i := by
            cases e1 : ixOf l c with
            | none => exact absurd hc (ixOf_none.mp e1)
            | some i => exact ⟨i, rfl⟩
          have li := ixOf_some hi
          have il := (List.getElem?_eq_some_iff.mp li).1
          obtain ⟨rest, ho2⟩ := occ_one nd li
          obtain ⟨z, hz⟩ : ∃ z, zr[s0]? = some z := ⟨_, List.getElem?_eq_getElem hs⟩
          have mz : z.2 ∈ tb zr := List.mem_map.mpr ⟨z, List.mem_of_getElem? hz, rfl⟩
          have lz := wf.row _ mz
          have rx := row_nx hz (i := i) (by omega)
          have hrow := hR.at_ z (List.mem_of_getElem? hz)
          walk_at "go"
          refine ⟨r, _, _, _, rfl, rfl, hR.sq, atI_nat (v := .ref z.1) (by rw [List.getElem?_map, hz]; rfl), ?_⟩
          walk_at "go"
          refine ⟨_, _, i, rest, rfl, rfl, ho2, ?_⟩
          refine ⟨z.1, _, _, _, rfl, rfl, hrow, atI_nat (row_at (by omega)), ?_⟩
          refine ⟨rfl, nx (tb zr) s0 i, _, ?_, fun j hj => ?_, by rw [rx]; rfl⟩
          · rw [tk, rs_app, ← ho, rs_one, hi]
          · rw [← lR]
            exact (nx_lt wf hj).1
    · rintro σ J' ⟨rfl, o, v3, ho, hj, rfl⟩
      rw [List.take_length] at ho
      walk_at "go"
      rw [ho]
      exact q
theorem gsq_flat : ∀ g : List Nat, (gsq g).all flatV = true
  | [] => rfl
  | _ :: g => gsq_flat g
theorem inV_gsq (j : Nat) : ∀ g : List Nat, inV (.int (j : Int)) (gsq g) = decide (j ∈ g)
  | [] => rfl
  | x :: g => by
    have e := inV_gsq j g
    show (((x : Int)) == (j : Int) || inV (.int (j : Int)) (gsq g)) = _
    rw [e]
    by_cases c : x = j
    · subst c
      simp
    · have c1 : ((x : Int) == (j : Int)) = false := beq_eq_false_iff_ne.mpr (by omega)
      rw [c1, Bool.false_or]
      refine decide_eq_decide.mpr ⟨fun h => List.mem_cons_of_mem _ h, fun h => ?_⟩
      rcases List.mem_cons.mp h with h | h
      · exact absurd h.symm c
      · exact h
def accB (g : List Nat) : Option Nat → Bool
  | none => false
  | some j => decide (j ∈ g)
def spIn (C : Addr) (K : PySem.W.Frag) : Sp := fun vs H Q _ => ∃ (n : Addr) (l t : List Nat) (R : Tbl) (g : List Nat), vs = [.ref n, .str (S t)] ∧ McAt C K H n l R g ∧ l.Nodup ∧ Wf R l.length ∧ Q (.bl (accB g (rs R (ixOf l) (Mc.st R) t))) H
theorem ok_contains (F : FnM K "__contains__" "Machine.__contains__" s_Machine___contains__ f fd) (cls : Cls K C) (n_good : NoAttr K C "good") (me_after : Met P w K mg base 1 C "after" (spAfter C K)) : FnOk P w K mg base CX0 2 f fd P_Machine___contains__ (spIn C K) := by
  refine F.ok sc_Machine___contains__ (fun vs H Q E h => ?_) (fun cdv A outer s H vs Q E hr h => ?_)
  · obtain ⟨n, l, t, R, g, rfl, _⟩ := h
    rfl
  · obtain ⟨n, l, t, R, g, rfl, hM, nd, wf, q⟩ := h
    obtain ⟨dx, r, u, zr, hn, hR, hu, hRe⟩ := id hM.ex
    refine ⟨_, PSs.nox (pss_cons (ps_set (i := 2) sc_Machine___contains__.nd rfl (by first | exact .inl rfl | exact .inr rfl) (pe_me me_after (pv 0) hr (by decide) (pa_cons (pv 1) pa_nil)))
      (pss_one (ps_ret (pe_and (pe_cmpR op_notN (pv 2) pe_non (nomark _)) (pe_one (pe_cmpR op_in_seq (pv 2) (pe_fld (pv 0) rfl) (by rfl))))))), ?_⟩
    walk_at "go"
    refine ⟨n, dx, _, rfl, hn, rfl, ?_⟩
    walk_at "go"
    refine ⟨n, l, t, R, g, rfl, hM, nd, wf, ?_⟩
    cases e : rs R (ixOf l) (Mc.st R) t with
    | none =>
      rw [e] at q
      walk_at "go"
      exact q
    | some j =>
      rw [e] at q
      dsimp only [eV]
      walk_at "go"
      refine ⟨u, _, rfl, .inr (SqT.of hu), rfl, gsq_flat g, ?_⟩
      rw [inV_gsq]
      exact q
def spEqM (C : Addr) (K : PySem.W.Frag) : Sp := fun vs H Q _ => ∃ (n m : Addr) (l l' : List Nat) (R R' : Tbl) (g g' : List Nat), vs = [.ref n, .ref m] ∧ McAt C K H n l R g ∧ McAt C K H m l' R' g' ∧ Q (.bl (decide (l = l' ∧ R = R' ∧ g = g'))) H
theorem ok_eq (F : FnM K "__eq__" "Machine.__eq__" s_Machine___eq__ f fd) (isC : C8.InsC K C) (m_isinstance : mg "isinstance" = none) (g_Machine : mg "Machine" = some (.ref C)) (cls : Cls K C) (n_letters : NoAttr K C "letters") (n_rows : NoAttr K C "rows") (n_good : NoAttr K C "good") : FnOk P w K mg base CX0 1 f fd P_Machine___eq__ (spEqM C K) := by
  refine F.ok sc_Machine___eq__ (fun vs H Q E h => ?_) (fun cdv A outer s H vs Q E hr h => ?_)
  · obtain ⟨n, m, l, l', R, R', g, g', rfl, _⟩ := h
    rfl
  · obtain ⟨n, m, l, l', R, R', g, g', rfl, ⟨dx, r, u, zr, hn, hR, hu, rfl⟩, ⟨dy, r', u', zr', hn', hR', hu', rfl⟩, q⟩ := h
    refine ⟨_, PSs.nox (pss_one (ps_ret (pe_and (pe_callB (C8.call_isC isC) (by rfl) m_isinstance (by decide +kernel) (pa_cons (pv 1) (pa_cons (pe_glob (by rfl) g_Machine relv_ref) pa_nil))) (pe_and (pe_cmpR op_eq (pe_fld (pv 0) rfl) (pe_fld (pv 1) rfl) (nomark _)) (pe_and (pe_cmpR (op_eqD hr.units) (pe_fld (pv 0) rfl) (pe_fld (pv 1) rfl) (nomark _)) (pe_one (pe_cmpR (op_eqD hr.units) (pe_fld (pv 0) rfl) (pe_fld (pv 1) rfl) (nomark _)))))))), ?_⟩
    walk_at "go"
    refine ⟨m, dy, _, rfl, hn', ?_⟩
    walk_at "go"
    by_cases h1 : l = l'
    · subst h1
      rw [decide_eq_true rfl, if_pos rfl]
      walk_at "go"
      refine ⟨_, _, hR.dp, hR'.dp, shaped_tb _ _ _, shaped_tb _ _ _, ?_⟩
      rw [eqv_tb]
      by_cases h2 : tb zr = tb zr'
      · rw [decide_eq_true h2]
        walk_at "go"
        refine ⟨_, _, dp_nat (b := false) (SqT.of hu), dp_nat (b := false) (SqT.of hu'), shaped_nat _ _, shaped_nat _ _, ?_⟩
        rw [eqv_nat]
        rw [show decide (l = l ∧ tb zr = tb zr' ∧ g = g') = decide (g = g') from decide_eq_decide.mpr ⟨fun h => h.2.2, fun h => ⟨rfl, h2, h⟩⟩] at q
        exact q
      · rw [decide_eq_false h2]
        walk_at "go"
        rw [decide_eq_false (fun z => h2 z.2.1)] at q
        exact q
    · rw [decide_eq_false (fun z => h1 (by injection z with z; exact S_inj z)), if_neg (by decide)]
      rw [decide_eq_false (fun z => h1 z.1)] at q
      exact q
end
end Z
set_option linter.all false
set_option maxRecDepth 100000
namespace Mc
/-! ### the normal form is determined by the accepted texts -/
structure Ab (m : Nat) (R : Tbl) (X : Nat → List Nat → Prop) : Prop where
  zero : 0 < R.length
  row : ∀ r ∈ R, r.length = m
  inj : ∀ i j, i < R.length → j < R.length → (∀ w, X i w ↔ X j w) → i = j
  live : ∀ i, i < R.length → ∃ w, X i w
  no : ∀ i k, i < R.length → nx R i k = none → ∀ w, ¬ X i (k :: w)
  yes : ∀ i k j, nx R i k = some j → j < R.length ∧ ∀ w, X j w ↔ X i (k :: w)
  ord : ∀ j : Nat, 0 < j → j < R.length → ∃ i k : Nat, i < j ∧ nx R i k = some j ∧ ∀ (i' k' j' : Nat), (i' < i ∨ i' = i ∧ k' < k) → nx R i' k' = some j' → j' < j
theorem Ab.step {m : Nat} {R R' : Tbl} {X X' : Nat → List Nat → Prop} (h : Ab m R X) (h' : Ab m R' X') {i k j : Nat} (hi' : i < R'.length) (e : ∀ w, X i w ↔ X' i w) (hj : nx R i k = some j) : ∃ j', nx R' i k = some j' ∧ ∀ w, X j w ↔ X' j' w := by
  obtain ⟨lj, ej⟩ := h.yes i k j hj
  cases c : nx R' i k with
  | none =>
    obtain ⟨w, xw⟩ := h.live j lj
    exact absurd ((e _).mp ((ej w).mp xw)) (h'.no i k hi' c w)
  | some j' =>
    exact ⟨j', rfl, fun w => (ej w).trans ((e _).trans ((h'.yes i k j' c).2 w).symm)⟩
theorem Ab.grow {m : Nat} {R R' : Tbl} {X X' : Nat → List Nat → Prop} (h : Ab m R X) (h' : Ab m R' X') {n : Nat} (n0 : 0 < n) (ih : ∀ i, i < n → (i < R.length ↔ i < R'.length) ∧ (i < R.length → ∀ w, X i w ↔ X' i w)) (hn : n < R.length) : n < R'.length ∧ ∀ w, X n w ↔ X' n w := by
  obtain ⟨i, k, hi, e1, mi⟩ := h.ord n n0 hn
  have li : i < R.length := by omega
  have li' := (ih i hi).1.mp li
  obtain ⟨j', e2, q⟩ := h.step h' li' ((ih i hi).2 li) e1
  have lj' := (h'.yes i k j' e2).1
  have key : j' = n := by
    rcases Nat.lt_trichotomy j' n with c | c | c
    · have a := ih j' c
      have := h.inj j' n (a.1.mpr lj') hn fun w => ((a.2 (a.1.mpr lj')) w).trans (q w).symm
      omega
    · exact c
    · obtain ⟨i2, k2, hi2, e3, mi2⟩ := h'.ord n n0 (by omega)
      have nl : ¬ (i < i2 ∨ i = i2 ∧ k < k2) := fun z => by have := mi2 i k j' z e2; omega
      have ne : ¬ (i = i2 ∧ k = k2) := fun ⟨a, b⟩ => by subst a b; rw [e2] at e3; injection e3; omega
      have l2 : i2 < i ∨ i2 = i ∧ k2 < k := by omega
      have li2' : i2 < R'.length := by omega
      have li2 := (ih i2 hi2).1.mpr li2'
      obtain ⟨j3, e4, q4⟩ := h'.step h li2 (fun w => ((ih i2 hi2).2 li2 w).symm) e3
      have lt := mi i2 k2 j3 l2 e4
      have lj3 := (h.yes i2 k2 j3 e4).1
      have := h'.inj j3 n ((ih j3 lt).1.mp lj3) (by omega) fun w => ((ih j3 lt).2 lj3 w).symm.trans (q4 w).symm
      omega
  subst key
  exact ⟨lj', q⟩
theorem Ab.all {m : Nat} {R R' : Tbl} {X X' : Nat → List Nat → Prop} (h : Ab m R X) (h' : Ab m R' X') (e : ∀ w, X 0 w ↔ X' 0 w) : ∀ n i, i < n → (i < R.length ↔ i < R'.length) ∧ (i < R.length → ∀ w, X i w ↔ X' i w) := by
  intro n
  induction n with
  | zero => exact fun i hi => absurd hi (Nat.not_lt_zero _)
  | succ n ih =>
    intro i hi
    by_cases c : i < n
    · exact ih i c
    · have : i = n := by omega
      subst this
      by_cases c0 : i = 0
      · subst c0
        exact ⟨⟨fun _ => h'.zero, fun _ => h.zero⟩, fun _ => e⟩
      · have ih' : ∀ j, j < i → (j < R'.length ↔ j < R.length) ∧ (j < R'.length → ∀ w, X' j w ↔ X j w) := fun j hj => ⟨(ih j hj).1.symm, fun l w => ((ih j hj).2 ((ih j hj).1.mpr l) w).symm⟩
        exact ⟨⟨fun l => (h.grow h' (by omega) ih l).1, fun l => (h'.grow h (by omega) ih' l).1⟩, fun l => (h.grow h' (by omega) ih l).2⟩
theorem tbl_ext {m : Nat} {R R' : Tbl} (l : R.length = R'.length) (h : ∀ r ∈ R, r.length = m) (h' : ∀ r ∈ R', r.length = m) (e : ∀ i k, i < R.length → nx R i k = nx R' i k) : R = R' := by
  apply List.ext_getElem l
  intro i h1 h2
  have a := h _ (List.getElem_mem h1)
  have b := h' _ (List.getElem_mem h2)
  apply List.ext_getElem (a.trans b.symm)
  intro k k1 k2
  have := e i k h1
  rw [nx_at (List.getElem?_eq_getElem h1) (List.getElem?_eq_getElem k1), nx_at (List.getElem?_eq_getElem h2) (List.getElem?_eq_getElem k2)] at this
  exact this
theorem Ab.uniq {m : Nat} {R R' : Tbl} {X X' : Nat → List Nat → Prop} (h : Ab m R X) (h' : Ab m R' X') (e : ∀ w, X 0 w ↔ X' 0 w) : R = R' ∧ ∀ i, i < R.length → ∀ w, X i w ↔ X' i w := by
  have al := h.all h' e
  have l : R.length = R'.length := by
    rcases Nat.lt_trichotomy R.length R'.length with c | c | c
    · have := (al (R.length + 1) R.length (by omega)).1.mpr c
      omega
    · exact c
    · have := (al (R'.length + 1) R'.length (by omega)).1.mp c
      omega
  have x : ∀ i, i < R.length → ∀ w, X i w ↔ X' i w := fun i hi => (al (i + 1) i (by omega)).2 hi
  refine ⟨tbl_ext l h.row h'.row fun i k hi => ?_, x⟩
  have hi' : i < R'.length := by omega
  cases c : nx R i k with
  | none =>
    cases c' : nx R' i k with
    | none => rfl
    | some j =>
      obtain ⟨j', e2, _⟩ := h'.step h hi (fun w => (x i hi w).symm) c'
      rw [c] at e2
      cases e2
  | some j =>
    obtain ⟨j', e2, q⟩ := h.step h' hi' (x i hi) c
    have lj := (h.yes i k j c).1
    have lj' := (h'.yes i k j' e2).1
    rw [e2, h'.inj j j' (by omega) lj' fun w => (x j lj w).symm.trans (q w)]
theorem NfOf.ab {T : Tbl} {G : Nat → Prop} {m : Nat} {R : Tbl} {g met : List Nat} (h : NfOf T G m R g met) : Ab m R fun i w => ∃ s, met[i]? = some s ∧ Acc T G s w := by
  have ex : ∀ i, i < R.length → ∃ s, met[i]? = some s := fun i hi => ⟨_, List.getElem?_eq_getElem (by rw [← h.len]; exact hi)⟩
  refine ⟨by rw [h.len]; exact (List.getElem?_eq_some_iff.mp h.zero).1, h.row, fun i j hi hj e => ?_, fun i hi => ?_, fun i k hi n w => ?_, fun i k j hj => ?_, by rw [h.len]; exact h.ord⟩
  · obtain ⟨s, es⟩ := ex i hi
    obtain ⟨t, et⟩ := ex j hj
    refine h.ap i j s t es et fun w => ⟨fun a => ?_, fun a => ?_⟩
    · obtain ⟨t', e1, a'⟩ := (e w).mp ⟨s, es, a⟩
      rw [et] at e1
      cases e1
      exact a'
    · obtain ⟨t', e1, a'⟩ := (e w).mpr ⟨t, et, a⟩
      rw [es] at e1
      cases e1
      exact a'
  · obtain ⟨s, es⟩ := ex i hi
    obtain ⟨w, a⟩ := (h.live s (List.mem_of_getElem? es)).2
    exact ⟨w, s, es, a⟩
  · rintro ⟨s, es, a⟩
    obtain ⟨e, h1, b⟩ := acc_cons.mp a
    exact h.no i s k es n e h1 ⟨w, b⟩
  · obtain ⟨r, h1, h2⟩ := nx_mem hj
    obtain ⟨s, es⟩ := ex i (List.getElem?_eq_some_iff.mp h1).1
    obtain ⟨e, t, h3, h4, h5⟩ := h.yes i s k j es hj
    refine ⟨by rw [h.len]; exact (List.getElem?_eq_some_iff.mp h4).1, fun w => ⟨?_, ?_⟩⟩
    · rintro ⟨t', e1, a⟩
      rw [h4] at e1
      cases e1
      exact ⟨s, es, acc_cons.mpr ⟨e, h3, (h5 w).mpr a⟩⟩
    · rintro ⟨s', e1, a⟩
      rw [es] at e1
      cases e1
      obtain ⟨e', h6, b⟩ := acc_cons.mp a
      rw [h3] at h6
      cases h6
      exact ⟨t, h4, (h5 w).mp b⟩
theorem asc_ext : ∀ {l m : List Nat}, l.Pairwise (· < ·) → m.Pairwise (· < ·) → (∀ x, x ∈ l ↔ x ∈ m) → l = m
  | [], [], _, _, _ => rfl
  | [], y :: m, _, _, h => absurd ((h y).mpr List.mem_cons_self) (by simp)
  | x :: l, [], _, _, h => absurd ((h x).mp List.mem_cons_self) (by simp)
  | x :: l, y :: m, p, q, h => by
    obtain ⟨p1, p2⟩ := List.pairwise_cons.mp p
    obtain ⟨q1, q2⟩ := List.pairwise_cons.mp q
    have e : x = y := by
      rcases List.mem_cons.mp ((h x).mp List.mem_cons_self) with a | a
      · exact a
      · rcases List.mem_cons.mp ((h y).mpr List.mem_cons_self) with b | b
        · exact b.symm
        · have := q1 x a
          have := p1 y b
          omega
    subst e
    rw [asc_ext p2 q2 fun z => ⟨fun m1 => ?_, fun m1 => ?_⟩]
    · rcases List.mem_cons.mp ((h z).mp (List.mem_cons_of_mem _ m1)) with a | a
      · have := p1 z m1
        omega
      · exact a
    · rcases List.mem_cons.mp ((h z).mpr (List.mem_cons_of_mem _ m1)) with a | a
      · have := q1 z m1
        omega
      · exact a
def AccS (T : Tbl) (G : Nat → Prop) (w : List Nat) : Prop := ∃ t, rn T (st T) w = some t ∧ G t
theorem NfOf.pos {T : Tbl} {G : Nat → Prop} {m : Nat} {R : Tbl} {g met : List Nat} (h : NfOf T G m R g met) : st T = some 0 := if_neg (by have := (h.live 0 (List.mem_of_getElem? h.zero)).1; omega)
theorem NfOf.accS {T : Tbl} {G : Nat → Prop} {m : Nat} {R : Tbl} {g met : List Nat} (h : NfOf T G m R g met) (w : List Nat) : (∃ s, met[0]? = some s ∧ Acc T G s w) ↔ AccS T G w := by
  unfold AccS
  rw [h.pos]
  constructor
  · rintro ⟨s, e, a⟩
    rw [h.zero] at e
    cases e
    exact a
  · exact fun a => ⟨0, h.zero, a⟩
theorem Nf.uniq {T T' : Tbl} {G G' : Nat → Prop} {m : Nat} {R R' : Tbl} {g g' : List Nat} (h : Nf T G m R g) (h' : Nf T' G' m R' g') (e : ∀ w, AccS T G w ↔ AccS T' G' w) : R = R' ∧ g = g' := by
  have no : ∀ {T : Tbl} {G : Nat → Prop}, (T = [] ∨ ¬ Liv T G 0) → ∀ w, ¬ AccS T G w := by
    rintro T G h w ⟨t, h1, h2⟩
    rcases h with rfl | h
    · rw [show st [] = none from rfl, rn_none] at h1
      cases h1
    · unfold st at h1
      split at h1
      · rw [rn_none] at h1; cases h1
      · exact h ⟨w, t, h1, h2⟩
  have ex : ∀ {T : Tbl} {G : Nat → Prop} {R : Tbl} {g met : List Nat}, NfOf T G m R g met → ∃ w, AccS T G w := fun n => by
    obtain ⟨w, a⟩ := (n.live 0 (List.mem_of_getElem? n.zero)).2
    exact ⟨w, (n.accS w).mp ⟨0, n.zero, a⟩⟩
  rcases h with ⟨r1, r2, h⟩ | ⟨met, h⟩
  · rcases h' with ⟨r3, r4, h'⟩ | ⟨met', h'⟩
    · rw [r1, r2, r3, r4]
      exact ⟨rfl, rfl⟩
    · obtain ⟨w, a⟩ := ex h'
      exact absurd ((e w).mpr a) (no h w)
  · rcases h' with ⟨r3, r4, h'⟩ | ⟨met', h'⟩
    · obtain ⟨w, a⟩ := ex h
      exact absurd ((e w).mp a) (no h' w)
    · obtain ⟨eR, x⟩ := h.ab.uniq h'.ab fun w => (h.accS w).trans ((e w).trans (h'.accS w).symm)
      refine ⟨eR, asc_ext h.asc h'.asc fun i => (h.good i).trans (Iff.trans ?_ (h'.good i).symm)⟩
      have lm : met.length = met'.length := by rw [← h.len, ← h'.len, eR]
      by_cases c : i < R.length
      · have := x i c []
        simp only [acc_nil] at this
        exact this
      · constructor
        · rintro ⟨s, e1, _⟩
          have := (List.getElem?_eq_some_iff.mp e1).1
          rw [← h.len] at this
          exact absurd this c
        · rintro ⟨s, e1, _⟩
          have := (List.getElem?_eq_some_iff.mp e1).1
          rw [← h'.len, ← eR] at this
          exact absurd this c
end Mc
set_option linter.all false
set_option maxRecDepth 100000
namespace Mc
/-! ### languages: sets of texts, a text as its letters' numbers -/
abbrev Lg := List Nat → Prop
/-- the numbers of a text's letters, none if one is no letter -/
def idx (ix : Nat → Option Nat) : List Nat → Option (List Nat)
  | [] => some []
  | c :: w => match ix c, idx ix w with
    | some k, some v => some (k :: v)
    | _, _ => none
theorem rs_idx (T : Tbl) (ix : Nat → Option Nat) : ∀ (w : List Nat) (o : Option Nat), rs T ix o w = match idx ix w with | none => none | some v => rn T o v
  | [], o => by cases o <;> rfl
  | c :: w, none => by
    rw [rs_none]
    cases idx ix (c :: w) with
    | none => rfl
    | some v => exact (rn_none T v).symm
  | c :: w, some s => by
    show (match ix c with | none => none | some k => rs T ix (nx T s k) w) = _
    unfold idx
    cases h : ix c with
    | none => rfl
    | some k =>
      show rs T ix (nx T s k) w = _
      rw [rs_idx T ix w]
      cases idx ix w <;> rfl
theorem idx_app (ix : Nat → Option Nat) : ∀ (u v : List Nat), idx ix (u ++ v) = match idx ix u, idx ix v with | some a, some b => some (a ++ b) | _, _ => none
  | [], v => by
    show idx ix v = _
    cases idx ix v <;> rfl
  | c :: u, v => by
    show (match ix c, idx ix (u ++ v) with | some k, some v => some (k :: v) | _, _ => none) = match (match ix c, idx ix u with | some k, some v => some (k :: v) | _, _ => none), idx ix v with | some a, some b => some (a ++ b) | _, _ => none
    rw [idx_app ix u v]
    cases ix c <;> cases idx ix u <;> cases idx ix v <;> rfl
theorem idx_len {ix : Nat → Option Nat} : ∀ {u v : List Nat}, idx ix u = some v → v.length = u.length
  | [], v, h => by cases h; rfl
  | c :: u, v, h => by
    unfold idx at h
    cases h1 : ix c with
    | none => rw [h1] at h; cases h
    | some k =>
      cases h2 : idx ix u with
      | none => rw [h1, h2] at h; cases h
      | some v' =>
        rw [h1, h2] at h
        cases h
        rw [List.length_cons, List.length_cons, idx_len h2]
/-- the texts of a language -/
def Txl (ix : Nat → Option Nat) (L : Lg) (tx : List Nat) : Prop := ∃ v, idx ix tx = some v ∧ L v
theorem txl_rs {T : Tbl} {G : Nat → Prop} {ix : Nat → Option Nat} {tx : List Nat} : Txl ix (AccS T G) tx ↔ ∃ t, rs T ix (st T) tx = some t ∧ G t := by
  unfold Txl AccS
  rw [rs_idx]
  cases idx ix tx with
  | none => exact ⟨fun ⟨v, h, _⟩ => (by cases h), fun ⟨t, h, _⟩ => (by cases h)⟩
  | some v =>
    constructor
    · rintro ⟨v', h, h2⟩
      cases h
      exact h2
    · exact fun h => ⟨v, rfl, h⟩
theorem Txl.congr {ix : Nat → Option Nat} {L L' : Lg} {tx : List Nat} (h : ∀ w, L w ↔ L' w) : Txl ix L tx ↔ Txl ix L' tx := ⟨fun ⟨v, a, b⟩ => ⟨v, a, (h v).mp b⟩, fun ⟨v, a, b⟩ => ⟨v, a, (h v).mpr b⟩⟩
/-! ### the normal form and its language -/
theorem Nf.lang {T : Tbl} {G : Nat → Prop} {m : Nat} {R : Tbl} {g : List Nat} (h : Nf T G m R g) (w : List Nat) : AccS R (fun j => j ∈ g) w ↔ AccS T G w := by
  obtain ⟨h1, h2⟩ := h.read w
  constructor
  · rintro ⟨j, e, hj⟩
    obtain ⟨t, e2, _, h3⟩ := h2 j e
    exact ⟨t, e2, h3.mp hj⟩
  · rintro ⟨t, e, ht⟩
    cases e2 : rn R (st R) w with
    | none => exact absurd (liv_good ht) (h1 e2 t e)
    | some j =>
      obtain ⟨t', e3, _, h3⟩ := h2 j e2
      rw [e] at e3
      cases e3
      exact ⟨j, e2, h3.mpr ht⟩
/-- every state of the normal form can reach a good one -/
theorem Nf.live {T : Tbl} {G : Nat → Prop} {m : Nat} {R : Tbl} {g : List Nat} (h : Nf T G m R g) {j : Nat} (hj : j < R.length) : Liv R (fun j => j ∈ g) j := by
  rcases h with ⟨rfl, _, _⟩ | ⟨met, h⟩
  · exact absurd hj (Nat.not_lt_zero _)
  · obtain ⟨w, s, es, a⟩ := h.ab.live j hj
    obtain ⟨t, e1, e2⟩ := a
    obtain ⟨b1, b2⟩ := h.sim w j s s es (Leq.refl s)
    cases e : rn R (some j) w with
    | none => exact absurd (liv_good e2) (b1 e t e1)
    | some i =>
      obtain ⟨t', t1, e3, e4, e5⟩ := b2 i e
      rw [e1] at e3
      cases e3
      exact ⟨w, i, e, (h.good i).mpr ⟨t1, e4, e5.good.mp e2⟩⟩
/-! ### beginnings -/
def BeL (L : Lg) : Lg := fun w => ∃ v, L (w ++ v)
theorem rn_some {T : Tbl} {o : Option Nat} {u v : List Nat} {t : Nat} (h : rn T o (u ++ v) = some t) : ∃ s, rn T o u = some s ∧ rn T (some s) v = some t := by
  rw [rn_app] at h
  cases e : rn T o u with
  | none => rw [e, rn_none] at h; cases h
  | some s => exact ⟨s, rfl, by rw [e] at h; exact h⟩
theorem bel_iff {T : Tbl} {G : Nat → Prop} {w : List Nat} : BeL (AccS T G) w ↔ ∃ t, rn T (st T) w = some t ∧ Liv T G t := by
  constructor
  · rintro ⟨v, t, e, g⟩
    obtain ⟨s, e1, e2⟩ := rn_some e
    exact ⟨s, e1, v, t, e2, g⟩
  · rintro ⟨s, e1, v, t, e2, g⟩
    exact ⟨v, t, by rw [rn_app, e1]; exact e2, g⟩
theorem bel_bel {L : Lg} {w : List Nat} : BeL (BeL L) w ↔ BeL L w := by
  constructor
  · rintro ⟨v, u, h⟩
    exact ⟨v ++ u, by rw [← List.append_assoc]; exact h⟩
  · rintro ⟨v, h⟩
    exact ⟨v, [], by rw [List.append_nil]; exact h⟩
theorem BeL.congr {L L' : Lg} (h : ∀ w, L w ↔ L' w) (w : List Nat) : BeL L w ↔ BeL L' w := ⟨fun ⟨v, a⟩ => ⟨v, (h _).mp a⟩, fun ⟨v, a⟩ => ⟨v, (h _).mpr a⟩⟩
theorem rn_lt {T : Tbl} {m : Nat} (wf : Wf T m) : ∀ {w : List Nat} {o : Option Nat} {t : Nat}, (∀ j, o = some j → j < T.length) → rn T o w = some t → t < T.length
  | [], o, t, h, e => h t (by cases o <;> exact e)
  | k :: w, none, t, h, e => by cases e
  | k :: w, some s, t, h, e => rn_lt wf (fun j hj => (nx_lt wf hj).1) (show rn T (nx T s k) w = some t from e)
theorem st_lt' (T : Tbl) : ∀ j, st T = some j → j < T.length := fun j h => by
  unfold st at h
  split at h
  · cases h
  · cases h
    omega
/-! ### endless ways -/
def LaL (L : Lg) : Prop := ∃ B : List Nat → Prop, B [] ∧ ∀ u, B u → L u ∧ ∃ k, B (u ++ [k])
def UnL (L : Lg) : Lg := fun w => ∀ u, u <+: w → LaL fun v => L (u ++ v)
def La (T : Tbl) (G : Nat → Prop) (s : Nat) : Prop := ∃ A : Nat → Prop, A s ∧ ∀ x, A x → G x ∧ ∃ k e, nx T x k = some e ∧ A e
theorem La.out {T : Tbl} {G : Nat → Prop} {s : Nat} (h : La T G s) : G s ∧ ∃ k e, nx T s k = some e ∧ La T G e := by
  obtain ⟨A, a, h⟩ := h
  obtain ⟨g, k, e, n, b⟩ := h s a
  exact ⟨g, k, e, n, A, b, h⟩
theorem LaL.congr {L L' : Lg} (h : ∀ w, L w ↔ L' w) : LaL L ↔ LaL L' := ⟨fun ⟨B, a, b⟩ => ⟨B, a, fun u hu => ⟨(h u).mp (b u hu).1, (b u hu).2⟩⟩, fun ⟨B, a, b⟩ => ⟨B, a, fun u hu => ⟨(h u).mpr (b u hu).1, (b u hu).2⟩⟩⟩
theorem UnL.congr {L L' : Lg} (h : ∀ w, L w ↔ L' w) (w : List Nat) : UnL L w ↔ UnL L' w := ⟨fun a u hu => (LaL.congr fun v => h _).mp (a u hu), fun a u hu => (LaL.congr fun v => h _).mpr (a u hu)⟩
theorem rn_snoc {T : Tbl} {o : Option Nat} {u : List Nat} {k t : Nat} (h : rn T o u = some t) : rn T o (u ++ [k]) = nx T t k := by
  rw [rn_app, h]
  show rn T (nx T t k) [] = nx T t k
  cases nx T t k <;> rfl
theorem la_lal {T : Tbl} {G : Nat → Prop} {s : Nat} : La T G s ↔ LaL fun v => Acc T G s v := by
  constructor
  · intro h
    refine ⟨fun u => ∃ t, rn T (some s) u = some t ∧ La T G t, ⟨s, rfl, h⟩, ?_⟩
    rintro u ⟨t, e, l⟩
    obtain ⟨g, k, e', n, l'⟩ := l.out
    exact ⟨⟨t, e, g⟩, k, e', by rw [rn_snoc e]; exact n, l'⟩
  · rintro ⟨B, b0, h⟩
    refine ⟨fun t => ∃ u, B u ∧ rn T (some s) u = some t, ⟨[], b0, rfl⟩, ?_⟩
    rintro t ⟨u, bu, e⟩
    obtain ⟨⟨t', e', g⟩, k, bk⟩ := h u bu
    rw [e] at e'
    cases e'
    obtain ⟨⟨t2, e2, _⟩, _⟩ := h _ bk
    have e3 := e2
    rw [rn_snoc e] at e3
    exact ⟨g, k, t2, e3, _, bk, e2⟩
theorem lal_at {T : Tbl} {G : Nat → Prop} {u : List Nat} : (LaL fun v => AccS T G (u ++ v)) ↔ ∃ t, rn T (st T) u = some t ∧ La T G t := by
  cases e : rn T (st T) u with
  | none =>
    constructor
    · rintro ⟨B, b0, h⟩
      obtain ⟨⟨t, h1, _⟩, _⟩ := h [] b0
      rw [rn_app, e, rn_none] at h1
      cases h1
    · rintro ⟨t, h, _⟩
      cases h
  | some s =>
    have key : ∀ v, AccS T G (u ++ v) ↔ Acc T G s v := fun v => by
      unfold AccS Acc
      rw [rn_app, e]
    constructor
    · intro h
      exact ⟨s, rfl, la_lal.mpr ((LaL.congr key).mp h)⟩
    · rintro ⟨t, h, l⟩
      cases h
      exact (LaL.congr key).mpr (la_lal.mp l)
theorem unl_iff {T : Tbl} {G : Nat → Prop} {w : List Nat} : UnL (AccS T G) w ↔ ∀ u, u <+: w → ∃ t, rn T (st T) u = some t ∧ La T G t :=
  ⟨fun h u hu => lal_at.mp (h u hu), fun h u hu => lal_at.mpr (h u hu)⟩
theorem pre_cases {u v x : List Nat} (h : x <+: u ++ v) : x <+: u ∨ ∃ y, y <+: v ∧ x = u ++ y := by
  obtain ⟨z, e⟩ := h
  rcases List.append_eq_append_iff.mp e with ⟨a, e1, e2⟩ | ⟨a, e1, e2⟩
  · exact .inl ⟨a, e1.symm⟩
  · exact .inr ⟨a, ⟨z, e2.symm⟩, e1⟩
theorem unl_unl {L : Lg} {w : List Nat} : UnL (UnL L) w ↔ UnL L w := by
  constructor
  · intro h u hu
    obtain ⟨B, b0, hb⟩ := h u hu
    have := (hb [] b0).1 u (by rw [List.append_nil]; exact List.prefix_refl u)
    exact this
  · intro h u hu
    obtain ⟨B, b0, hb⟩ := h u hu
    refine ⟨fun v => ∀ y, y <+: v → B y, fun y hy => ?_, fun v hv => ⟨fun x hx => ?_, ?_⟩⟩
    · rw [List.prefix_nil.mp hy]
      exact b0
    · rcases pre_cases hx with hx | ⟨y, hy, rfl⟩
      · exact h x (hx.trans hu)
      · refine ⟨fun z => B (y ++ z), by show B (y ++ []); rw [List.append_nil]; exact hv y hy, fun z hz => ?_⟩
        obtain ⟨a, k, b⟩ := hb _ hz
        exact ⟨by show L (u ++ y ++ z); rw [List.append_assoc]; exact a, k, by show B (y ++ (z ++ [k])); rw [← List.append_assoc]; exact b⟩
    · obtain ⟨_, k, b⟩ := hb v (hv v (List.prefix_refl v))
      refine ⟨k, fun y hy => ?_⟩
      rcases pre_cases hy with hy | ⟨z, hz, rfl⟩
      · exact hv y hy
      · rcases List.prefix_cons_iff.mp hz with rfl | ⟨t, rfl, ht⟩
        · rw [List.append_nil]
          exact hv v (List.prefix_refl v)
        · rw [List.prefix_nil.mp ht]
          exact b
/-- the rows that lead to lasting states alone -/
theorem kept_acc {T T' : Tbl} {A : Nat → Prop} (h0 : 0 < T.length) (hl : T'.length = T.length) (a0 : A 0) (hn : ∀ s k e, nx T' s k = some e ↔ nx T s k = some e ∧ A e) (w : List Nat) : (∃ t, rn T' (st T') w = some t) ↔ ∀ u, u <+: w → ∃ t, rn T (st T) u = some t ∧ A t := by
  have e1 : st T = some 0 := if_neg (by omega)
  have e2 : st T' = some 0 := if_neg (by omega)
  rw [e1, e2]
  have key : ∀ (w : List Nat) (s : Nat), A s → ((∃ t, rn T' (some s) w = some t) ↔ ∀ u, u <+: w → ∃ t, rn T (some s) u = some t ∧ A t) := by
    intro w
    induction w with
    | nil =>
      intro s hs
      exact ⟨fun _ u hu => by rw [List.prefix_nil.mp hu]; exact ⟨s, rfl, hs⟩, fun _ => ⟨s, rfl⟩⟩
    | cons k w ih =>
      intro s hs
      constructor
      · rintro ⟨t, e⟩ u hu
        rcases List.prefix_cons_iff.mp hu with rfl | ⟨v, rfl, hv⟩
        · exact ⟨s, rfl, hs⟩
        · have e : rn T' (nx T' s k) w = some t := e
          cases c : nx T' s k with
          | none => rw [c, rn_none] at e; cases e
          | some e' =>
            obtain ⟨c1, c2⟩ := (hn s k e').mp c
            rw [c] at e
            obtain ⟨t', h1, h2⟩ := (ih e' c2).mp ⟨t, e⟩ v hv
            exact ⟨t', by show rn T (nx T s k) v = some t'; rw [c1]; exact h1, h2⟩
      · intro h
        obtain ⟨e', h1, h2⟩ := h [k] ⟨w, rfl⟩
        have h1 : rn T (nx T s k) [] = some e' := h1
        have c1 : nx T s k = some e' := by cases c : nx T s k <;> rw [c] at h1 <;> exact h1
        obtain ⟨t, e⟩ := (ih e' h2).mpr fun v hv => by
          obtain ⟨t, h3, h4⟩ := h (k :: v) (List.prefix_cons_iff.mpr (.inr ⟨v, rfl, hv⟩))
          exact ⟨t, by have h3 : rn T (nx T s k) v = some t := h3; rw [c1] at h3; exact h3, h4⟩
        exact ⟨t, by show rn T' (nx T' s k) w = some t; rw [(hn s k e').mpr ⟨c1, h2⟩]; exact e⟩
  exact key w 0 a0
end Mc
namespace Mc
structure Kpa (T : Tbl) (A : Nat → Prop) (m : Nat) (T' : Tbl) : Prop where
  len : T'.length = T.length
  wf : Wf T' m
  nx : ∀ s k e, nx T' s k = some e ↔ nx T s k = some e ∧ A e
theorem kpa_of {T : Tbl} {A : Nat → Prop} {m : Nat} {al : Nat → Bool} (wf : Wf T m) (h : ∀ s, s < T.length → (al s = true ↔ A s)) : Kpa T A m (kpT al T) where
  len := List.length_map ..
  wf := ⟨fun r hr => by
    obtain ⟨r0, h0, rfl⟩ := List.mem_map.mp hr
    rw [List.length_map]
    exact wf.row r0 h0, fun r hr e he => by
    obtain ⟨r0, h0, rfl⟩ := List.mem_map.mp hr
    obtain ⟨o, ho, h1⟩ := List.mem_map.mp he
    have := (kp_some.mp h1).1
    subst this
    unfold kpT
    rw [List.length_map]
    exact wf.ent r0 h0 e ho⟩
  nx := fun s k e => by
    rw [nx_kp, kp_some]
    constructor
    · rintro ⟨h1, h2⟩
      exact ⟨h1, (h e (nx_lt wf h1).1).mp h2⟩
    · rintro ⟨h1, h2⟩
      exact ⟨h1, (h e (nx_lt wf h1).1).mpr h2⟩
/-- the language of the kept rows, all states good -/
theorem Kpa.acc {T T' : Tbl} {A : Nat → Prop} {m : Nat} (h : Kpa T A m T') (h0 : 0 < T.length) (a0 : A 0) (w : List Nat) : AccS T' (fun j => j ∈ List.range T'.length) w ↔ ∀ u, u <+: w → ∃ t, rn T (st T) u = some t ∧ A t := by
  rw [← kept_acc h0 h.len a0 h.nx]
  constructor
  · rintro ⟨t, e, _⟩
    exact ⟨t, e⟩
  · rintro ⟨t, e⟩
    exact ⟨t, e, List.mem_range.mpr (rn_lt h.wf (st_lt' T') e)⟩
theorem unl_empty {T : Tbl} {G : Nat → Prop} (h : T = [] ∨ ¬ La T G 0) (w : List Nat) : ¬ UnL (AccS T G) w := by
  rw [unl_iff]
  intro z
  obtain ⟨t, e, l⟩ := z [] ⟨w, rfl⟩
  rcases h with rfl | h
  · cases e
  · unfold st at e
    split at e
    · cases e
    · cases e
      exact h l
end Mc
namespace Mc
theorem Nf.len {T : Tbl} {G : Nat → Prop} {m : Nat} {R : Tbl} {g : List Nat} (h : Nf T G m R g) : R.length ≤ T.length := by
  rcases h with ⟨rfl, _, _⟩ | ⟨met, h⟩
  · exact Nat.zero_le _
  · rw [h.len]
    have nd : met.Nodup := by
      rw [List.Nodup, List.pairwise_iff_getElem]
      intro i j hi hj hij e
      have h1 := List.getElem?_eq_getElem hi
      have h2 := List.getElem?_eq_getElem hj
      have := h.ap i j _ _ h1 h2 (by rw [e]; exact Leq.refl _)
      omega
    exact nd_len nd fun x hx => (h.live x hx).1
end Mc
namespace Mc
/-- one round over all states that takes out the ones that cannot go on -/
theorem round_out {T : Tbl} {m r : Nat} {a0 al : Nat → Bool} (wf : Wf T m) (h0 : r ≤ cnt (fun s => !a0 s) T.length ∨ ∀ s, s < T.length → a0 s = true → ∃ k e, nx T s k = some e ∧ a0 e = true) (mo : ∀ s, al s = true → a0 s = true) (cl : (∀ s, s < T.length → a0 s = true → ∃ k e, nx T s k = some e ∧ a0 e = true) → ∀ s, al s = a0 s)
    (st : ∀ s, s < T.length → al s = true → ∃ k e, nx T s k = some e ∧ a0 e = true) : r + 1 ≤ cnt (fun s => !al s) T.length ∨ ∀ s, s < T.length → al s = true → ∃ k e, nx T s k = some e ∧ al e = true := by
  by_cases c : ∀ s, s < T.length → a0 s = true → ∃ k e, nx T s k = some e ∧ a0 e = true
  · right
    intro s hs h2
    rw [cl c] at h2
    obtain ⟨k, e, h3, h4⟩ := c s hs h2
    exact ⟨k, e, h3, by rw [cl c]; exact h4⟩
  · have h1 := h0.resolve_right c
    by_cases d : ∃ x, x < T.length ∧ a0 x = true ∧ al x = false
    · obtain ⟨x, hx, e1, e2⟩ := d
      have := cnt_lt (al := fun s => !a0 s) (bl := fun s => !al s) (n := T.length) (fun s _ h => by
        cases e : al s with
        | false => rfl
        | true =>
          have h : (!a0 s) = true := h
          rw [mo s e] at h
          cases h) hx (show (!a0 x) = false by rw [e1]; rfl) (show (!al x) = true by rw [e2]; rfl)
      left
      omega
    · refine absurd (fun s hs h2 => ?_) c
      cases e4 : al s with
      | true => exact st s hs e4
      | false => exact absurd ⟨s, hs, h2, e4⟩ d
end Mc
namespace Mc
theorem kept_sub {T T' : Tbl} (h : ∀ s k e, nx T' s k = some e → nx T s k = some e) : ∀ (w : List Nat) (o : Option Nat) (t : Nat), rn T' o w = some t → rn T o w = some t
  | [], o, t, e => by cases o <;> exact e
  | k :: w, none, t, e => by cases e
  | k :: w, some s, t, e => by
    have e : rn T' (nx T' s k) w = some t := e
    show rn T (nx T s k) w = some t
    cases c : nx T' s k with
    | none => rw [c, rn_none] at e; cases e
    | some e' =>
      rw [c] at e
      rw [h s k e' c]
      exact kept_sub h w (some e') t e
/-- the same, the lasting states good -/
theorem Kpa.acc2 {T T' : Tbl} {A G' : Nat → Prop} {m : Nat} (h : Kpa T A m T') (h0 : 0 < T.length) (a0 : A 0) (hg : ∀ j, G' j ↔ j < T.length ∧ A j) (w : List Nat) : AccS T' G' w ↔ ∀ u, u <+: w → ∃ t, rn T (st T) u = some t ∧ A t := by
  have e0 : st T' = st T := by rw [show st T = some 0 from if_neg (by omega), show st T' = some 0 from if_neg (by have := h.len; omega)]
  rw [← h.acc h0 a0]
  constructor
  · rintro ⟨t, e, g⟩
    exact ⟨t, e, List.mem_range.mpr (rn_lt h.wf (st_lt' T') e)⟩
  · intro z
    obtain ⟨t, e, g⟩ := z
    have z2 := (h.acc h0 a0 w).mp ⟨t, e, g⟩ w (List.prefix_refl w)
    obtain ⟨t2, e2, a⟩ := z2
    have e3 := kept_sub (fun s k e h1 => ((h.nx s k e).mp h1).1) w _ _ e
    rw [e0, e2] at e3
    cases e3
    exact ⟨t, e, (hg t).mpr ⟨by have := rn_lt h.wf (st_lt' T') e; rw [h.len] at this; exact this, a⟩⟩
end Mc
set_option linter.all false
set_option maxRecDepth 100000
namespace Mc
/-! ### states told apart step by step -/
def mt (R : Nat → Nat → Prop) : Option Nat → Option Nat → Prop
  | none, none => True
  | some a, some b => R a b
  | _, _ => False
theorem mt.mono {R R' : Nat → Nat → Prop} (h : ∀ a b, R a b → R' a b) : ∀ {o p : Option Nat}, mt R o p → mt R' o p
  | none, none, _ => trivial
  | some a, some b, z => h a b z
  | none, some _, z => z
  | some _, none, z => z
def Eqt (T : Tbl) (m : Nat) (c : Nat → Nat) : Nat → Nat → Nat → Prop
  | 0, s, s' => c s = c s'
  | t + 1, s, s' => Eqt T m c t s s' ∧ ∀ k, k < m → mt (Eqt T m c t) (nx T s k) (nx T s' k)
theorem Eqt.refl {T : Tbl} {m : Nat} {c : Nat → Nat} : ∀ (t s : Nat), Eqt T m c t s s
  | 0, s => rfl
  | t + 1, s => ⟨Eqt.refl t s, fun k _ => by
    cases nx T s k with
    | none => exact trivial
    | some e => exact Eqt.refl t e⟩
theorem Eqt.symm {T : Tbl} {m : Nat} {c : Nat → Nat} : ∀ (t s s' : Nat), Eqt T m c t s s' → Eqt T m c t s' s
  | 0, s, s', h => Eq.symm h
  | t + 1, s, s', h => ⟨Eqt.symm t s s' h.1, fun k hk => by
    have := h.2 k hk
    cases e1 : nx T s k with
    | none =>
      cases e2 : nx T s' k with
      | none => exact trivial
      | some b => rw [e1, e2] at this; exact this
    | some a =>
      cases e2 : nx T s' k with
      | none => rw [e1, e2] at this; exact this
      | some b => rw [e1, e2] at this; exact Eqt.symm t a b this⟩
theorem Eqt.trans {T : Tbl} {m : Nat} {c : Nat → Nat} : ∀ (t s s' s2 : Nat), Eqt T m c t s s' → Eqt T m c t s' s2 → Eqt T m c t s s2
  | 0, s, s', s2, h, h' => Eq.trans h h'
  | t + 1, s, s', s2, h, h' => ⟨Eqt.trans t s s' s2 h.1 h'.1, fun k hk => by
    have h1 := h.2 k hk
    have h2 := h'.2 k hk
    cases e1 : nx T s k with
    | none =>
      cases e2 : nx T s' k with
      | none => rw [e2] at h2; exact h2
      | some b => rw [e1, e2] at h1; exact h1.elim
    | some a =>
      cases e2 : nx T s' k with
      | none => rw [e1, e2] at h1; exact h1.elim
      | some b =>
        rw [e1, e2] at h1
        rw [e2] at h2
        cases e3 : nx T s2 k with
        | none => rw [e3] at h2; exact h2
        | some d => rw [e3] at h2; exact Eqt.trans t a b d h1 h2⟩
theorem mt_dec {R : Nat → Nat → Prop} {o p : Option Nat} (h : mt R o p) (n : Nat) (ho : ∀ e, o = some e → e < n) (hp : ∀ e, p = some e → e < n) {R' : Nat → Nat → Prop} (st : ∀ a b, a < n → b < n → R a b → R' a b) : mt R' o p := by
  cases o with
  | none =>
    cases p with
    | none => exact trivial
    | some b => exact h
  | some a =>
    cases p with
    | none => exact h
    | some b => exact st a b (ho a rfl) (hp b rfl) h
/-- a finer and finer relation over n states is still by the n-th step -/
theorem ref_stab {n : Nat} (E : Nat → Nat → Nat → Prop) (hs : ∀ t s s', E t s s' → E t s' s) (hr : ∀ t s, E t s s) (ht : ∀ t s s' s2, E t s s' → E t s' s2 → E t s s2) (mono : ∀ t s s', E (t + 1) s s' → E t s s')
    (step : ∀ t, (∀ s s', s < n → s' < n → E t s s' → E (t + 1) s s') → ∀ s s', s < n → s' < n → E (t + 1) s s' → E (t + 2) s s') : ∀ j s s', s < n → s' < n → E n s s' → E (n + j) s s' := by
  have ⟨t0, ht0, st0⟩ : ∃ t0, t0 ≤ n ∧ ∀ s s', s < n → s' < n → E t0 s s' → E (t0 + 1) s s' := by
    refine Classical.byContradiction fun no => ?_
    have no : ∀ t, t ≤ n → ∃ s s', s < n ∧ s' < n ∧ E t s s' ∧ ¬ E (t + 1) s s' := fun t h => by
      refine Classical.byContradiction fun z => no ⟨t, h, fun s s' h1 h2 e => Classical.byContradiction fun y => z ⟨s, s', h1, h2, e, y⟩⟩
    obtain ⟨rp, hrp⟩ : ∃ rp : Nat → Nat → Bool, ∀ t s, rp t s = true ↔ ∀ s', s' < s → ¬ E t s' s := by
      classical
      exact ⟨fun t s => decide (∀ s', s' < s → ¬ E t s' s), fun t s => decide_eq_true_iff⟩
    have least : ∀ t s, ∃ r, r ≤ s ∧ E t r s ∧ rp t r = true := fun t s => by
      induction s using Nat.strongRecOn with
      | _ s ih =>
        by_cases c : rp t s = true
        · exact ⟨s, Nat.le_refl _, hr t s, c⟩
        · have : ∃ s', s' < s ∧ E t s' s := Classical.byContradiction fun z => c ((hrp t s).mpr fun s' h e => z ⟨s', h, e⟩)
          obtain ⟨s', h, e⟩ := this
          obtain ⟨r, h1, h2, h3⟩ := ih s' h
          exact ⟨r, by omega, ht t r s' s h2 e, h3⟩
    have uniq : ∀ t r r', rp t r = true → rp t r' = true → E t r r' → r = r' := fun t r r' h1 h2 e => by
      rcases Nat.lt_trichotomy r r' with h | h | h
      · exact absurd e ((hrp t r').mp h2 r h)
      · exact h
      · exact absurd (hs t r r' e) ((hrp t r).mp h1 r' h)
    have big : ∀ t, t ≤ n → t + 1 ≤ cnt (rp t) n := fun t => by
      induction t with
      | zero =>
        intro _
        obtain ⟨s, s', h1, _, _, _⟩ := no 0 (Nat.zero_le _)
        have := cnt_lt (al := fun _ => false) (bl := rp 0) (n := n) (x := 0) (fun s _ h => by cases h) (by omega) rfl ((hrp 0 0).mpr fun s' h => absurd h (Nat.not_lt_zero _))
        omega
      | succ t ih =>
        intro h
        have ih := ih (by omega)
        obtain ⟨s, s', h1, h2, e1, e2⟩ := no t (by omega)
        have up : ∀ x, rp t x = true → rp (t + 1) x = true := fun x hx => (hrp (t + 1) x).mpr fun s' h e => (hrp t x).mp hx s' h (mono t s' x e)
        have ⟨x, hx, f1, f2⟩ : ∃ x, x < n ∧ rp t x = false ∧ rp (t + 1) x = true := by
          refine Classical.byContradiction fun z => ?_
          have z : ∀ x, x < n → rp (t + 1) x = true → rp t x = true := fun x hx h => by
            cases e : rp t x with
            | true => rfl
            | false => exact absurd ⟨x, hx, e, h⟩ z
          obtain ⟨r, r1, r2, r3⟩ := least (t + 1) s
          obtain ⟨r', r1', r2', r3'⟩ := least (t + 1) s'
          have q := uniq t r r' (z r (by omega) r3) (z r' (by omega) r3') (ht t _ _ _ (ht t _ _ _ (mono t _ _ r2) e1) (hs t _ _ (mono t _ _ r2')))
          subst q
          exact e2 (ht (t + 1) _ _ _ (hs (t + 1) _ _ r2) r2')
        have := cnt_lt (al := rp t) (bl := rp (t + 1)) (n := n) (fun s _ h => up s h) hx f1 f2
        omega
    have := big n (Nat.le_refl _)
    have := cnt_le (rp n) n
    omega
  have st : ∀ j s s', s < n → s' < n → E (t0 + j) s s' → E (t0 + j + 1) s s' := fun j => by
    induction j with
    | zero => exact st0
    | succ j ih => exact step (t0 + j) ih
  intro j
  induction j with
  | zero => exact fun s s' _ _ h => h
  | succ j ih =>
    intro s s' h1 h2 e
    have := st (n + j - t0) s s' h1 h2 (by rw [show t0 + (n + j - t0) = n + j by omega]; exact ih s s' h1 h2 e)
    rw [show t0 + (n + j - t0) + 1 = n + (j + 1) by omega] at this
    exact this
theorem eqt_stab {T : Tbl} {m : Nat} {c : Nat → Nat} (wf : Wf T m) {s s' : Nat} (hs : s < T.length) (hs' : s' < T.length) (h : Eqt T m c T.length s s') : ∀ t, Eqt T m c t s s' := by
  have dn : ∀ j t, Eqt T m c (t + j) s s' → Eqt T m c t s s' := fun j => by
    induction j with
    | zero => exact fun t h => h
    | succ j ih => exact fun t h => ih t h.1
  intro t
  have key := ref_stab (n := T.length) (Eqt T m c) Eqt.symm Eqt.refl Eqt.trans (fun t s s' h => h.1) (fun t st s s' h1 h2 e => ⟨e, fun k hk => mt_dec (e.2 k hk) T.length (fun e h => (nx_lt wf h).1) (fun e h => (nx_lt wf h).1) fun a b ha hb => st a b ha hb⟩) t s s' hs hs' h
  rw [Nat.add_comm] at key
  exact dn T.length t key
theorem eqt_leq {T : Tbl} {m : Nat} {c : Nat → Nat} {G : Nat → Prop} (wf : Wf T m) (lv : ∀ s, s < T.length → Liv T G s) (hc : ∀ s s', s < T.length → s' < T.length → (c s = c s' ↔ (G s ↔ G s'))) {s s' : Nat} (hs : s < T.length) (hs' : s' < T.length) : (∀ t, Eqt T m c t s s') ↔ Leq T G s s' := by
  have acc0 : ∀ s, Acc T G s [] ↔ G s := fun s => ⟨fun ⟨t, e, g⟩ => (by cases e; exact g), fun g => ⟨s, rfl, g⟩⟩
  have accS : ∀ s k w, Acc T G s (k :: w) ↔ ∃ e, nx T s k = some e ∧ Acc T G e w := fun s k w => by
    show (∃ t, rn T (nx T s k) w = some t ∧ G t) ↔ _
    cases e : nx T s k with
    | none => exact ⟨fun ⟨t, h, _⟩ => (by rw [rn_none] at h; cases h), fun ⟨e, h, _⟩ => (by cases h)⟩
    | some a => exact ⟨fun h => ⟨a, rfl, h⟩, fun ⟨b, h1, h2⟩ => (by cases h1; exact h2)⟩
  constructor
  · intro h w
    induction w generalizing s s' with
    | nil => rw [acc0, acc0]; exact (hc s s' hs hs').mp (h 0)
    | cons k w ih =>
      rw [accS, accS]
      by_cases hk : k < m
      · have h := fun t => (h (t + 1)).2 k hk
        cases e1 : nx T s k with
        | none =>
          cases e2 : nx T s' k with
          | none => exact ⟨fun ⟨e, a, _⟩ => (by cases a), fun ⟨e, a, _⟩ => (by cases a)⟩
          | some b =>
            have := h 0
            rw [e1, e2] at this
            exact this.elim
        | some a =>
          cases e2 : nx T s' k with
          | none =>
            have := h 0
            rw [e1, e2] at this
            exact this.elim
          | some b =>
            have h : ∀ t, Eqt T m c t a b := fun t => by
              have := h t
              rw [e1, e2] at this
              exact this
            have := ih (nx_lt wf e1).1 (nx_lt wf e2).1 h
            exact ⟨fun ⟨e, x, y⟩ => (by cases x; exact ⟨b, rfl, this.mp y⟩), fun ⟨e, x, y⟩ => (by cases x; exact ⟨a, rfl, this.mpr y⟩)⟩
      · exact ⟨fun ⟨e, x, _⟩ => absurd (nx_lt wf x).2.1 hk, fun ⟨e, x, _⟩ => absurd (nx_lt wf x).2.1 hk⟩
  · intro h t
    induction t generalizing s s' with
    | zero => exact (hc s s' hs hs').mpr (by rw [← acc0, ← acc0]; exact h [])
    | succ t ih =>
      refine ⟨ih hs hs' h, fun k hk => ?_⟩
      have go : ∀ {s s' : Nat}, Leq T G s s' → ∀ e, nx T s k = some e → ∃ e', nx T s' k = some e' := fun h e he => by
        obtain ⟨w, hw⟩ := lv e (nx_lt wf he).1
        obtain ⟨e', h1, _⟩ := (accS _ k w).mp ((h (k :: w)).mp ((accS _ k w).mpr ⟨e, he, hw⟩))
        exact ⟨e', h1⟩
      cases e1 : nx T s k with
      | none =>
        cases e2 : nx T s' k with
        | none => exact trivial
        | some b =>
          obtain ⟨a, ha⟩ := go (fun w => (h w).symm) b e2
          rw [e1] at ha
          cases ha
      | some a =>
        obtain ⟨b, hb⟩ := go h a e1
        rw [hb]
        refine ih (nx_lt wf e1).1 (nx_lt wf hb).1 fun w => ?_
        have := h (k :: w)
        rw [accS, accS] at this
        exact ⟨fun x => (by obtain ⟨e', y, z⟩ := this.mp ⟨a, e1, x⟩; rw [hb] at y; cases y; exact z), fun x => (by obtain ⟨e', y, z⟩ := this.mpr ⟨b, hb, x⟩; rw [e1] at y; cases y; exact z)⟩
/-- without the own class, where all begin alike -/
theorem eqt_own {T : Tbl} {m : Nat} : ∀ (t : Nat) {s s' : Nat}, (∀ k, k < m → mt (Eqt T m (fun _ => 0) t) (nx T s k) (nx T s' k)) → Eqt T m (fun _ => 0) t s s'
  | 0, _, _, _ => rfl
  | t + 1, s, s', h => ⟨eqt_own t fun k hk => (h k hk).mono fun a b z => z.1, fun k hk => (h k hk).mono fun a b z => z.1⟩
/-- rows that keep what lasts, told for the lasting states alone -/
theorem kept_acc' {T T' : Tbl} {A : Nat → Prop} (h0 : 0 < T.length) (hl : T'.length = T.length) (a0 : A 0) (hn : ∀ s, A s → ∀ k e, nx T' s k = some e ↔ nx T s k = some e ∧ A e) (w : List Nat) : (∃ t, rn T' (st T') w = some t) ↔ ∀ u, u <+: w → ∃ t, rn T (st T) u = some t ∧ A t := by
  have e1 : st T = some 0 := if_neg (by omega)
  have e2 : st T' = some 0 := if_neg (by omega)
  rw [e1, e2]
  have key : ∀ (w : List Nat) (s : Nat), A s → ((∃ t, rn T' (some s) w = some t) ↔ ∀ u, u <+: w → ∃ t, rn T (some s) u = some t ∧ A t) := by
    intro w
    induction w with
    | nil =>
      intro s hs
      exact ⟨fun _ u hu => by rw [List.prefix_nil.mp hu]; exact ⟨s, rfl, hs⟩, fun _ => ⟨s, rfl⟩⟩
    | cons k w ih =>
      intro s hs
      constructor
      · rintro ⟨t, e⟩ u hu
        rcases List.prefix_cons_iff.mp hu with rfl | ⟨v, rfl, hv⟩
        · exact ⟨s, rfl, hs⟩
        · have e : rn T' (nx T' s k) w = some t := e
          cases c : nx T' s k with
          | none => rw [c, rn_none] at e; cases e
          | some e' =>
            obtain ⟨c1, c2⟩ := (hn s hs k e').mp c
            rw [c] at e
            obtain ⟨t', h1, h2⟩ := (ih e' c2).mp ⟨t, e⟩ v hv
            exact ⟨t', by show rn T (nx T s k) v = some t'; rw [c1]; exact h1, h2⟩
      · intro h
        obtain ⟨e', h1, h2⟩ := h [k] ⟨w, rfl⟩
        have h1 : rn T (nx T s k) [] = some e' := h1
        have c1 : nx T s k = some e' := by cases c : nx T s k <;> rw [c] at h1 <;> exact h1
        obtain ⟨t, e⟩ := (ih e' h2).mpr fun v hv => by
          obtain ⟨t, h3, h4⟩ := h (k :: v) (List.prefix_cons_iff.mpr (.inr ⟨v, rfl, hv⟩))
          exact ⟨t, by have h3 : rn T (nx T s k) v = some t := h3; rw [c1] at h3; exact h3, h4⟩
        exact ⟨t, by show rn T' (nx T' s k) w = some t; rw [(hn s hs k e').mpr ⟨c1, h2⟩]; exact e⟩
  exact key w 0 a0
/-- one round of the law's own unending states -/
def lst (T : Tbl) (al : Nat → Bool) (s : Nat) : Bool := al s && (T.getD s []).any fun o => match o with
  | none => false
  | some e => al e
def lsn (T : Tbl) (g : Nat → Bool) : Nat → Nat → Bool
  | 0 => g
  | r + 1 => lst T (lsn T g r)
theorem lst_iff {T : Tbl} {al : Nat → Bool} {s : Nat} : lst T al s = true ↔ al s = true ∧ ∃ k e, nx T s k = some e ∧ al e = true := by
  unfold lst
  rw [Bool.and_eq_true, List.any_eq_true]
  refine and_congr_right fun _ => ⟨fun ⟨o, ho, h⟩ => ?_, fun ⟨k, e, h1, h2⟩ => ?_⟩
  · cases o with
    | none => cases h
    | some e =>
      obtain ⟨k, hk, e1⟩ := List.getElem_of_mem ho
      refine ⟨k, e, ?_, h⟩
      unfold nx
      rw [List.getD_eq_getElem?_getD, List.getElem?_eq_getElem hk, e1]
      rfl
  · obtain ⟨r, e1, e2⟩ := nx_mem h1
    refine ⟨some e, ?_, h2⟩
    rw [List.getD_eq_getElem?_getD, e1]
    exact List.mem_of_getElem? e2
theorem lsn_la {T : Tbl} {m : Nat} {g : Nat → Bool} {G : Nat → Prop} (wf : Wf T m) (g0 : ∀ s, g s = true → s < T.length) (hg : ∀ s, s < T.length → (g s = true ↔ G s)) {s : Nat} (hs : s < T.length) : lsn T g T.length s = true ↔ La T G s := by
  have up : ∀ r s, s < T.length → La T G s → lsn T g r s = true := fun r => by
    induction r with
    | zero => exact fun s hs h => (hg s hs).mpr h.out.1
    | succ r ih =>
      intro s hs h
      obtain ⟨_, k, e, h1, h2⟩ := h.out
      exact lst_iff.mpr ⟨ih s hs h, k, e, h1, ih e (nx_lt wf h1).1 h2⟩
  have dn : ∀ r s, lsn T g r s = true → g s = true := fun r => by
    induction r with
    | zero => exact fun s h => h
    | succ r ih => exact fun s h => ih s (lst_iff.mp h).1
  have st : ∀ r, r ≤ cnt (fun s => !lsn T g r s) T.length ∨ ∀ s, s < T.length → lsn T g r s = true → ∃ k e, nx T s k = some e ∧ lsn T g r e = true := fun r => by
    induction r with
    | zero => exact .inl (Nat.zero_le _)
    | succ r ih =>
      refine round_out (r := r) (a0 := lsn T g r) (al := lsn T g (r + 1)) wf ih (fun s h => (lst_iff.mp h).1) (fun h s => ?_) (fun s _ h => (lst_iff.mp h).2)
      show lst T (lsn T g r) s = lsn T g r s
      cases c : lsn T g r s with
      | false =>
        cases d : lst T (lsn T g r) s with
        | false => rfl
        | true => rw [(lst_iff.mp d).1] at c; cases c
      | true =>
        exact lst_iff.mpr ⟨c, h s (g0 s (dn _ _ c)) c⟩
  constructor
  · intro h
    have key : ∀ s, s < T.length → lsn T g T.length s = true → ∃ k e, nx T s k = some e ∧ lsn T g T.length e = true := by
      rcases st T.length with h1 | h1
      · intro s hs h
        have := cnt_all h1 s hs
        rw [h] at this
        cases this
      · exact h1
    refine ⟨fun x => x < T.length ∧ lsn T g T.length x = true, ⟨hs, h⟩, fun x hx => ⟨(hg x hx.1).mp (dn _ _ hx.2), ?_⟩⟩
    obtain ⟨k, e, h1, h2⟩ := key x hx.1 hx.2
    exact ⟨k, e, h1, (nx_lt wf h1).1, h2⟩
  · exact up T.length s hs
/-- the law's own unending table -/
def unT (T : Tbl) (al : Nat → Bool) : Tbl := (List.range T.length).map fun s => if al s = true then (T.getD s []).map (kp al) else List.replicate 4 none
theorem unT_len (T : Tbl) (al : Nat → Bool) : (unT T al).length = T.length := by unfold unT; rw [List.length_map, List.length_range]
theorem unT_nx {T : Tbl} {al : Nat → Bool} {s : Nat} (hs : s < T.length) (h : al s = true) (k e : Nat) : nx (unT T al) s k = some e ↔ nx T s k = some e ∧ al e = true := by
  have e1 : (unT T al).getD s [] = (T.getD s []).map (kp al) := by
    rw [List.getD_eq_getElem?_getD]
    unfold unT
    rw [List.getElem?_map, List.getElem?_range hs]
    show (if al s = true then _ else _) = _
    rw [if_pos h]
  unfold nx
  rw [e1]
  generalize T.getD s [] = row
  rw [List.getD_eq_getElem?_getD, List.getD_eq_getElem?_getD, List.getElem?_map]
  cases c : row[k]? with
  | none =>
    show none = some e ↔ none = some e ∧ _
    exact ⟨fun z => (by cases z), fun z => (by cases z.1)⟩
  | some o => exact kp_some
theorem unT_wf {T : Tbl} {al : Nat → Bool} (wf : Wf T 4) : Wf (unT T al) 4 := by
  have row : ∀ s, s < T.length → (T.getD s []) ∈ T := fun s hs => by
    rw [List.getD_eq_getElem?_getD, List.getElem?_eq_getElem hs]
    exact List.getElem_mem hs
  refine ⟨fun r hr => ?_, fun r hr e he => ?_⟩
  · obtain ⟨s, hs, rfl⟩ := List.mem_map.mp hr
    have hs := List.mem_range.mp hs
    split
    · rw [List.length_map]
      exact wf.row _ (row s hs)
    · rw [List.length_replicate]
  · obtain ⟨s, hs, rfl⟩ := List.mem_map.mp hr
    have hs := List.mem_range.mp hs
    have he : some e ∈ (if al s = true then (T.getD s []).map (kp al) else List.replicate 4 none) := he
    rw [unT_len]
    split at he
    · obtain ⟨o, ho, h1⟩ := List.mem_map.mp he
      have := (kp_some.mp h1).1
      subst this
      exact wf.ent _ (row s hs) e ho
    · have := (List.mem_replicate.mp he).2
      cases this
theorem unT_acc {T : Tbl} {G : Nat → Prop} {al : Nat → Bool} (wf : Wf T 4) (h0 : 0 < T.length) (ha : ∀ s, s < T.length → (al s = true ↔ La T G s)) (a0 : al 0 = true) (w : List Nat) : AccS (unT T al) (fun s => s ∈ List.range (unT T al).length) w ↔ UnL (AccS T G) w := by
  have key := kept_acc' (A := fun s => s < T.length ∧ al s = true) h0 (unT_len T al) ⟨h0, a0⟩ (fun s hs k e => ⟨fun h => by
    obtain ⟨h1, h2⟩ := (unT_nx hs.1 hs.2 k e).mp h
    exact ⟨h1, (nx_lt wf h1).1, h2⟩, fun h => (unT_nx hs.1 hs.2 k e).mpr ⟨h.1, h.2.2⟩⟩) w
  have e1 : AccS (unT T al) (fun s => s ∈ List.range (unT T al).length) w ↔ ∃ t, rn (unT T al) (st (unT T al)) w = some t :=
    ⟨fun ⟨t, e, _⟩ => ⟨t, e⟩, fun ⟨t, e⟩ => ⟨t, e, List.mem_range.mpr (rn_lt (unT_wf wf) (st_lt' _) e)⟩⟩
  rw [e1, key, unl_iff]
  constructor
  · intro h u hu
    obtain ⟨t, e, h1, h2⟩ := h u hu
    exact ⟨t, e, (ha t h1).mp h2⟩
  · intro h u hu
    obtain ⟨t, e, h2⟩ := h u hu
    have h1 := rn_lt wf (st_lt' _) e
    exact ⟨t, e, h1, (ha t h1).mpr h2⟩
theorem un_none {T : Tbl} {G : Nat → Prop} (h : T.length = 0 ∨ ¬ La T G 0) (w : List Nat) : AccS [] (fun s => s ∈ List.range 0) w ↔ UnL (AccS T G) w :=
  ⟨fun ⟨t, e, _⟩ => (by rw [show st [] = none from rfl, rn_none] at e; cases e), fun z => absurd z (unl_empty (h.imp List.length_eq_zero_iff.mp id) w)⟩
end Mc
set_option linter.all false
set_option maxRecDepth 100000
namespace Mc
/-! ### the law's own classes -/
def mkI (cl : Nat → Nat) : Option Nat → Int
  | none => -1
  | some e => (cl e : Int)
theorem getD_mem {T : Tbl} {s : Nat} (hs : s < T.length) : T.getD s [] ∈ T := by
  rw [List.getD_eq_getElem?_getD, List.getElem?_eq_getElem hs]
  exact List.getElem_mem hs
theorem mk_step {T : Tbl} {m : Nat} (wf : Wf T m) {cl : Nat → Nat} {r : Nat} (h : ∀ s s', s < T.length → s' < T.length → (cl s = cl s' ↔ Eqt T m (fun _ => 0) r s s')) {s s' : Nat} (hs : s < T.length) (hs' : s' < T.length) : (T.getD s []).map (mkI cl) = (T.getD s' []).map (mkI cl) ↔ Eqt T m (fun _ => 0) (r + 1) s s' := by
  have l1 := wf.row _ (getD_mem hs)
  have l2 := wf.row _ (getD_mem hs')
  have one : ∀ k, (mkI cl (nx T s k) = mkI cl (nx T s' k) ↔ mt (Eqt T m (fun _ => 0) r) (nx T s k) (nx T s' k)) := fun k => by
    cases e1 : nx T s k with
    | none =>
      cases e2 : nx T s' k with
      | none => exact ⟨fun _ => trivial, fun _ => rfl⟩
      | some b => exact ⟨fun z => (by have z : (-1 : Int) = (cl b : Int) := z; omega), fun z => z.elim⟩
    | some a =>
      cases e2 : nx T s' k with
      | none => exact ⟨fun z => (by have z : (cl a : Int) = -1 := z; omega), fun z => z.elim⟩
      | some b =>
        rw [show mt (Eqt T m (fun _ => 0) r) (some a) (some b) ↔ Eqt T m (fun _ => 0) r a b from Iff.rfl, ← h a b (nx_lt wf e1).1 (nx_lt wf e2).1]
        exact ⟨fun z => (by have z : (cl a : Int) = (cl b : Int) := z; omega), fun z => (by show (cl a : Int) = (cl b : Int); rw [z])⟩
  have get : ∀ {s : Nat}, s < T.length → ∀ k, k < m → ((T.getD s []).map (mkI cl))[k]? = some (mkI cl (nx T s k)) := fun {s} hs k hk => by
    have l := wf.row _ (getD_mem hs)
    rw [List.getElem?_map]
    unfold nx
    rw [List.getD_eq_getElem?_getD (l := T.getD s []), List.getElem?_eq_getElem (by omega)]
    rfl
  constructor
  · intro e
    have all : ∀ k, k < m → mt (Eqt T m (fun _ => 0) r) (nx T s k) (nx T s' k) := fun k hk => (one k).mp (by
      have h1 := get hs k hk
      have h2 := get hs' k hk
      rw [e, h2] at h1
      injection h1 with h1
      exact h1.symm)
    exact ⟨eqt_own r all, all⟩
  · intro e
    refine List.ext_getElem? fun k => ?_
    by_cases hk : k < m
    · rw [get hs k hk, get hs' k hk, (one k).mpr (e.2 k hk)]
    · rw [List.getElem?_eq_none (by rw [List.length_map]; omega), List.getElem?_eq_none (by rw [List.length_map]; omega)]
/-- the place of the first equal one -/
def fst' {α : Type} [DecidableEq α] (ms : List α) (x : α) : Nat := ms.findIdx fun y => decide (y = x)
theorem fst_at {α : Type} [DecidableEq α] {ms : List α} {x : α} (h : x ∈ ms) : ms[fst' ms x]? = some x := by
  have hl : fst' ms x < ms.length := List.findIdx_lt_length_of_exists ⟨x, h, by simp⟩
  have := List.findIdx_getElem (xs := ms) (p := fun y => decide (y = x)) (w := hl)
  rw [List.getElem?_eq_getElem hl]
  exact congrArg some (of_decide_eq_true this)
theorem fst_no {α : Type} [DecidableEq α] {ms : List α} {x z : α} {j : Nat} (hj : j < fst' ms x) (h : ms[j]? = some z) : z ≠ x := by
  obtain ⟨hl, e⟩ := List.getElem?_eq_some_iff.mp h
  have := List.not_of_lt_findIdx (xs := ms) (p := fun y => decide (y = x)) (i := j) hj
  have this : decide (ms[j] = x) = false := by simpa using this
  rw [← e]
  exact of_decide_eq_false this
theorem fst_iff {α : Type} [DecidableEq α] {ms : List α} {x y : α} (hx : x ∈ ms) (hy : y ∈ ms) : fst' ms x = fst' ms y ↔ x = y :=
  ⟨fun e => by
    have h1 := fst_at hx
    rw [e, fst_at hy] at h1
    injection h1 with h1
    exact h1.symm, fun e => by rw [e]⟩
theorem fst_lt {α : Type} [DecidableEq α] {ms : List α} {x : α} (h : x ∈ ms) : fst' ms x < ms.length := (List.getElem?_eq_some_iff.mp (fst_at h)).1
/-- classes after as many rounds as there are states -/
theorem cls_leq {T : Tbl} {m : Nat} (wf : Wf T m) {cl : Nat → Nat} (h : ∀ s s', s < T.length → s' < T.length → (cl s = cl s' ↔ Eqt T m (fun _ => 0) T.length s s')) {s s' : Nat} (hs : s < T.length) (hs' : s' < T.length) : cl s = cl s' ↔ Leq T (fun j => j ∈ List.range T.length) s s' := by
  rw [h s s' hs hs', ← eqt_leq (c := fun _ => 0) (m := m) wf (fun s hs => ⟨[], s, rfl, List.mem_range.mpr hs⟩) (fun s s' h1 h2 => ⟨fun _ => ⟨fun _ => List.mem_range.mpr h2, fun _ => List.mem_range.mpr h1⟩, fun _ => rfl⟩) hs hs']
  exact ⟨fun e => eqt_stab wf hs hs' e, fun e => e _⟩
end Mc
namespace Mc
theorem fst_new {α : Type} [DecidableEq α] {l : List α} {x : α} (h : x ∉ l) : fst' (l ++ [x]) x = l.length := by
  have m : x ∈ l ++ [x] := List.mem_append_right _ List.mem_cons_self
  have h1 := fst_at m
  have h2 := fst_lt m
  rw [List.length_append] at h2
  have h2 : fst' (l ++ [x]) x < l.length + 1 := h2
  rcases Nat.lt_or_ge (fst' (l ++ [x]) x) l.length with h3 | h3
  · rw [List.getElem?_append_left h3] at h1
    exact absurd (List.mem_of_getElem? h1) h
  · omega
end Mc
set_option pp.maxSteps 700
set_option Elab.async false
set_option linter.all false
set_option maxRecDepth 100000
set_option maxHeartbeats 4000000
open SX (S S_inj S_len S_cat)
namespace Z
open Mc
open PySem PySem.Spec PyProof.Rows L2
open C8 (pss_cut tCut)
local macro_rules | `(tactic| walk_at "num") => `(tactic| first | rfl | omega | decide | exact Nat.le_of_lt (small1000 (by simp)) | exact ⟨by omega, by omega⟩ | exact ⟨by omega, by omega, by omega⟩ | exact ⟨by decide, by decide, by decide⟩ | exact Or.inl ⟨by omega, by omega⟩ | exact Or.inr ⟨by omega, by omega⟩)
local macro_rules | `(tactic| walk_at "go") => `(tactic| repeat (first | refine ⟨_, rfl, ?_⟩ | refine ⟨_, _, rfl, rfl, ?_⟩ | refine ⟨_, _, rfl, ?_⟩ | (refine ⟨_, _, rfl, rfl, ?_, ?_⟩; focus walk_at "num") | refine Or.inl ⟨_, rfl, ?_⟩ | refine ⟨_, _, _, _, rfl, rfl, (by assumption), (by rfl), ?_⟩ | refine ⟨_, _, _, _, _, rfl, (by assumption), (by assumption), (by assumption), (by rfl), ?_⟩ | refine ⟨rfl, ?_⟩ | (refine And.intro ?_ ?_; focus walk_at "num")))
abbrev s_row : Stmt := topS 67
abbrev N_row : List Str := ["_law_at", "_law_size", "_law_kind", "_law_draws_here", "_law_place", "_law_row_here", "_law_letter", "_law_draw", "_law_entry"]
abbrev P_row : List Str := ["_law_at", "_law_size", "_law_kind", "_law_draws_here", "_law_place"]
theorem sc_row : FnScope N_row P_row (defScope s_row) := ⟨rfl, rfl, rfl, by decide +kernel, rfl, by decide +kernel, by decide +kernel⟩
abbrev s_table : Stmt := topS 68
abbrev N_table : List Str := ["_law_draws_here", "_law_place", "_law_shape", "_law_size", "_law_kind", "_law_at"]
abbrev P_table : List Str := ["_law_draws_here", "_law_place"]
theorem sc_table : FnScope N_table P_table (defScope s_table) := ⟨rfl, rfl, rfl, by decide +kernel, rfl, by decide +kernel, by decide +kernel⟩
abbrev s_good : Stmt := topS 69
abbrev N_good : List Str := ["_law_size", "_law_draws_here", "_law_place", "_law_draw", "_law_begins", "_law_state", "_law_good_here"]
abbrev P_good : List Str := ["_law_size", "_law_draws_here", "_law_place"]
theorem sc_good : FnScope N_good P_good (defScope s_good) := ⟨rfl, rfl, rfl, by decide +kernel, rfl, by decide +kernel, by decide +kernel⟩
theorem four_at {α : Type} {a b c d : α} {i : Nat} (h : i < 4) : ∃ x, atI [a, b, c, d] (i : Int) = some x ∧ (x = a ∨ x = b ∨ x = c ∨ x = d) := by
  obtain rfl | rfl | rfl | rfl : i = 0 ∨ i = 1 ∨ i = 2 ∨ i = 3 := by omega
  · exact ⟨a, atI_nat rfl, .inl rfl⟩
  · exact ⟨b, atI_nat rfl, .inr (.inl rfl)⟩
  · exact ⟨c, atI_nat rfl, .inr (.inr (.inl rfl))⟩
  · exact ⟨d, atI_nat rfl, .inr (.inr (.inr rfl))⟩
theorem four_int {a b c d : Int} {i : Nat} (h : i < 4) : ∃ x : Int, atI [V.int a, .int b, .int c, .int d] (i : Int) = some (.int x) := by
  obtain ⟨x, e, rfl | rfl | rfl | rfl⟩ := four_at (a := V.int a) (b := .int b) (c := .int c) (d := .int d) h
  all_goals exact ⟨_, e⟩
structure TbR (H : Hp) (A : Addr) (zs : List (Addr × List (Option Nat))) : Prop where
  sq : H A = some (.lst (zs.map fun z => V.ref z.1))
  at_ : ∀ z ∈ zs, H z.1 = some (.lst (z.2.map eV))
theorem TbR.tb {K : PySem.W.Frag} {H : Hp} {A : Addr} {zs : List (Addr × List (Option Nat))} (h : TbR H A zs) : Tb true true K H A zs := ⟨SqL.of h.sq, fun z m => SqL.of (h.at_ z m)⟩
theorem TbR.mono {H H' : Hp} {A : Addr} {zs : List (Addr × List (Option Nat))} (s : Same H H') (h : TbR H A zs) : TbR H' A zs := ⟨s _ _ h.sq, fun z m => s _ _ (h.at_ z m)⟩
section
variable {P : Program} {w : World} {K : PySem.W.Frag} {mg : Str → Option Value} {base : Heap} {f : Addr} {fd : FuncData}
def spRow (K : PySem.W.Frag) : Sp := fun vs H Q _ => ∃ (a p : Addr) (at' sz kd n : Nat) (ds : List Int), vs = [.int (at' : Int), .int (sz : Int), .int (kd : Int), .ref a, .ref p] ∧ Tk K a p ds n H H ∧ at' < sz ∧ sz ≤ 100 ∧ ∀ (r : Addr) (row : List (Option Nat)) H', Tk K a p ds n H H' → H r = none → H' r = some (.lst (row.map eV)) → row.length = 4 → (∀ e, some e ∈ row → e < sz) → Q (.ref r) H'
theorem ok_row (F : FnP K "_law_row" s_row f fd) (m_int : mg "int" = none) (m_range : mg "range" = none) (c_take : Cal P w K mg base 1 "_law_take" (spTake K)) : FnOk P w K mg base CX0 2 f fd P_row (spRow K) := by
  refine F.ok sc_row (fun vs H Q E h => ?_) (fun cdv A outer s H vs Q E hr h => ?_)
  · obtain ⟨a, p, at', sz, kd, n, ds, rfl, _⟩ := h
    rfl
  · obtain ⟨a, p, at', sz, kd, n, ds, rfl, hT, la, lsz, q⟩ := h
    refine ⟨_, PSs.nox (pss_cons (ps_set (i := 5) sc_row.nd rfl (by first | exact .inl rfl | exact .inr rfl) (pe_lst pa_nil))
      (pss_cons (ps_for PassesOwn.never rfl (pi_range1 (by rfl) m_range (pa_cons pe_int pa_nil)) (pg_name (i := 6) sc_row.nd rfl (by first | exact .inl rfl | exact .inr rfl))
        (pss_cons (ps_set (i := 7) sc_row.nd rfl (by first | exact .inl rfl | exact .inr rfl) (pe_cl c_take hr (by decide) (by rfl) (pa_cons (pv 3) (pa_cons (pv 4) pa_nil))))
      (pss_cons (ps_set (i := 8) sc_row.nd rfl (by first | exact .inl rfl | exact .inr rfl) (pe_op op_mod (pe_callTy call_int1 (by rfl) m_int (by decide +kernel) (pa_cons (pe_op op_fdiv (pv 7) pe_int) pa_nil)) (pv 1)))
      (pss_cut (ps_if (PW.pt (pw_and (pt_cmpR op_lt (pv 2) pe_int (nomark _)) (pw_and1 (pt_cmpR op_lt (pe_op op_mod (pe_callTy call_int1 (by rfl) m_int (by decide +kernel) (pa_cons (pv 7) pa_nil)) pe_int) (pe_ix ix_list (pe_ix ix_list (pe_lst (pa_cons (pe_lst (pa_cons pe_int (pa_cons pe_int (pa_cons pe_int (pa_cons pe_int pa_nil))))) (pa_cons (pe_lst (pa_cons pe_int (pa_cons pe_int (pa_cons pe_int (pa_cons pe_int pa_nil))))) (pa_cons (pe_lst (pa_cons pe_int (pa_cons pe_int (pa_cons pe_int (pa_cons pe_int pa_nil))))) (pa_cons (pe_lst (pa_cons pe_int (pa_cons pe_int (pa_cons pe_int (pa_cons pe_int pa_nil))))) pa_nil))))) (pv 2) (fun _ _ => rfl)) (pv 6) (fun _ _ => rfl)) (nomark _))))) (pss_one (ps_set (i := 8) sc_row.nd rfl (by first | exact .inl rfl | exact .inr rfl) pe_non)) pss_nil)
      (pss_cut (ps_if (PW.pt (pw_and (pt_cmpR op_gt (pv 2) pe_int (nomark _)) (pw_and1 (pt_cmpR op_gt (pe_op op_mod (pe_callTy call_int1 (by rfl) m_int (by decide +kernel) (pa_cons (pv 7) pa_nil)) pe_int) pe_int (nomark _))))) (pss_cons (ps_set (i := 8) sc_row.nd rfl (by first | exact .inl rfl | exact .inr rfl) (pe_op op_add (pv 0) (pe_ix ix_list (pe_lst (pa_cons pe_int (pa_cons pe_int (pa_cons pe_int (pa_cons pe_int pa_nil))))) (pv 6) (fun _ _ => rfl))))
      (pss_one (ps_if (PW.pt (pw_or (pt_cmpR op_ge (pv 8) (pv 1) (nomark _)) (pw_or1 (PW.pt (pw_and (pt_cmpR op_eq (pv 2) pe_int (nomark _)) (pw_and1 (pt_cmpR op_eq (pv 6) pe_int (nomark _)))))))) (pss_one (ps_set (i := 8) sc_row.nd rfl (by first | exact .inl rfl | exact .inr rfl) pe_non)) pss_nil))) pss_nil)
      (pss_one (ps_expr (pe_bm PySem.F.plainAttrs_list PySem.F.slot_list_append PySem.F.type_list_append mt_append (pv 5) (pa_cons (pv 8) pa_nil)))))))))
      (pss_one (ps_ret (pv 5))))), ?_⟩
    walk_at "go"
    intro R nR
    have sR := same_new (o := .lst []) nR
    have eR : (upd H R (.lst [])) R = some (.lst (([] : List (Option Nat)).map eV)) := upd_same
    have hT1 := hT.more sR
    generalize upd H R (.lst []) = H1 at sR eR hT1
    have aR : a ≠ R := ne_of_none hT.hA nR
    have pR : p ≠ R := by
      obtain ⟨m, em⟩ := hT.pl
      exact ne_of_none em nR
    clear sR
    walk_at "go"
    refine for_gen (n := 4) (fun k σ J => Tk K a p ds n H J ∧ ∃ (row : List (Option Nat)) (v6 v7 v8 : Option V), J R = some (.lst (row.map eV)) ∧ row.length = k ∧ (∀ e, some e ∈ row → e < sz) ∧ σ = [some (.int (at' : Int)), some (.int (sz : Int)), some (.int (kd : Int)), some (.ref a), some (.ref p), some (.ref R), v6, v7, v8]) ⟨hT1, [], none, none, none, eR, rfl, fun e m => absurd m (by simp), rfl⟩ ?_ ?_ ?_ ?_
    · intro k σ J hk _
      show k < 4
      exact hk
    · intro σ J _
      show 4 ≤ 4
      exact Nat.le_refl _
    · rintro k σ J x J' hk ⟨hT2, row, v6, v7, v8, eR, lr, hent, rfl⟩ ⟨rfl, rfl⟩
      rw [show (0 : Int) + (k : Int) = (k : Int) by omega]
      obtain ⟨m2, em2⟩ := hT2.pl
      walk_at "go"
      refine ⟨a, p, n, m2, ds, rfl, SqL.of hT2.hA, hT2.hd, em2, hT2.ne, fun r r0 r1 => ?_⟩
      obtain ⟨hT3, sb3⟩ := hT2.next em2
      have eR3 := sb3 _ _ pR.symm eR
      generalize upd J' p (.lst [.int ((m2 + 1 : Nat) : Int)]) = J3 at hT3 eR3
      clear hT2 eR em2
      obtain ⟨c, ec, hc⟩ := modN (r / 8) (show 0 < sz by omega)
      walk_at "go"
      dsimp only
      rw [show r / 8 % (sz : Int) = (c : Int) from ec]
      dsimp only [List.set]
      refine ⟨fun σ' J => Same J3 J ∧ ∃ o : Option Nat, (∀ e, o = some e → e < sz) ∧ σ' = [some (.int (at' : Int)), some (.int (sz : Int)), some (.int (kd : Int)), some (.ref a), some (.ref p), some (.ref R), some (.int (k : Int)), some (.int r), some (eV o)], ?_, ?_⟩
      · have keep0 : ∃ o : Option Nat, (∀ e, o = some e → e < sz) ∧ [some (V.int (at' : Int)), some (.int (sz : Int)), some (.int (kd : Int)), some (.ref a), some (.ref p), some (.ref R), some (.int (k : Int)), some (.int r), some (.int (c : Int))] = [some (.int (at' : Int)), some (.int (sz : Int)), some (.int (kd : Int)), some (.ref a), some (.ref p), some (.ref R), some (.int (k : Int)), some (.int r), some (eV o)] := ⟨some c, fun e h => by cases h; exact hc, rfl⟩
        walk_at "go"
        by_cases c4 : kd < 4
        · rw [decide_eq_true (show (kd : Int) < 4 by omega)]
          walk_at "go"
          intro a1 na1
          generalize eH_ : upd J3 a1 _ = U1
          have u1 : Same J3 U1 := by rw [← eH_]; exact same_new na1
          have ea1 : U1 a1 = some (.lst [.int 1, .int 1, .int 1, .int 1]) := by rw [← eH_]; exact upd_same
          clear eH_
          walk_at "go"
          intro a2 na2
          generalize eH_ : upd U1 a2 _ = U2
          have u2 : Same U1 U2 := by rw [← eH_]; exact same_new na2
          have ea2 : U2 a2 = some (.lst [.int 1, .int 1, .int 1, .int 8]) := by rw [← eH_]; exact upd_same
          clear eH_
          walk_at "go"
          intro a3 na3
          generalize eH_ : upd U2 a3 _ = U3
          have u3 : Same U2 U3 := by rw [← eH_]; exact same_new na3
          have ea3 : U3 a3 = some (.lst [.int 4, .int 4, .int 4, .int 4]) := by rw [← eH_]; exact upd_same
          clear eH_
          walk_at "go"
          intro a4 na4
          generalize eH_ : upd U3 a4 _ = U4
          have u4 : Same U3 U4 := by rw [← eH_]; exact same_new na4
          have ea4 : U4 a4 = some (.lst [.int 2, .int 2, .int 2, .int 6]) := by rw [← eH_]; exact upd_same
          clear eH_
          walk_at "go"
          intro a5 na5
          generalize eH_ : upd U4 a5 _ = U5
          have u5 : Same U4 U5 := by rw [← eH_]; exact same_new na5
          have ea5 : U5 a5 = some (.lst [.ref a1, .ref a2, .ref a3, .ref a4]) := by rw [← eH_]; exact upd_same
          clear eH_
          walk_at "go"
          have s35 := u1.trans (u2.trans (u3.trans (u4.trans u5)))
          obtain ⟨y, ey, hy⟩ := four_at (a := V.ref a1) (b := .ref a2) (c := .ref a3) (d := .ref a4) c4
          obtain ⟨lk, i1, i2, i3, i4, rfl, elk⟩ : ∃ lk i1 i2 i3 i4, y = .ref lk ∧ U5 lk = some (.lst [.int i1, .int i2, .int i3, .int i4]) := by
            rcases hy with rfl | rfl | rfl | rfl
            · exact ⟨_, _, _, _, _, rfl, (u2.trans (u3.trans (u4.trans u5))) _ _ ea1⟩
            · exact ⟨_, _, _, _, _, rfl, (u3.trans (u4.trans u5)) _ _ ea2⟩
            · exact ⟨_, _, _, _, _, rfl, (u4.trans u5) _ _ ea3⟩
            · exact ⟨_, _, _, _, _, rfl, u5 _ _ ea4⟩
          obtain ⟨iv, eiv⟩ := four_int (a := i1) (b := i2) (c := i3) (d := i4) hk
          refine ⟨a5, _, _, _, rfl, rfl, SqL.of ea5, ey, ?_⟩
          walk_at "go"
          refine ⟨lk, _, _, _, rfl, rfl, SqL.of elk, eiv, ?_⟩
          walk_at "go"
          refine ite2 (fun _ => ?_) (fun _ => ?_)
          · exact ⟨s35, none, fun e h => (by cases h), rfl⟩
          · exact ⟨s35, keep0⟩
        · rw [decide_eq_false (show ¬ (kd : Int) < 4 by omega)]
          walk_at "go"
          exact ⟨Same.refl _, keep0⟩
      rintro σ' J4 ⟨s4, o1, ho1, rfl⟩
      have hT4 := hT3.more s4
      have eR4 := s4 _ _ eR3
      clear hT3 s4 eR3 sb3
      refine ⟨fun σ' J => Same J4 J ∧ ∃ o : Option Nat, (∀ e, o = some e → e < sz) ∧ σ' = [some (.int (at' : Int)), some (.int (sz : Int)), some (.int (kd : Int)), some (.ref a), some (.ref p), some (.ref R), some (.int (k : Int)), some (.int r), some (eV o)], ?_, ?_⟩
      · walk_at "go"
        by_cases c4 : 3 < kd
        · rw [decide_eq_true (show (3 : Int) < (kd : Int) by omega)]
          walk_at "go"
          refine ite2 (fun _ => ?_) (fun _ => ?_)
          · walk_at "go"
            intro a1 na1
            generalize eH_ : upd J4 a1 _ = U1
            have u1 : Same J4 U1 := by rw [← eH_]; exact same_new na1
            have ea1 : U1 a1 = some (.lst [.int 0, .int 1, .int 1, .int 2]) := by rw [← eH_]; exact upd_same
            clear eH_
            walk_at "go"
            obtain ⟨iv, eiv⟩ : ∃ iv : Nat, atI [V.int 0, .int 1, .int 1, .int 2] (k : Int) = some (.int (iv : Int)) := by
              obtain rfl | rfl | rfl | rfl : k = 0 ∨ k = 1 ∨ k = 2 ∨ k = 3 := by omega
              · exact ⟨0, rfl⟩
              · exact ⟨1, rfl⟩
              · exact ⟨1, rfl⟩
              · exact ⟨2, rfl⟩
            refine ⟨a1, _, _, _, rfl, rfl, SqL.of ea1, eiv, ?_⟩
            walk_at "go"
            by_cases c5 : sz ≤ at' + iv
            · rw [decide_eq_true (show (sz : Int) ≤ (at' : Int) + (iv : Int) by omega)]
              walk_at "go"
              exact ⟨none, fun e h => (by cases h), rfl⟩
            · rw [decide_eq_false (show ¬ (sz : Int) ≤ (at' : Int) + (iv : Int) by omega)]
              walk_at "go"
              refine ite2 (fun _ => ?_) (fun _ => ?_)
              · walk_at "go"
                refine ite2 (fun _ => ?_) (fun _ => ?_)
                · exact ⟨u1, none, fun e h => (by cases h), rfl⟩
                · exact ⟨u1, some (at' + iv), fun e h => by cases h; omega, rfl⟩
              · exact ⟨u1, some (at' + iv), fun e h => by cases h; omega, rfl⟩
          · exact ⟨Same.refl _, o1, ho1, rfl⟩
        · rw [decide_eq_false (show ¬ (3 : Int) < (kd : Int) by omega)]
          walk_at "go"
          exact ⟨Same.refl _, o1, ho1, rfl⟩
      rintro σ' J5 ⟨s5, o2, ho2, rfl⟩
      have hT5 := hT4.more s5
      have eR5 := s5 _ _ eR4
      walk_at "go"
      refine ⟨.inl ⟨rfl, _, SqL.of eR5⟩, ?_⟩
      walk_at "go"
      refine ⟨R, _, _, rfl, rfl, eR5, by rw [List.length_map]; exact szC (by omega), ?_⟩
      refine ⟨hT5.at_ nR pR aR, row ++ [o2], _, _, _, by rw [upd_same, List.map_append]; rfl, by rw [List.length_append, lr]; rfl, fun e he => ?_, rfl⟩
      rcases List.mem_append.mp he with he | he
      · exact hent e he
      · exact ho2 e (List.mem_singleton.mp he).symm
    · rintro σ J ⟨hT2, row, v6, v7, v8, eR, lr, hent, rfl⟩
      walk_at "go"
      exact q R row J hT2 nR eR lr hent
def spTbl (K : PySem.W.Frag) : Sp := fun vs H Q _ => ∃ (a p : Addr) (n : Nat) (ds : List Int), vs = [.ref a, .ref p] ∧ Tk K a p ds n H H ∧ ∀ (A : Addr) (zs : List (Addr × List (Option Nat))) H', Tk K a p ds n H H' → H A = none → TbR H' A zs → (∀ z ∈ zs, H z.1 = none) → Wf (Z.tb zs) 4 → zs.length ≤ 12 → Q (.ref A) H'
theorem ok_table (F : FnP K "_law_table" s_table f fd) (m_int : mg "int" = none) (m_range : mg "range" = none) (c_take : Cal P w K mg base 1 "_law_take" (spTake K)) (c_row : Cal P w K mg base 2 "_law_row" (spRow K)) : FnOk P w K mg base CX0 3 f fd P_table (spTbl K) := by
  refine F.ok sc_table (fun vs H Q E h => ?_) (fun cdv A outer s H vs Q E hr h => ?_)
  · obtain ⟨a, p, n, ds, rfl, _⟩ := h
    rfl
  · obtain ⟨a, p, n, ds, rfl, hT, q⟩ := h
    refine ⟨_, PSs.nox (pss_cons (ps_set (i := 2) sc_table.nd rfl (by first | exact .inl rfl | exact .inr rfl) (pe_cl c_take hr (by decide) (by rfl) (pa_cons (pv 0) (pa_cons (pv 1) pa_nil))))
      (pss_cons (ps_set (i := 3) sc_table.nd rfl (by first | exact .inl rfl | exact .inr rfl) (pe_op op_add pe_int (pe_op op_mod (pe_callTy call_int1 (by rfl) m_int (by decide +kernel) (pa_cons (pv 2) pa_nil)) pe_int)))
      (pss_cut (ps_if (pt_cmpR op_eq (pe_op op_mod (pe_callTy call_int1 (by rfl) m_int (by decide +kernel) (pa_cons (pe_op op_fdiv (pv 2) pe_int) pa_nil)) pe_int) pe_int (nomark _)) (pss_one (ps_set (i := 3) sc_table.nd rfl (by first | exact .inl rfl | exact .inr rfl) (pe_op op_mod (pe_callTy call_int1 (by rfl) m_int (by decide +kernel) (pa_cons (pe_op op_fdiv (pv 2) pe_int) pa_nil)) pe_int))) pss_nil)
      (pss_cons (ps_set (i := 4) sc_table.nd rfl (by first | exact .inl rfl | exact .inr rfl) (pe_op op_mod (pe_callTy call_int1 (by rfl) m_int (by decide +kernel) (pa_cons (pe_cl c_take hr (by decide) (by rfl) (pa_cons (pv 0) (pa_cons (pv 1) pa_nil))) pa_nil)) pe_int))
      (pss_one (ps_ret (pe_lc (own := [("_law_at", 5)]) (g := (gName 5)) (tt := tYes) (by rfl) sc_table.nd (pi_range1 (by rfl) m_range (pa_cons (pv 3) pa_nil)) (blkOk_by (own := [("_law_at", 5)]) (N := N_table) (sc := defScope s_table) (by decide +kernel)) (fun _ _ _ _ _ => (pg_name (i := 5) sc_table.nd rfl (by first | exact .inl rfl | exact .inr rfl))) (fun _ _ _ _ _ => pts_nil) (fun _ _ _ _ _ => (pe_cl c_row hr (by decide) (by rfl) (pa_cons (pv 5) (pa_cons (pv 3) (pa_cons (pv 4) (pa_cons (pv 0) (pa_cons (pv 1) pa_nil)))))))))))))), ?_⟩
    obtain ⟨mm, em⟩ := hT.pl
    walk_at "go"
    refine ⟨a, p, n, mm, ds, rfl, SqL.of hT.hA, hT.hd, em, hT.ne, fun r r0 r1 => ?_⟩
    obtain ⟨hT1, _⟩ := hT.next em
    generalize upd H p (.lst [.int ((mm + 1 : Nat) : Int)]) = H1 at hT1
    obtain ⟨c, ec, hc⟩ := modN r (show 0 < 4 by decide)
    obtain ⟨d, ed, hd⟩ := modN (r / 32) (show 0 < 13 by decide)
    walk_at "go"
    dsimp only
    rw [show r % 4 = (c : Int) from ec]
    rw [show L2.start N_table [V.ref a, V.ref p] = [some (.ref a), some (.ref p), none, none, none, none] from rfl]
    dsimp only [List.set]
    refine ⟨fun σ' J => J = H1 ∧ ∃ sz : Nat, sz ≤ 12 ∧ σ' = [some (.ref a), some (.ref p), some (.int r), some (.int (sz : Int)), none, none], ?_, ?_⟩
    · walk_at "go"
      refine ite2 (fun _ => ?_) (fun _ => ?_)
      · walk_at "go"
        dsimp only
        rw [show r / 32 % 13 = (d : Int) from ed]
        exact ⟨d, by omega, rfl⟩
      · exact ⟨rfl, 1 + c, by omega, rfl⟩
    rintro σ' J ⟨rfl, sz, hsz, rfl⟩
    obtain ⟨m1, em1⟩ := hT1.pl
    walk_at "go"
    refine ⟨a, p, n, m1, ds, rfl, SqL.of hT1.hA, hT1.hd, em1, hT1.ne, fun r2 r20 r21 => ?_⟩
    obtain ⟨hT2, _⟩ := hT1.next em1
    generalize upd J p (.lst [.int ((m1 + 1 : Nat) : Int)]) = H2 at hT2
    clear hT1 em1 em
    obtain ⟨kd, ek, hk⟩ := modN r2 (show 0 < 6 by decide)
    walk_at "go"
    dsimp only
    rw [show r2 % 6 = (kd : Int) from ek]
    walk_at "go"
    intro D nD
    have aD : a ≠ D := ne_of_none hT2.hA nD
    have pD : p ≠ D := by
      obtain ⟨m, em⟩ := hT2.pl
      exact ne_of_none em nD
    have nDH := hT2.nn nD
    refine lc_gen (n := sz) (fun k J => Tk K a p ds n H J ∧ ∃ zs : List (Addr × List (Option Nat)), TbR J D zs ∧ (∀ z ∈ zs, z.1 ≠ D ∧ z.1 ≠ p ∧ H z.1 = none) ∧ zs.length = k ∧ ∀ r ∈ tb zs, r.length = 4 ∧ ∀ e, some e ∈ r → e < sz) ⟨hT2.more (same_new nD), [], ⟨upd_same, fun z m => absurd m (by simp)⟩, fun z m => absurd m (by simp), rfl, fun r m => absurd m (by simp [Z.tb])⟩ ?_ ?_ ?_ ?_
    · intro k J hk _
      show k < ((sz : Int)).toNat
      omega
    · intro J _
      show ((sz : Int)).toNat ≤ sz
      omega
    · rintro k J x J' hk ⟨hT3, zs, tr, nz, lz, hrow⟩ ⟨rfl, rfl⟩
      rw [show (0 : Int) + (k : Int) = (k : Int) by omega]
      walk_at "go"
      refine ⟨a, p, k, sz, kd, n, ds, rfl, hT3.slf, by omega, by omega, fun R row J2 hT4 nR eR lr hent => ?_⟩
      have e4 := hT4.up tr.sq pD.symm
      have DR : D ≠ R := ne_of_none tr.sq nR
      have nRH := hT3.nn nR
      have Rp : R ≠ p := fun e => by
        obtain ⟨m, em⟩ := hT3.pl
        rw [← e, nR] at em
        cases em
      refine ⟨_, e4, by rw [List.length_map]; exact szC (by omega), (hT3.tr hT4).at_ nDH pD aD, zs ++ [(R, row)], ⟨by rw [upd_same, List.map_append]; rfl, fun z h => ?_⟩, fun z h => ?_, by rw [List.length_append, lz]; rfl, fun r hr => ?_⟩
      · rcases List.mem_append.mp h with h | h
        · rw [upd_ne (nz z h).1]
          exact hT4.up (tr.at_ z h) (nz z h).2.1
        · rw [List.mem_singleton.mp h, upd_ne DR.symm]
          exact eR
      · rcases List.mem_append.mp h with h | h
        · exact nz z h
        · rw [List.mem_singleton.mp h]
          exact ⟨DR.symm, Rp, nRH⟩
      · unfold Z.tb at hr
        rw [List.map_append] at hr
        rcases List.mem_append.mp hr with hr | hr
        · exact hrow r hr
        · rw [List.mem_singleton.mp hr]
          exact ⟨lr, hent⟩
    rintro J ⟨hT3, zs, tr, nz, lz, hrow⟩
    refine q D zs J hT3 nDH tr (fun z m => (nz z m).2.2) ⟨fun r m => (hrow r m).1, fun r m e he => ?_⟩ (by omega)
    rw [show (Z.tb zs).length = zs.length from List.length_map .., lz]
    exact (hrow r m).2 e he
/-- good states: all (None) or a list -/
def GoL (H : Hp) (n : Nat) (gv : V) (gs : List Nat) : Prop := ((gv = .non ∧ gs = List.range n) ∨ ∃ g : Addr, gv = .ref g ∧ H g = some (.lst (gsq gs))) ∧ (∀ s ∈ gs, s < n) ∧ gs.length ≤ 30
theorem GoL.mono {H H' : Hp} {n : Nat} {gv : V} {gs : List Nat} (s : Same H H') (h : GoL H n gv gs) : GoL H' n gv gs := ⟨h.1.imp id fun ⟨g, e, z⟩ => ⟨g, e, s _ _ z⟩, h.2⟩
def spGod (K : PySem.W.Frag) : Sp := fun vs H Q _ => ∃ (a p : Addr) (sz n : Nat) (ds : List Int), vs = [.int (sz : Int), .ref a, .ref p] ∧ Tk K a p ds n H H ∧ sz ≤ 12 ∧ ∀ (gv : V) (gs : List Nat) H', Tk K a p ds n H H' → (∀ g, gv = .ref g → H g = none) → GoL H' sz gv gs → Q gv H'
theorem ok_good (F : FnP K "_law_good" s_good f fd) (m_int : mg "int" = none) (m_range : mg "range" = none) (c_take : Cal P w K mg base 1 "_law_take" (spTake K)) : FnOk P w K mg base CX0 2 f fd P_good (spGod K) := by
  refine F.ok sc_good (fun vs H Q E h => ?_) (fun cdv A outer s H vs Q E hr h => ?_)
  · obtain ⟨a, p, sz, n, ds, rfl, _⟩ := h
    rfl
  · obtain ⟨a, p, sz, n, ds, rfl, hT, lsz, q⟩ := h
    refine ⟨_, PSs.nox (pss_cons (ps_set (i := 3) sc_good.nd rfl (by first | exact .inl rfl | exact .inr rfl) (pe_cl c_take hr (by decide) (by rfl) (pa_cons (pv 1) (pa_cons (pv 2) pa_nil))))
      (pss_cons (ps_if (pt_cmpR op_gt (pe_op op_mod (pe_callTy call_int1 (by rfl) m_int (by decide +kernel) (pa_cons (pv 3) pa_nil)) pe_int) pe_int (nomark _)) (pss_one (ps_ret pe_non)) pss_nil)
      (pss_cons (ps_if (pt_cmpR op_eq (pe_op op_mod (pe_callTy call_int1 (by rfl) m_int (by decide +kernel) (pa_cons (pe_op op_fdiv (pv 3) pe_int) pa_nil)) pe_int) pe_int (nomark _)) (pss_one (ps_ret (pe_lst pa_nil))) pss_nil)
      (pss_cons (ps_set (i := 4) sc_good.nd rfl (by first | exact .inl rfl | exact .inr rfl) (pe_cmpR op_lt (pe_op op_mod (pe_callTy call_int1 (by rfl) m_int (by decide +kernel) (pa_cons (pe_op op_fdiv (pv 3) pe_int) pa_nil)) pe_int) pe_int (nomark _)))
      (pss_cons (ps_setLc (i := 6) (own := [("_law_state", 5)]) (g := (gName 5)) (by rfl) sc_good.nd rfl rfl (sw_true rfl rfl rfl (by decide +kernel)) (pi_range1 (by rfl) m_range (pa_cons (pv 0) pa_nil)) (blkOk_by (own := [("_law_state", 5)]) (N := N_good) (sc := defScope s_good) (by decide +kernel)) (fun _ _ _ _ _ => (pg_name (i := 5) sc_good.nd rfl (by first | exact .inl rfl | exact .inr rfl))) (fun _ _ _ _ _ => (pts_one (PW.pt (pw_or (PW.pt (pw_and (pt_cmpR op_eq (pv 5) pe_int (nomark _)) (pw_and1 (pt_val (pv 4))))) (pw_or1 (pt_cmpR op_gt (pe_op op_mod (pe_callTy call_int1 (by rfl) m_int (by decide +kernel) (pa_cons (pe_cl c_take hr (by decide) (by rfl) (pa_cons (pv 1) (pa_cons (pv 2) pa_nil))) pa_nil)) pe_int) pe_int (nomark _))))))) (fun _ _ _ _ _ => (pv 5)))
      (pss_cut (ps_if (pt_cmpR op_eq (pe_op op_mod (pe_callTy call_int1 (by rfl) m_int (by decide +kernel) (pa_cons (pe_op op_fdiv (pv 3) pe_int) pa_nil)) pe_int) pe_int (nomark _)) (pss_one (ps_set (i := 6) sc_good.nd rfl (by first | exact .inl rfl | exact .inr rfl) (pe_op op_cat (pe_revL (pv 6)) (pv 6)))) pss_nil)
      (pss_one (ps_ret (pv 6))))))))), ?_⟩
    obtain ⟨mm, em⟩ := hT.pl
    walk_at "go"
    refine ⟨a, p, n, mm, ds, rfl, SqL.of hT.hA, hT.hd, em, hT.ne, fun r r0 r1 => ?_⟩
    obtain ⟨hT1, _⟩ := hT.next em
    generalize upd H p (.lst [.int ((mm + 1 : Nat) : Int)]) = H1 at hT1
    walk_at "go"
    refine ite2 (fun _ => ?_) (fun _ => ?_)
    · walk_at "go"
      exact q .non (List.range sz) H1 hT1 (fun g e => by cases e) ⟨.inl ⟨rfl, rfl⟩, fun s h => List.mem_range.mp h, by rw [List.length_range]; omega⟩
    walk_at "go"
    refine ite2 (fun _ => ?_) (fun _ => ?_)
    · walk_at "go"
      intro g ng
      exact q (.ref g) [] _ (hT1.more (same_new ng)) (fun g' e => by cases e; exact hT1.nn ng) ⟨.inr ⟨g, rfl, upd_same⟩, fun s h => absurd h (by simp), by decide⟩
    walk_at "go"
    intro D nD
    have aD : a ≠ D := ne_of_none hT1.hA nD
    have pD : p ≠ D := by
      obtain ⟨m, em⟩ := hT1.pl
      exact ne_of_none em nD
    have nDH := hT1.nn nD
    refine lc_gen (n := sz) (fun k J => Tk K a p ds n H J ∧ ∃ gs : List Nat, J D = some (.lst (gsq gs)) ∧ (∀ s ∈ gs, s < k) ∧ gs.length ≤ k) ⟨hT1.more (same_new nD), [], upd_same, fun s m => absurd m (by simp), Nat.le_refl _⟩ ?_ ?_ ?_ ?_
    · intro k J hk _
      show k < ((sz : Int)).toNat
      omega
    · intro J _
      show ((sz : Int)).toNat ≤ sz
      omega
    · rintro k J x J' hk ⟨hT3, gs, eD, hgs, lg⟩ ⟨rfl, rfl⟩
      rw [show (0 : Int) + (k : Int) = (k : Int) by omega]
      refine ⟨rfl, ?_⟩
      have put : ∀ J2, Tk K a p ds n H J2 → J2 D = some (.lst (gsq gs)) → ∃ acc, J2 D = some (.lst acc) ∧ acc.length < sizeLine ∧ Tk K a p ds n H (upd J2 D (.lst (acc ++ [V.int (k : Int)]))) ∧ ∃ gs : List Nat, (upd J2 D (.lst (acc ++ [V.int (k : Int)]))) D = some (.lst (gsq gs)) ∧ (∀ s ∈ gs, s < k + 1) ∧ gs.length ≤ k + 1 := fun J2 h2 e2 => by
        refine ⟨_, e2, by rw [show (gsq gs).length = gs.length from List.length_map ..]; exact szC (by omega), h2.at_ nDH pD aD, gs ++ [k], by rw [upd_same]; unfold gsq; rw [List.map_append]; rfl, fun s hs => ?_, by rw [List.length_append]; show gs.length + 1 ≤ _; omega⟩
        rcases List.mem_append.mp hs with hs | hs
        · have := hgs s hs
          omega
        · rw [List.mem_singleton.mp hs]
          omega
      have skip : ∀ J2, Tk K a p ds n H J2 → J2 D = some (.lst (gsq gs)) → Tk K a p ds n H J2 ∧ ∃ gs : List Nat, J2 D = some (.lst (gsq gs)) ∧ (∀ s ∈ gs, s < k + 1) ∧ gs.length ≤ k + 1 := fun J2 h2 e2 => ⟨h2, gs, e2, fun s hs => by have := hgs s hs; omega, by omega⟩
      walk_at "go"
      refine ite2 (fun _ => ?_) (fun _ => ?_)
      · walk_at "go"
        refine ite2 (fun _ => ?_) (fun _ => ?_)
        · try rw [if_pos rfl]
          walk_at "go"
          exact put J' hT3 eD
        · obtain ⟨m3, em3⟩ := hT3.pl
          walk_at "go"
          refine ⟨a, p, n, m3, ds, rfl, SqL.of hT3.hA, hT3.hd, em3, hT3.ne, fun r3 r30 r31 => ?_⟩
          obtain ⟨hT4, sb4⟩ := hT3.next em3
          have eD4 := sb4 _ _ pD.symm eD
          generalize upd J' p (.lst [.int ((m3 + 1 : Nat) : Int)]) = J3 at hT4 eD4
          walk_at "go"
          refine ite2 (fun _ => ?_) (fun _ => ?_)
          · try rw [if_pos rfl]
            walk_at "go"
            exact put J3 hT4 eD4
          · try rw [if_neg Bool.false_ne_true]
            exact skip J3 hT4 eD4
      · obtain ⟨m3, em3⟩ := hT3.pl
        walk_at "go"
        refine ⟨a, p, n, m3, ds, rfl, SqL.of hT3.hA, hT3.hd, em3, hT3.ne, fun r3 r30 r31 => ?_⟩
        obtain ⟨hT4, sb4⟩ := hT3.next em3
        have eD4 := sb4 _ _ pD.symm eD
        generalize upd J' p (.lst [.int ((m3 + 1 : Nat) : Int)]) = J3 at hT4 eD4
        walk_at "go"
        refine ite2 (fun _ => ?_) (fun _ => ?_)
        · try rw [if_pos rfl]
          walk_at "go"
          exact put J3 hT4 eD4
        · try rw [if_neg Bool.false_ne_true]
          exact skip J3 hT4 eD4
    rintro J ⟨hT3, gs, eD, hgs, lg⟩
    refine ⟨fun σ' J' => Tk K a p ds n H J' ∧ ∃ (g : Addr) (gs2 : List Nat) (v4 v5 : Option V), H g = none ∧ J' g = some (.lst (gsq gs2)) ∧ (∀ s ∈ gs2, s < sz) ∧ gs2.length ≤ 24 ∧ σ' = [some (.int (sz : Int)), some (.ref a), some (.ref p), some (.int r), v4, v5, some (.ref g)], ?_, ?_⟩
    · walk_at "go"
      refine ite2 (fun _ => ?_) (fun _ => ?_)
      · walk_at "go"
        refine ⟨D, _, rfl, SqL.of eD, ?_⟩
        intro E1 n1
        have s1 := same_new (o := .lst (gsq gs).reverse) n1
        have e1 : (upd J E1 (.lst (gsq gs).reverse)) E1 = some (.lst (gsq gs.reverse)) := by rw [upd_same]; unfold gsq; rw [List.map_reverse]
        have eD1 := s1 _ _ eD
        generalize upd J E1 (.lst (gsq gs).reverse) = J1 at s1 e1 eD1
        have hT5 := hT3.more s1
        walk_at "go"
        refine ⟨E1, D, _, _, rfl, rfl, e1, eD1, by unfold gsq; rw [List.length_map, List.length_map, List.length_reverse]; exact szl (by omega), ?_⟩
        intro E2 n2
        refine ⟨hT5.more (same_new n2), E2, gs.reverse ++ gs, _, _, hT5.nn n2, by rw [upd_same]; unfold gsq; rw [List.map_append], fun s hs => ?_, by rw [List.length_append, List.length_reverse]; omega, rfl⟩
        rcases List.mem_append.mp hs with hs | hs
        · exact hgs s (List.mem_reverse.mp hs)
        · exact hgs s hs
      · exact ⟨hT3, D, gs, _, _, nDH, eD, hgs, by omega, rfl⟩
    rintro σ' J2 ⟨hT4, g, gs2, v4, v5, ng, eg, hg2, lg2, rfl⟩
    walk_at "go"
    exact q (.ref g) gs2 J2 hT4 (fun g' e => by cases e; exact ng) ⟨.inr ⟨g, rfl, eg⟩, hg2, by omega⟩
end
end Z
set_option Elab.async false
set_option linter.all false
set_option maxRecDepth 100000
set_option maxHeartbeats 4000000
namespace Z
open Mc PySem PySem.Spec PyProof.Rows L2
/-- the rows of a table, each copied (c: into lists, else into tuples) -/
def rwO (c : Bool) (r : List (Option Nat)) : HO := if c then .lst (r.map eV) else .tup (r.map eV)
theorem lc_rows {K : PySem.W.Frag} {q c : Bool} {a D : Addr} {zs : List (Addr × List (Option Nat))} {H0 : Hp} {i : Nat} {te : TE} {vs : List Nat} {σ : L2.St} {Qd : Hp → Prop} (hT : Tb true q K H0 a zs) (hn : zs.length ≤ 1000000) (nD : H0 D = none) (hw : ∀ x : Addr, wipe ((wipe σ vs).set i (some (.ref x))) vs = wipe σ vs)
    (ht : ∀ (x : Addr) (r : List (Option Nat)) J (Q : VK), Same H0 J → r ∈ tb zs → SqK q K J x (r.map eV) → (∀ l, J l = none → Q (.ref l) (upd J l (rwO c r))) → te ((wipe σ vs).set i (some (.ref x))) J Q)
    (hd : ∀ J (hs : List (Addr × List (Option Nat))), Same H0 J → J D = some (.lst (hs.map fun z => V.ref z.1)) → tb hs = tb zs → (∀ z ∈ hs, J z.1 = some (rwO c z.2) ∧ H0 z.1 = none ∧ z.1 ≠ D) → Qd J) : lcW (Itl K a) (gName i) tYes te vs σ D Qd H0 := by
  have hS : SqL K H0 a (zs.map fun z => V.ref z.1) := hT.sq
  have ex : ∀ k (hk : k < zs.length), (zs.map fun z => V.ref z.1)[k]? = some (V.ref (zs[k]).1) := fun k hk => by
    rw [List.getElem?_map, List.getElem?_eq_getElem hk]
    rfl
  refine lc_gen (n := zs.length) (fun k J => Same H0 J ∧ ∃ hs : List (Addr × List (Option Nat)), J D = some (.lst (hs.map fun z => V.ref z.1)) ∧ hs.length = k ∧ tb hs = (tb zs).take k ∧ ∀ z ∈ hs, J z.1 = some (rwO c z.2) ∧ H0 z.1 = none ∧ z.1 ≠ D) ⟨same_new nD, [], upd_same, rfl, rfl, fun z h => absurd h (by simp)⟩ (fun k J hk p => ⟨_, _, p.1.seq hS, ex k hk⟩) (fun J p => ⟨_, p.1.seq hS, by rw [List.length_map]; exact Nat.le_refl _⟩) ?_ ?_
  · rintro k J x J' hk ⟨s1, hs, eD, ll, et, fr⟩ ⟨rfl, y⟩
    have y := y _ (s1.seq hS)
    rw [ex k hk] at y
    cases y
    refine ⟨hw _, ?_⟩
    dsimp only [tYes]
    rw [if_pos rfl]
    have mk : (zs[k]).2 ∈ tb zs := List.mem_map.mpr ⟨_, List.getElem_mem hk, rfl⟩
    refine ht _ (zs[k]).2 J' _ s1 mk (Z.Same.sqK s1 (hT.at_ _ (List.getElem_mem hk))) fun l nl => ?_
    have lD : D ≠ l := ne_of_none eD nl
    have nlH : H0 l = none := none_of s1 nl
    refine ⟨_, by rw [upd_ne lD]; exact eD, by rw [List.length_map, ll]; exact Nat.lt_of_lt_of_le (show k < 2000000 by omega) (by decide), Z.Same.mut (s1.trans (same_new nl)) nD, hs ++ [(l, (zs[k]).2)], by rw [upd_same, List.map_append]; rfl, by rw [List.length_append, ll]; rfl, ?_, fun z h => ?_⟩
    · unfold tb at et ⊢
      rw [List.map_append, et, List.take_succ, List.getElem?_map, List.getElem?_eq_getElem hk]
      rfl
    · rcases List.mem_append.mp h with h | h
      · obtain ⟨f1, f2, f3⟩ := fr z h
        exact ⟨by rw [upd_ne f3, upd_ne (ne_of_none f1 nl)]; exact f1, f2, f3⟩
      · rw [List.mem_singleton.mp h]
        exact ⟨by rw [upd_ne lD.symm, upd_same], nlH, lD.symm⟩
  · rintro J ⟨s1, hs, eD, ll, et, fr⟩
    refine hd J hs s1 eD ?_ fr
    rw [et, List.take_of_length_le (by unfold tb; rw [List.length_map]; exact Nat.le_refl _)]
/-- a store to a list leaves the machines as they are -/
theorem McAt.lst {C : Addr} {K : PySem.W.Frag} {H : Hp} {n p : Addr} {l : List Nat} {R : Tbl} {g : List Nat} {xs : List V} {o : HO} (hp : H p = some (.lst xs)) (h : McAt C K H n l R g) : McAt C K (upd H p o) n l R g := by
  have tk : ∀ {a : Addr} {ys : List V}, SqK false K H a ys → SqK false K (upd H p o) a ys := fun {a ys} h => by
    rcases h with (h | ⟨o', h⟩) | h
    · exact .inl (.inl (by rw [upd_ne (fun e => by rw [e, hp] at h; cases h)]; exact h))
    · exact .inl (.inr ⟨o', by rw [upd_ne (fun e => by rw [e, hp] at h; cases h)]; exact h⟩)
    · exact .inr h
  obtain ⟨dx, r, u, zr, h1, h2, h3, h4⟩ := h.ex
  refine ⟨dx, r, u, zr, ?_, ⟨tk h2.sq, fun z m => tk (h2.at_ z m)⟩, ?_, h4⟩
  · rw [upd_ne (fun e => by rw [e, hp] at h1; cases h1)]
    exact h1
  · rw [upd_ne (fun e => by rw [e, hp] at h3; cases h3)]
    exact h3
theorem cut_gsq (gs : List Nat) (lo hi : Option Int) : ∃ g2 : List Nat, cutV (gsq gs) lo hi = gsq g2 ∧ (∀ s ∈ g2, s ∈ gs) ∧ g2.length ≤ gs.length := by
  unfold cutV gsq
  rw [List.length_map, ← List.map_drop, ← List.map_take]
  exact ⟨_, rfl, fun s h => List.mem_of_mem_drop (List.mem_of_mem_take h), by rw [List.length_take, List.length_drop]; omega⟩
end Z
set_option pp.maxSteps 700
set_option Elab.async false
set_option linter.all false
set_option maxRecDepth 100000
set_option maxHeartbeats 4000000
open SX (S S_inj S_len S_cat)
namespace Z
open Mc
open PySem PySem.Spec PyProof.Rows L2
open C8 (pss_cut tCut)
local macro_rules | `(tactic| walk_at "num") => `(tactic| first | rfl | omega | decide | exact Nat.le_of_lt (small1000 (by simp)) | exact ⟨by omega, by omega⟩ | exact ⟨by omega, by omega, by omega⟩ | exact ⟨by decide, by decide, by decide⟩ | exact Or.inl ⟨by omega, by omega⟩ | exact Or.inr ⟨by omega, by omega⟩)
local macro_rules | `(tactic| walk_at "go") => `(tactic| repeat (first | refine ⟨_, rfl, ?_⟩ | refine ⟨_, _, rfl, rfl, ?_⟩ | refine ⟨_, _, rfl, ?_⟩ | (refine ⟨_, _, rfl, rfl, ?_, ?_⟩; focus walk_at "num") | refine Or.inl ⟨_, rfl, ?_⟩ | refine ⟨_, _, _, _, rfl, rfl, (by assumption), (by rfl), ?_⟩ | refine ⟨_, _, _, _, _, rfl, (by assumption), (by assumption), (by assumption), (by rfl), ?_⟩ | refine ⟨rfl, ?_⟩ | (refine And.intro ?_ ?_; focus walk_at "num")))
section
variable {P : Program} {w : World} {K : PySem.W.Frag} {mg : Str → Option Value} {base : Heap} {f C : Addr} {fd : FuncData}
def spM3 (C : Addr) (K : PySem.W.Frag) : Sp := fun vs H Q _ => ∃ (q q2 : Bool) (a : Addr) (l : List Nat) (gv : V) (zs : List (Addr × List (Option Nat))) (gs : List Nat), vs = [.str (S l), .ref a, gv] ∧ l.Nodup ∧ l ≠ [] ∧ l.length ≤ 1000 ∧ Tb q q2 K H a zs ∧ Wf (tb zs) l.length ∧ zs.length ≤ 1000000 ∧ GoodV K H zs.length gv gs ∧
  ∀ (n : Addr) (R : Tbl) (g' : List Nat) H', Same H H' → H n = none → McAt C K H' n l R g' → Nf (tb zs) (inG gs) l.length R g' → Q (.ref n) H'
def spM2 (C : Addr) (K : PySem.W.Frag) : Sp := fun vs H Q _ => ∃ (q q2 : Bool) (a : Addr) (l : List Nat) (zs : List (Addr × List (Option Nat))), vs = [.str (S l), .ref a] ∧ l.Nodup ∧ l ≠ [] ∧ l.length ≤ 1000 ∧ Tb q q2 K H a zs ∧ Wf (tb zs) l.length ∧ zs.length ≤ 1000000 ∧
  ∀ (n : Addr) (R : Tbl) (g' : List Nat) H', Same H H' → H n = none → McAt C K H' n l R g' → Nf (tb zs) (inG (List.range zs.length)) l.length R g' → Q (.ref n) H'
theorem GoodV.mono {H H' : Hp} {n : Nat} {gv : V} {gs : List Nat} (s : Same H H') (h : GoodV K H n gv gs) : GoodV K H' n gv gs := by
  obtain ⟨h1, h2⟩ := h
  refine ⟨?_, h2⟩
  rcases h1 with h1 | ⟨q3, g, e, hg⟩
  · exact .inl h1
  · exact .inr ⟨q3, g, e, Z.Same.sqK s hg⟩
theorem m3_imp : ∀ vs H Q E, spM3 C K vs H Q E → ∀ n dx, H n = none → H dx = none → dx ≠ n → spMIni C K (.ref n :: vs) (upd (upd H dx (.own n)) n (.ins C dx [])) (fun v H2 => v = .non ∧ Q (.ref n) H2) E := by
  rintro vs H Q E ⟨q, q2, a, l, gv, zs, gs, rfl, nd, ne, ll, hT, wf, lz, hg, qq⟩ n dx n1 n2 n3
  have sm : Same H (upd (upd H dx (.own n)) n (.ins C dx [])) := Z.Same.mut (same_new n2) n1
  refine ⟨q, q2, n, dx, a, l, gv, zs, gs, rfl, upd_same, nd, ne, ll, hT.mono sm, wf, lz, hg.mono sm, fun r u zr g' H' sb en hR eu nf => ⟨rfl, ?_⟩⟩
  exact qq n (tb zr) g' H' (fun c o e => sb c o (fun z => by rw [z, n1] at e; cases e) (sm c o e)) n1 ⟨dx, r, u, zr, en, hR, eu, rfl⟩ nf
theorem m2_imp : ∀ vs H Q E, spM2 C K vs H Q E → ∀ n dx, H n = none → H dx = none → dx ≠ n → spMIni C K (.ref n :: (vs ++ [.non])) (upd (upd H dx (.own n)) n (.ins C dx [])) (fun v H2 => v = .non ∧ Q (.ref n) H2) E := by
  rintro vs H Q E ⟨q, q2, a, l, zs, rfl, nd, ne, ll, hT, wf, lz, qq⟩ n dx n1 n2 n3
  exact m3_imp _ H Q E ⟨q, q2, a, l, .non, zs, List.range zs.length, rfl, nd, ne, ll, hT, wf, lz, ⟨.inl ⟨rfl, rfl⟩, fun s h => List.mem_range.mp h⟩, qq⟩ n dx n1 n2 n3
/-! ### machines by their languages -/
structure McL (C : Addr) (K : PySem.W.Frag) (H : Hp) (n : Addr) (l : List Nat) (sz : Nat) (L : Lg) : Prop where
  ex : ∃ (R : Tbl) (g : List Nat) (T : Tbl) (G : Nat → Prop), McAt C K H n l R g ∧ Nf T G l.length R g ∧ R.length ≤ sz ∧ ∀ w, AccS T G w ↔ L w
theorem McL.mono {H H' : Hp} {n : Addr} {l : List Nat} {sz : Nat} {L : Lg} (s : Same H H') (h : McL C K H n l sz L) : McL C K H' n l sz L := by
  obtain ⟨R, g, T, G, h1, h2, hz, h3⟩ := h.ex
  exact ⟨R, g, T, G, h1.mono s, h2, hz, h3⟩
theorem McL.congr {H : Hp} {n : Addr} {l : List Nat} {sz : Nat} {L L' : Lg} (e : ∀ w, L w ↔ L' w) (h : McL C K H n l sz L) : McL C K H n l sz L' := by
  obtain ⟨R, g, T, G, h1, h2, hz, h3⟩ := h.ex
  exact ⟨R, g, T, G, h1, h2, hz, fun w => (h3 w).trans (e w)⟩
theorem McL.at_ {H : Hp} {n : Addr} {l : List Nat} {sz : Nat} {L : Lg} (h : McL C K H n l sz L) : ∃ (R : Tbl) (g : List Nat), McAt C K H n l R g ∧ R.length ≤ sz ∧ Wf R l.length ∧ (∀ j ∈ g, j < R.length) ∧ (∀ j, j < R.length → Liv R (inG g) j) ∧ ∀ w, AccS R (inG g) w ↔ L w := by
  obtain ⟨R, g, T, G, h1, h2, hz, h3⟩ := h.ex
  exact ⟨R, g, h1, hz, h2.wf.1, h2.wf.2, fun j hj => h2.live hj, fun w => (h2.lang w).trans (h3 w)⟩
theorem McL.same {H : Hp} {n n' : Addr} {l : List Nat} {sz sz' : Nat} {L L' : Lg} (h : McL C K H n l sz L) (h' : McL C K H n' l sz' L') (e : ∀ w, L w ↔ L' w) : ∃ (R : Tbl) (g : List Nat), McAt C K H n l R g ∧ McAt C K H n' l R g := by
  obtain ⟨R, g, T, G, h1, h2, hz, h3⟩ := h.ex
  obtain ⟨R', g', T', G', h1', h2', hz', h3'⟩ := h'.ex
  obtain ⟨rfl, rfl⟩ := h2.uniq h2' fun w => (h3 w).trans ((e w).trans (h3' w).symm)
  exact ⟨R, g, h1, h1'⟩
theorem McL.ins {H : Hp} {n : Addr} {l : List Nat} {sz : Nat} {L : Lg} (h : McL C K H n l sz L) : ∃ dx r u, H n = some (.ins C dx (mF l r u)) := by
  obtain ⟨R, g, T, G, h1, h2, hz, h3⟩ := h.ex
  obtain ⟨dx, r, u, zr, e, _⟩ := h1.ex
  exact ⟨dx, r, u, e⟩
def spL3 (C : Addr) (K : PySem.W.Frag) : Sp := fun vs H Q _ => ∃ (q q2 : Bool) (a : Addr) (l : List Nat) (gv : V) (zs : List (Addr × List (Option Nat))) (gs : List Nat), vs = [.str (S l), .ref a, gv] ∧ l.Nodup ∧ l ≠ [] ∧ l.length ≤ 1000 ∧ Tb q q2 K H a zs ∧ Wf (tb zs) l.length ∧ zs.length ≤ 1000000 ∧ GoodV K H zs.length gv gs ∧
  ∀ (n : Addr) H', Same H H' → H n = none → McL C K H' n l zs.length (AccS (tb zs) (inG gs)) → Q (.ref n) H'
def spL2 (C : Addr) (K : PySem.W.Frag) : Sp := fun vs H Q _ => ∃ (q q2 : Bool) (a : Addr) (l : List Nat) (zs : List (Addr × List (Option Nat))), vs = [.str (S l), .ref a] ∧ l.Nodup ∧ l ≠ [] ∧ l.length ≤ 1000 ∧ Tb q q2 K H a zs ∧ Wf (tb zs) l.length ∧ zs.length ≤ 1000000 ∧
  ∀ (n : Addr) H', Same H H' → H n = none → McL C K H' n l zs.length (AccS (tb zs) (inG (List.range zs.length))) → Q (.ref n) H'
theorem l3_imp : ∀ vs H Q E, spL3 C K vs H Q E → ∀ n dx, H n = none → H dx = none → dx ≠ n → spMIni C K (.ref n :: vs) (upd (upd H dx (.own n)) n (.ins C dx [])) (fun v H2 => v = .non ∧ Q (.ref n) H2) E := by
  rintro vs H Q E ⟨q, q2, a, l, gv, zs, gs, e, nd, ne, ll, hT, wf, lz, hg, qq⟩
  exact m3_imp vs H Q E ⟨q, q2, a, l, gv, zs, gs, e, nd, ne, ll, hT, wf, lz, hg, fun n R g' H' s nn hM nf => qq n H' s nn ⟨R, g', _, _, hM, nf, by have := nf.len; unfold tb at this; rwa [List.length_map] at this, fun _ => Iff.rfl⟩⟩
theorem l2_imp : ∀ vs H Q E, spL2 C K vs H Q E → ∀ n dx, H n = none → H dx = none → dx ≠ n → spMIni C K (.ref n :: (vs ++ [.non])) (upd (upd H dx (.own n)) n (.ins C dx [])) (fun v H2 => v = .non ∧ Q (.ref n) H2) E := by
  rintro vs H Q E ⟨q, q2, a, l, zs, e, nd, ne, ll, hT, wf, lz, qq⟩
  exact m2_imp vs H Q E ⟨q, q2, a, l, zs, e, nd, ne, ll, hT, wf, lz, fun n R g' H' s nn hM nf => qq n H' s nn ⟨R, g', _, _, hM, nf, by have := nf.len; unfold tb at this; rwa [List.length_map] at this, fun _ => Iff.rfl⟩⟩
theorem accB_iff {g : List Nat} {o : Option Nat} : accB g o = true ↔ ∃ t, o = some t ∧ t ∈ g := by
  cases o with
  | none => exact ⟨fun h => (by cases h), fun ⟨t, h, _⟩ => (by cases h)⟩
  | some j => exact ⟨fun h => ⟨j, rfl, of_decide_eq_true h⟩, fun ⟨t, h, ht⟩ => by cases h; exact decide_eq_true ht⟩
def spInL (C : Addr) (K : PySem.W.Frag) : Sp := fun vs H Q _ => ∃ (n : Addr) (l t : List Nat) (sz : Nat) (L : Lg), vs = [.ref n, .str (S t)] ∧ McL C K H n l sz L ∧ l.Nodup ∧ ∀ b : Bool, (b = true ↔ Txl (ixOf l) L t) → Q (.bl b) H
theorem inL_imp : ∀ vs H Q E, spInL C K vs H Q E → spIn C K vs H Q E := by
  rintro vs H Q E ⟨n, l, t, sz, L, rfl, hM, nd, q⟩
  obtain ⟨R, g, h1, _, h2, h3, _, h4⟩ := hM.at_
  refine ⟨n, l, t, R, g, rfl, h1, nd, h2, q _ ?_⟩
  rw [accB_iff, ← Txl.congr h4, txl_rs]
  exact Iff.rfl
def spEqL (C : Addr) (K : PySem.W.Frag) : Sp := fun vs H Q _ => ∃ (n m : Addr) (l l' : List Nat) (sz sz' : Nat) (L L' : Lg), vs = [.ref n, .ref m] ∧ McL C K H n l sz L ∧ McL C K H m l' sz' L' ∧ ∀ b : Bool, (b = true ↔ (l = l' ∧ ∀ w, L w ↔ L' w)) → Q (.bl b) H
theorem eqL_imp : ∀ vs H Q E, spEqL C K vs H Q E → spEqM C K vs H Q E := by
  rintro vs H Q E ⟨n, m, l, l', sz, sz', L, L', rfl, hM, hN, q⟩
  obtain ⟨R, g, T, G, h1, h2, hz, h3⟩ := hM.ex
  obtain ⟨R', g', T', G', h1', h2', hz', h3'⟩ := hN.ex
  refine ⟨n, m, l, l', R, R', g, g', rfl, h1, h1', q _ ?_⟩
  rw [decide_eq_true_iff]
  constructor
  · rintro ⟨rfl, rfl, rfl⟩
    exact ⟨rfl, fun w => (h3 w).symm.trans ((h2.lang w).symm.trans ((h2'.lang w).trans (h3' w)))⟩
  · rintro ⟨rfl, e⟩
    exact ⟨rfl, h2.uniq h2' fun w => (h3 w).trans ((e w).trans (h3' w).symm)⟩
theorem beq_iff {a b : Bool} {p q : Prop} (ha : a = true ↔ p) (hb : b = true ↔ q) (h : p ↔ q) : a = b := by
  cases a <;> cases b
  · rfl
  · exact absurd (ha.mpr (h.mpr (hb.mp rfl))) Bool.false_ne_true
  · exact absurd (hb.mpr (h.mp (ha.mp rfl))) Bool.false_ne_true
  · rfl
end
end Z
set_option pp.maxSteps 700
set_option Elab.async false
set_option linter.all false
set_option maxRecDepth 100000
set_option maxHeartbeats 4000000
open SX (S S_inj S_len S_cat)
namespace Z
open Mc
open PySem PySem.Spec PyProof.Rows L2
open C8 (pss_cut tCut)
local macro_rules | `(tactic| walk_at "num") => `(tactic| first | rfl | omega | decide | exact Nat.le_of_lt (small1000 (by simp)) | exact ⟨by omega, by omega⟩ | exact ⟨by omega, by omega, by omega⟩ | exact ⟨by decide, by decide, by decide⟩ | exact Or.inl ⟨by omega, by omega⟩ | exact Or.inr ⟨by omega, by omega⟩)
local macro_rules | `(tactic| walk_at "go") => `(tactic| repeat (first | refine ⟨_, rfl, ?_⟩ | refine ⟨_, _, rfl, rfl, ?_⟩ | refine ⟨_, _, rfl, ?_⟩ | (refine ⟨_, _, rfl, rfl, ?_, ?_⟩; focus walk_at "num") | refine Or.inl ⟨_, rfl, ?_⟩ | refine ⟨_, _, _, _, rfl, rfl, (by assumption), (by rfl), ?_⟩ | refine ⟨_, _, _, _, _, rfl, (by assumption), (by assumption), (by assumption), (by rfl), ?_⟩ | refine ⟨rfl, ?_⟩ | (refine And.intro ?_ ?_; focus walk_at "num")))
abbrev s_unending_rows : Stmt := topS 37
abbrev N_unending_rows : List Str := ["rows", "good", "flag", "alive", "changed", "state", "row", "entry", "kept"]
abbrev P_unending_rows : List Str := ["rows", "good"]
theorem sc_unending_rows : FnScope N_unending_rows P_unending_rows (defScope s_unending_rows) := ⟨rfl, rfl, rfl, by decide +kernel, rfl, by decide +kernel, by decide +kernel⟩
theorem bls_put {n i : Nat} {al : Nat → Bool} {b : Bool} : (bls n al).set i (V.bl b) = bls n fun j => if j = i then b else al j := by
  unfold bls
  apply List.ext_getElem
  · rw [List.length_set, List.length_map, List.length_map]
  · intro j h1 h2
    rw [List.length_map] at h2
    rw [List.getElem_set, List.getElem_map, List.getElem_map, List.getElem_range]
    by_cases c : i = j
    · subst c
      simp
    · have c2 : ¬ j = i := fun z => c z.symm
      simp [c, c2]
section
variable {P : Program} {w : World} {K : PySem.W.Frag} {mg : Str → Option Value} {base : Heap} {f : Addr} {fd : FuncData}
def spUnr (K : PySem.W.Frag) : Sp := fun vs H Q _ => ∃ (q q2 q3 : Bool) (m : Nat) (a g : Addr) (zs : List (Addr × List (Option Nat))) (gs : List Nat), vs = [.ref a, .ref g] ∧ Tb q q2 K H a zs ∧ Wf (tb zs) m ∧ m ≤ 1000 ∧ zs.length ≤ 1000 ∧ SqK q3 K H g (gsq gs) ∧ (∀ s ∈ gs, s < zs.length) ∧
  ∀ (L : Addr) (zk : List (Addr × List (Option Nat))) H', Same H H' → H L = none → Tb true true K H' L zk → ((zk = [] ∧ (zs = [] ∨ ¬ La (tb zs) (inG gs) 0)) ∨ (0 < zs.length ∧ La (tb zs) (inG gs) 0 ∧ Kpa (tb zs) (La (tb zs) (inG gs)) m (tb zk))) → Q (.ref L) H'
theorem ok_unending_rows (F : FnP K "unending_rows" s_unending_rows f fd) (m_len : mg "len" = none) (m_any : mg "any" = none) (m_enumerate : mg "enumerate" = none) (c_flags_of : Cal P w K mg base 1 "flags_of" (spFlags K)) : FnOk P w K mg base CX0 2 f fd P_unending_rows (spUnr K) := by
  refine F.ok sc_unending_rows (fun vs H Q E h => ?_) (fun cdv A outer s H vs Q E hr h => ?_)
  · obtain ⟨q, q2, q3, m, a, g, zs, gs, rfl, _⟩ := h
    rfl
  · obtain ⟨q, q2, q3, m, a, g, zs, gs, rfl, hT, wf, hm, hn, hG, hgs, qq⟩ := h
    refine ⟨_, PSs.nox (pss_cons (ps_set (i := 3) sc_unending_rows.nd rfl (by first | exact .inl rfl | exact .inr rfl) (pe_lc (own := [("flag", 2)]) (g := (gName 2)) (tt := tYes) (by rfl) sc_unending_rows.nd (pi_list (pe_cl c_flags_of hr (by decide) (by rfl) (pa_cons (pe_callB call_len_seq (by rfl) m_len PySem.boot_len (pa_cons (pv 0) pa_nil)) (pa_cons (pv 1) pa_nil)))) (blkOk_by (own := [("flag", 2)]) (N := N_unending_rows) (sc := defScope s_unending_rows) (by decide +kernel)) (fun _ _ _ _ _ => (pg_name (i := 2) sc_unending_rows.nd rfl (by first | exact .inl rfl | exact .inr rfl))) (fun _ _ _ _ _ => pts_nil) (fun _ _ _ _ _ => (pv 2))))
      (pss_cons (ps_set (i := 4) sc_unending_rows.nd rfl (by first | exact .inl rfl | exact .inr rfl) pe_bl)
      (pss_cut (ps_while PassesOwn.never (pt_val (pv 4))
        (pss_cons (ps_set (i := 4) sc_unending_rows.nd rfl (by first | exact .inl rfl | exact .inr rfl) pe_bl)
      (pss_one (ps_for PassesOwn.never rfl (pi_enumM (by rfl) m_enumerate (pa_cons (pv 0) pa_nil)) (pg_tup rfl (pgs_cons (pg_name (i := 5) sc_unending_rows.nd rfl (by first | exact .inl rfl | exact .inr rfl)) (pgs_cons (pg_name (i := 6) sc_unending_rows.nd rfl (by first | exact .inl rfl | exact .inr rfl)) pgs_nil)))
        (pss_one (ps_if (PW.pt (pw_and (pt_val (pe_ix ix_list (pv 3) (pv 5) (fun _ _ => rfl))) (pw_and1 (pt_not (pt_val (pe_callB (cr_any rfl) (by rfl) m_any (by decide +kernel) (pa_cons (pe_lc (own := [("entry", 7)]) (g := (gName 7)) (tt := tYes) (by rfl) sc_unending_rows.nd (pi_sq (pv 6)) (blkOk_by (own := [("entry", 7)]) (N := N_unending_rows) (sc := defScope s_unending_rows) (by decide +kernel)) (fun _ _ _ _ _ => (pg_name (i := 7) sc_unending_rows.nd rfl (by first | exact .inl rfl | exact .inr rfl))) (fun _ _ _ _ _ => pts_nil) (fun _ _ _ _ _ => (pe_and (pe_cmpR op_notN (pv 7) pe_non (nomark _)) (pe_one (pe_ix (ix_list_K (K := K) rfl) (pv 3) (pv 7) (fun _ _ => rfl)))))) pa_nil))))))) (pss_cons (ps_asg pe_bl (pg_sub (pv 3) (pv 5) set_list))
      (pss_one (ps_set (i := 4) sc_unending_rows.nd rfl (by first | exact .inl rfl | exact .inr rfl) pe_bl))) pss_nil))))))
      (pss_cons (ps_setLc (i := 8) (own := [("row", 6)]) (g := (gName 6)) (tt := tYes) (by rfl) sc_unending_rows.nd rfl rfl (sw_true rfl rfl rfl (by decide +kernel)) (pi_sq (pv 0)) (blkOk_by (own := [("row", 6)]) (N := N_unending_rows) (sc := defScope s_unending_rows) (by decide +kernel)) (fun _ _ _ _ _ => (pg_name (i := 6) sc_unending_rows.nd rfl (by first | exact .inl rfl | exact .inr rfl))) (fun _ _ _ _ _ => pts_nil) (fun _ _ _ _ _ => (pe_lc (own := [("entry", 7)]) (g := (gName 7)) (tt := tYes) (by rfl) sc_unending_rows.nd (pi_sq_K (K := K) rfl (pv 6)) (blkOk_by (own := [("entry", 7)]) (N := N_unending_rows) (sc := relS _ (defScope s_unending_rows)) (by decide +kernel)) (fun _ _ _ _ _ => (pg_name (i := 7) sc_unending_rows.nd rfl (by first | exact .inl rfl | exact .inr rfl))) (fun _ _ _ _ _ => pts_nil) (fun _ _ _ _ _ => (pe_ifExp (PW.pt (pw_and (pt_cmpR op_notN (pv 7) pe_non (nomark _)) (pw_and1 (pt_val (pe_ix (ix_list_K (K := K) rfl) (pv 3) (pv 7) (fun _ _ => rfl)))))) (pv 7) pe_non)))))
      (pss_one (ps_ret (pe_ifExp (PW.pt (pw_and (pt_cmpR op_gt (pe_callB call_len_seq (by rfl) m_len PySem.boot_len (pa_cons (pv 0) pa_nil)) pe_int (nomark _)) (pw_and1 (pt_val (pe_ix ix_list (pv 3) pe_int (fun _ _ => rfl)))))) (pv 8) (pe_lst pa_nil)))))))), ?_⟩
    walk_at "go"
    refine ⟨a, _, rfl, sqk_or hT.sq, ?_⟩
    rw [List.length_map]
    walk_at "go"
    refine ⟨q3, zs.length, g, gs, rfl, hG, hgs, by omega, fun L0 H1 s1 nL0 eL0 => ?_⟩
    walk_at "go"
    refine ⟨⟨_, SqL.of eL0⟩, fun A0 nA0 => ?_⟩
    refine lc_gen (n := zs.length) (fun k J => Same H1 J ∧ J A0 = some (.lst (bls k fun i => decide (i ∈ gs)))) ⟨same_new nA0, upd_same⟩ ?_ ?_ ?_ ?_
    · rintro k J hk ⟨s2, _⟩
      exact ⟨_, .bl (decide (k ∈ gs)), SqL.of (s2 _ _ eL0), by rw [List.getElem?_map, List.getElem?_range hk]; rfl⟩
    · rintro J ⟨s2, _⟩
      exact ⟨_, SqL.of (s2 _ _ eL0), by rw [List.length_map, List.length_range]; exact Nat.le_refl _⟩
    · rintro k J x J' hk ⟨s2, eA⟩ ⟨rfl, e⟩
      have hx := e _ (SqL.of (s2 _ _ eL0))
      rw [List.getElem?_map, List.getElem?_range hk] at hx
      cases hx
      walk_at "go"
      refine ⟨_, eA, by unfold bls; rw [List.length_map, List.length_range]; exact szC (by omega), Z.Same.mut s2 nA0, ?_⟩
      unfold bls
      rw [upd_same, List.range_succ, List.map_append]
      rfl
    rintro J ⟨s2, eA⟩
    have nA := none_of s1 nA0
    have sJ := s1.trans s2
    clear eL0 nA0 s1 s2
    walk_at "go"
    obtain ⟨n, hn'⟩ : ∃ n, n = zs.length := ⟨_, rfl⟩
    obtain ⟨T, hT'⟩ : ∃ T, T = tb zs := ⟨_, rfl⟩
    have lT : T.length = n := by rw [hT', hn']; exact List.length_map ..
    rw [← hT'] at wf qq
    rw [← hn'] at hn hgs qq eA
    refine ⟨fun σ' J => Same H J ∧ ∃ (al : Nat → Bool) (v5 v6 : Option V), J A0 = some (.lst (bls n al)) ∧ (∀ s, s < n → (al s = true ↔ La T (inG gs) s)) ∧ σ' = [some (.ref a), some (.ref g), none, some (.ref A0), some (.bl false), v5, v6, none, none], ?_, ?_⟩
    · refine ⟨fun μ σ J => Same H J ∧ ∃ (al : Nat → Bool) (ch : Bool) (v5 v6 : Option V), J A0 = some (.lst (bls n al)) ∧ (∀ s, s < n → La T (inG gs) s → al s = true) ∧ (∀ s, al s = true → s ∈ gs) ∧ (ch = false → ∀ s, s < n → al s = true → ∃ k e, nx T s k = some e ∧ al e = true) ∧ μ = (if ch = true then cnt al n + 1 else 0) ∧ σ = [some (.ref a), some (.ref g), none, some (.ref A0), some (.bl ch), v5, v6, none, none], ⟨_, sJ, fun i => decide (i ∈ gs), true, none, none, eA, fun s _ l => decide_eq_true l.out.1, fun s e => of_decide_eq_true e, fun z => (by cases z), rfl, rfl⟩, ?_⟩
      rintro μ σ J ⟨s3, al, ch, v5, v6, eA, snd, hgl, cl, rfl, rfl⟩
      walk_at "go"
      cases ch
      · rw [if_neg Bool.false_ne_true]
        refine ⟨s3, al, v5, v6, eA, fun s hs => ⟨fun l => ?_, snd s hs⟩, rfl⟩
        exact ⟨fun s => al s = true, l, fun x hx => ⟨hgl x hx, cl rfl x (hgs x (hgl x hx)) hx⟩⟩
      rw [if_pos rfl]
      refine ⟨fun σ' J' => Same H J' ∧ ∃ (al' : Nat → Bool) (ch' : Bool) (v5 v6 : Option V), J' A0 = some (.lst (bls n al')) ∧ (∀ s, s < n → La T (inG gs) s → al' s = true) ∧ (∀ s, al' s = true → s ∈ gs) ∧ (ch' = false → ∀ s, s < n → al' s = true → ∃ k e, nx T s k = some e ∧ al' e = true) ∧ (ch' = true → cnt al' n < cnt al n) ∧ σ' = [some (.ref a), some (.ref g), none, some (.ref A0), some (.bl ch'), v5, v6, none, none], ?_, ?_⟩
      · rintro σ' J' ⟨s4, al', ch', v5, v6, eA', snd', hgl', cl', up, rfl⟩
        refine ⟨_, ?_, s4, al', ch', v5, v6, eA', snd', hgl', cl', rfl, rfl⟩
        cases ch'
        · rw [if_neg Bool.false_ne_true, if_pos rfl]
          exact Nat.succ_pos _
        · rw [if_pos rfl, if_pos rfl]
          have := up rfl
          omega
      walk_at "go"
      refine ⟨q, _, _, rfl, Z.Same.sqK s3 hT.sq, ?_⟩
      refine for_enum hT.sq (fun k σ J => Same H J ∧ ∃ (al' : Nat → Bool) (ch' : Bool) (v5 v6 : Option V), J A0 = some (.lst (bls n al')) ∧ (∀ s, s < n → La T (inG gs) s → al' s = true) ∧ (∀ s, al' s = true → al s = true) ∧ (ch' = false → (∀ s, al' s = al s) ∧ ∀ s, s < k → al s = true → ∃ k e, nx T s k = some e ∧ al e = true) ∧ (ch' = true → cnt al' n < cnt al n) ∧ σ = [some (.ref a), some (.ref g), none, some (.ref A0), some (.bl ch'), v5, v6, none, none]) ⟨s3, al, false, v5, v6, eA, snd, fun _ h => h, fun _ => ⟨fun _ => rfl, fun s hs => absurd hs (Nat.not_lt_zero _)⟩, fun z => (by cases z), rfl⟩ (fun k σ J p => p.1) ?_ ?_
      · rintro k x σ J J2 ex ⟨s4, al', ch', v5, v6, eA', snd', mo, un, up, rfl⟩ s5
        rw [List.getElem?_map] at ex
        obtain ⟨z, ez, rfl⟩ := Option.map_eq_some_iff.mp ex
        have hk : k < n := by rw [hn']; exact (List.getElem?_eq_some_iff.mp ez).1
        have hz := (hT.mono (s4.trans s5)).at_ z (List.mem_of_getElem? ez)
        have mz : z.2 ∈ T := by rw [hT']; exact List.mem_map.mpr ⟨z, List.mem_of_getElem? ez, rfl⟩
        have lz := wf.row _ mz
        have rx : ∀ i, i < m → z.2.getD i none = nx T k i := fun i hi => by rw [hT']; exact row_nx ez (by omega)
        have eA2 := s5 _ _ eA'
        walk_at "go"
        refine ⟨A0, _, _, _, rfl, rfl, SqL.of eA2, bls_at hk, ?_⟩
        cases e1 : al' k
        · walk_at "go"
          refine ⟨s4.trans s5, al', ch', _, _, eA2, snd', mo, fun zz => ⟨(un zz).1, fun s hs hl => ?_⟩, up, rfl⟩
          by_cases c : s = k
          · subst c
            rw [← (un zz).1 s, e1] at hl
            cases hl
          · exact (un zz).2 s (by omega) hl
        · walk_at "go"
          refine rd_sq (b := q2) rfl hz ?_
          intro B nB
          refine lc_flt (n := m) (fun i => eV (z.2.getD i none)) (fun _ => true) (fun i => .bl (elB al' (z.2.getD i none))) (by omega) nB (fun i J3 hi s6 => itq_go (Z.Same.sqK s6 hz) (row_at (by omega))) (fun J3 s6 => itq_stop (Z.Same.sqK s6 hz) (by rw [List.length_map]; omega)) (fun i J3 x J4 hi s6 y => ?_) (fun i => rfl) (fun i J3 Q1 hi s6 q1 => ?_) (fun i J3 Q1 hi _ s6 q1 => ?_) (fun J3 s6 eB => ?_)
          · obtain ⟨rfl, ex⟩ := itq_yld (Z.Same.sqK s6 hz) y
            rw [row_at (by omega)] at ex
            cases ex
            exact ⟨Same.refl _, rfl⟩
          · exact q1 _ (Same.refl _)
          · rw [rx i hi] at q1 ⊢
            cases e2 : nx T k i with
            | none =>
              rw [e2] at q1
              walk_at "go"
              exact q1 _ (Same.refl _)
            | some e =>
              rw [e2] at q1
              have he := (nx_lt wf e2).1
              rw [lT] at he
              dsimp only [eV]
              walk_at "go"
              exact ⟨A0, _, _, _, rfl, rfl, SqL.of (s6 _ _ eA2), bls_at he, q1 _ (Same.refl _)⟩
          rw [fltL_all] at eB
          walk_at "go"
          refine ⟨B, (List.range m).map fun i => elB al' (z.2.getD i none), rfl, SqL.of (by rw [eB, List.map_map]; rfl), ?_⟩
          have s7 := s4.trans (s5.trans s6)
          have eA3 := s6 _ _ eA2
          have hany : ∀ k1 e, nx T k k1 = some e → al' e = true → ((List.range m).map fun i => elB al' (z.2.getD i none)).any id = true := fun k1 e he hl => by
            have hk1 := (nx_lt wf he).2.1
            refine List.any_eq_true.mpr ⟨elB al' (z.2.getD k1 none), List.mem_map.mpr ⟨k1, List.mem_range.mpr hk1, rfl⟩, ?_⟩
            rw [rx k1 hk1, he]
            exact hl
          cases e3 : ((List.range m).map fun i => elB al' (z.2.getD i none)).any id
          · walk_at "go"
            refine ⟨A0, _, _, k, rfl, rfl, eA3, by rw [bls_len]; exact ixN_nat hk, ?_⟩
            rw [bls_put]
            walk_at "go"
            refine ⟨Z.Same.mut s7 nA, fun j => if j = k then false else al' j, true, _, _, upd_same, fun s hs l => ?_, fun s h => ?_, fun zz => (by cases zz), fun _ => cnt_lt (x := k) (fun s hs h => ?_) hk (by simp) (mo k e1), rfl⟩
            · by_cases c : s = k
              · subst c
                obtain ⟨_, k1, e, he, l'⟩ := l.out
                rw [hany k1 e he (snd' e (by rw [← lT]; exact (nx_lt wf he).1) l')] at e3
                cases e3
              · simp only [c, if_false]
                exact snd' s hs l
            · by_cases c : s = k
              · simp [c] at h
              · simp only [c, if_false] at h
                exact mo s h
            · by_cases c : s = k
              · simp [c] at h
              · simp only [c, if_false] at h
                exact mo s h
          · walk_at "go"
            refine ⟨al', ch', _, _, eA3, snd', mo, fun zz => ⟨(un zz).1, fun s hs hl => ?_⟩, up, rfl⟩
            by_cases c : s = k
            · subst c
              obtain ⟨b, hb, hb2⟩ := List.any_eq_true.mp e3
              obtain ⟨i, hi, rfl⟩ := List.mem_map.mp hb
              rw [rx i (List.mem_range.mp hi)] at hb2
              cases e5 : nx T s i with
              | none => rw [e5] at hb2; cases hb2
              | some e =>
                rw [e5] at hb2
                exact ⟨i, e, e5, by rw [← (un zz).1 e]; exact hb2⟩
            · exact (un zz).2 s (by omega) hl
      · rintro σ J ⟨s4, al', ch', v5, v6, eA', snd', mo, un, up, rfl⟩
        rw [List.length_map, ← hn'] at un
        refine ⟨s4, al', ch', v5, v6, eA', snd', fun s hs => hgl s (mo s hs), fun z s hs hl => ?_, up, rfl⟩
        obtain ⟨u1, u2⟩ := un z
        rw [u1] at hl
        obtain ⟨k, e, h1, h2⟩ := u2 s hs hl
        exact ⟨k, e, h1, by rw [u1]; exact h2⟩
    rintro σ' J ⟨s3, al, v5, v6, eA, hal, rfl⟩
    walk_at "go"
    refine rd_sq (b := q) rfl (hT.mono s3).sq ?_
    intro L nL
    refine lc_gen (n := n) (fun k J' => Same J J' ∧ ∃ zk : List (Addr × List (Option Nat)), J' L = some (.lst (zk.map fun z => V.ref z.1)) ∧ (∀ z ∈ zk, J' z.1 = some (.lst (z.2.map eV)) ∧ z.1 ≠ L) ∧ tb zk = kpT al (T.take k)) ⟨same_new nL, [], upd_same, fun z hz => absurd hz (by simp), rfl⟩ ?_ ?_ ?_ ?_
    · rintro k J' hk ⟨s4, _⟩
      have hk2 : k < zs.length := by omega
      exact itq_go (Z.Same.sqK (s3.trans s4) hT.sq) (x := .ref zs[k].1) (by rw [List.getElem?_map, List.getElem?_eq_getElem hk2]; rfl)
    · rintro J' ⟨s4, _⟩
      exact itq_stop (Z.Same.sqK (s3.trans s4) hT.sq) (by rw [List.length_map]; omega)
    · rintro k J' x J2 hk ⟨s4, zk, eL, hz, ek⟩ y
      obtain ⟨rfl, ex⟩ := itq_yld (Z.Same.sqK (s3.trans s4) hT.sq) y
      have hk2 : k < zs.length := by omega
      rw [List.getElem?_map, List.getElem?_eq_getElem hk2] at ex
      cases ex
      have zk2 := (hT.mono (s3.trans s4)).at_ _ (List.getElem_mem hk2)
      have mz : zs[k].2 ∈ T := by rw [hT']; exact List.mem_map.mpr ⟨_, List.getElem_mem hk2, rfl⟩
      have tk : T.take (k + 1) = T.take k ++ [zs[k].2] := by
        rw [hT']
        unfold tb
        rw [List.take_succ, List.getElem?_map, List.getElem?_eq_getElem hk2]
        rfl
      have lz := wf.row _ mz
      have ent := wf.ent _ mz
      generalize zs[k] = z at zk2 mz tk lz ent
      have eA2 := s4 _ _ eA
      walk_at "go"
      refine rd_sq (b := q2) rfl zk2 ?_
      intro B nB
      refine lc_flt (n := m) (fun i => eV (z.2.getD i none)) (fun _ => true) (fun i => eV (kp al (z.2.getD i none))) (by omega) nB (fun i J3 hi s6 => itq_go (Z.Same.sqK s6 zk2) (row_at (by omega))) (fun J3 s6 => itq_stop (Z.Same.sqK s6 zk2) (by rw [List.length_map]; omega)) (fun i J3 x J4 hi s6 y => ?_) (fun i => rfl) (fun i J3 Q1 hi s6 q1 => ?_) (fun i J3 Q1 hi _ s6 q1 => ?_) (fun J3 s6 eB => ?_)
      · obtain ⟨rfl, ex⟩ := itq_yld (Z.Same.sqK s6 zk2) y
        rw [row_at (by omega)] at ex
        cases ex
        exact ⟨Same.refl _, rfl⟩
      · exact q1 _ (Same.refl _)
      · have me : z.2.getD i none ∈ z.2 := by
          rw [List.getD_eq_getElem?_getD, List.getElem?_eq_getElem (show i < z.2.length by omega)]
          exact List.getElem_mem _
        generalize z.2.getD i none = o at me q1
        cases o with
        | none =>
          walk_at "go"
          exact q1 _ (Same.refl _)
        | some e =>
          have he := ent e me
          rw [lT] at he
          dsimp only [eV]
          walk_at "go"
          refine ⟨A0, _, _, _, rfl, rfl, SqL.of (s6 _ _ eA2), bls_at he, ?_⟩
          have ee : kp al (some e) = if al e = true then some e else none := rfl
          rw [ee] at q1
          cases e1 : al e
          · rw [e1, if_neg Bool.false_ne_true] at q1
            walk_at "go"
            exact q1 _ (Same.refl _)
          · rw [e1, if_pos rfl] at q1
            walk_at "go"
            exact q1 _ (Same.refl _)
      have nBL : B ≠ L := ne_of_none' (s4 := eL) nB
      rw [fltL_all, ← lz, row_range (f := fun o => eV (kp al o))] at eB
      have ezk : zk.length ≤ 1000 := by
        have := congrArg List.length ek
        unfold tb kpT at this
        rw [List.length_map, List.length_map, List.length_take] at this
        omega
      refine ⟨_, s6 _ _ eL, by rw [List.length_map]; exact szC (by omega), Z.Same.mut (s4.trans s6) nL, zk ++ [(B, z.2.map (kp al))], by rw [upd_same, List.map_append]; rfl, fun y hy => ?_, ?_⟩
      · rcases List.mem_append.mp hy with hy | hy
        · obtain ⟨h1, h2⟩ := hz y hy
          exact ⟨by rw [upd_ne h2]; exact s6 _ _ h1, h2⟩
        · rw [List.mem_singleton.mp hy]
          refine ⟨?_, nBL⟩
          rw [upd_ne nBL, eB, List.map_map]
          rfl
      · unfold tb at ek ⊢
        rw [List.map_append, ek, tk]
        unfold kpT
        rw [List.map_append]
        rfl
    rintro J' ⟨s4, zk, eL, hz, ek⟩
    rw [List.take_of_length_le (by omega)] at ek
    have hTk : Tb true true K J' L zk := ⟨SqL.of eL, fun z m => SqL.of (hz z m).1⟩
    have nLH := none_of s3 nL
    have s3' := s3.trans s4
    walk_at "go"
    refine ⟨a, _, rfl, sqk_or (Z.Same.sqK s3' hT.sq), ?_⟩
    rw [List.length_map, ← hn']
    walk_at "go"
    have nil : ∀ (zs0 : zs = [] ∨ ¬ La T (inG gs) 0) (B : Addr), J' B = none → Q (.ref B) (upd J' B (.lst [])) := fun zs0 B nB =>
      qq B [] _ (s3'.trans (same_new nB)) (none_of s3' nB) ⟨SqL.of upd_same, fun z m => absurd m (by simp)⟩ (.inl ⟨rfl, zs0⟩)
    by_cases n0 : n = 0
    · rw [decide_eq_false (show ¬ (0 : Int) < (n : Int) by omega)]
      walk_at "go"
      exact nil (.inl (List.length_eq_zero_iff.mp (by omega)))
    · have n1 : 0 < n := by omega
      rw [decide_eq_true (show (0 : Int) < (n : Int) by omega)]
      walk_at "go"
      refine ⟨A0, _, _, _, rfl, rfl, SqL.of (s4 _ _ eA), bls_at (i := 0) n1, ?_⟩
      cases e1 : al 0
      · walk_at "go"
        exact nil (.inr fun l => by rw [(hal 0 n1).mpr l] at e1; cases e1)
      · walk_at "go"
        refine qq L zk J' s3' nLH hTk (.inr ⟨n1, (hal 0 n1).mp e1, ?_⟩)
        rw [ek]
        exact kpa_of wf (by rw [lT]; exact hal)
end
end Z
set_option pp.maxSteps 700
set_option Elab.async false
set_option linter.all false
set_option maxRecDepth 100000
set_option maxHeartbeats 4000000
open SX (S S_inj S_len S_cat)
namespace Z
open Mc
open PySem PySem.Spec PyProof.Rows L2
open C8 (pss_cut tCut)
local macro_rules | `(tactic| walk_at "num") => `(tactic| first | rfl | omega | decide | exact Nat.le_of_lt (small1000 (by simp)) | exact ⟨by omega, by omega⟩ | exact ⟨by omega, by omega, by omega⟩ | exact ⟨by decide, by decide, by decide⟩ | exact Or.inl ⟨by omega, by omega⟩ | exact Or.inr ⟨by omega, by omega⟩)
local macro_rules | `(tactic| walk_at "go") => `(tactic| repeat (first | refine ⟨_, rfl, ?_⟩ | refine ⟨_, _, rfl, rfl, ?_⟩ | refine ⟨_, _, rfl, ?_⟩ | (refine ⟨_, _, rfl, rfl, ?_, ?_⟩; focus walk_at "num") | refine Or.inl ⟨_, rfl, ?_⟩ | refine ⟨_, _, _, _, rfl, rfl, (by assumption), (by rfl), ?_⟩ | refine ⟨_, _, _, _, _, rfl, (by assumption), (by assumption), (by assumption), (by rfl), ?_⟩ | refine ⟨rfl, ?_⟩ | (refine And.intro ?_ ?_; focus walk_at "num")))
abbrev s_Machine_beginnings : Stmt := inClass (topS 41) 15
abbrev N_Machine_beginnings : List Str := ["self"]
abbrev P_Machine_beginnings : List Str := ["self"]
theorem sc_Machine_beginnings : FnScope N_Machine_beginnings P_Machine_beginnings (defScope s_Machine_beginnings) := ⟨rfl, rfl, rfl, by decide +kernel, rfl, by decide +kernel, by decide +kernel⟩
abbrev s_Machine_unending : Stmt := inClass (topS 41) 16
abbrev N_Machine_unending : List Str := ["self"]
abbrev P_Machine_unending : List Str := ["self"]
theorem sc_Machine_unending : FnScope N_Machine_unending P_Machine_unending (defScope s_Machine_unending) := ⟨rfl, rfl, rfl, by decide +kernel, rfl, by decide +kernel, by decide +kernel⟩
section
variable {P : Program} {w : World} {K : PySem.W.Frag} {mg : Str → Option Value} {base : Heap} {f C : Addr} {fd : FuncData}
theorem McL.le {H : Hp} {n : Addr} {l : List Nat} {sz sz' : Nat} {L : Lg} (e : sz ≤ sz') (h : McL C K H n l sz L) : McL C K H n l sz' L := by
  obtain ⟨R, g, T, G, h1, h2, hz, h3⟩ := h.ex
  exact ⟨R, g, T, G, h1, h2, Nat.le_trans hz e, h3⟩
def spMe (op : Lg → Lg) (C : Addr) (K : PySem.W.Frag) : Sp := fun vs H Q _ => ∃ (n : Addr) (l : List Nat) (sz : Nat) (L : Lg), vs = [.ref n] ∧ McL C K H n l sz L ∧ l.Nodup ∧ l ≠ [] ∧ l.length ≤ 1000 ∧ sz ≤ 1000 ∧ ∀ (n' : Addr) H', Same H H' → H n' = none → McL C K H' n' l sz (op L) → Q (.ref n') H'
theorem all_good {R : Tbl} {m : Nat} (wf : Wf R m) (w : List Nat) : AccS R (inG (List.range R.length)) w ↔ ∃ t, rn R (Mc.st R) w = some t :=
  ⟨fun ⟨t, e, _⟩ => ⟨t, e⟩, fun ⟨t, e⟩ => ⟨t, e, List.mem_range.mpr (rn_lt wf (st_lt' R) e)⟩⟩
theorem ok_beginnings (F : FnM K "beginnings" "Machine.beginnings" s_Machine_beginnings f fd) (cls : Cls K C) (n_letters : NoAttr K C "letters") (n_rows : NoAttr K C "rows") (kd_Machine : MakD P w K mg base 4 "Machine" [.non] (spL2 C K)) : FnOk P w K mg base CX0 6 f fd P_Machine_beginnings (spMe BeL C K) := by
  refine F.ok sc_Machine_beginnings (fun vs H Q E h => ?_) (fun cdv A outer s H vs Q E hr h => ?_)
  · obtain ⟨n, l, sz, L, rfl, _⟩ := h
    rfl
  · obtain ⟨n, l, sz, L, rfl, hM, nd, ne, ll, lz, q⟩ := h
    obtain ⟨R, g, hA, hsz, wf, gR, lv, hL⟩ := hM.at_
    obtain ⟨dx, r, u, zr, hn, hR, hu, rfl⟩ := hA.ex
    refine ⟨_, PSs.nox (pss_one (ps_ret (pe_mkD kd_Machine hr (by decide) (by rfl) (pa_cons (pe_fld (pv 0) rfl) (pa_cons (pe_fld (pv 0) rfl) pa_nil))))), ?_⟩
    have lzr : (tb zr).length = zr.length := List.length_map ..
    walk_at "go"
    refine ⟨false, false, r, l, zr, rfl, nd, ne, ll, hR, wf, by omega, fun n' H' s1 nn hM' => ?_⟩
    refine q n' H' s1 nn ((hM'.le (by omega)).congr fun w => ?_)
    rw [← lzr, all_good wf, BeL.congr fun w => (hL w).symm, bel_iff]
    exact ⟨fun ⟨t, e⟩ => ⟨t, e, lv t (rn_lt wf (st_lt' _) e)⟩, fun ⟨t, e, _⟩ => ⟨t, e⟩⟩
theorem ok_unending (F : FnM K "unending" "Machine.unending" s_Machine_unending f fd) (cls : Cls K C) (n_letters : NoAttr K C "letters") (n_rows : NoAttr K C "rows") (n_good : NoAttr K C "good") (c_unending_rows : Cal P w K mg base 2 "unending_rows" (spUnr K)) (kd_Machine : MakD P w K mg base 4 "Machine" [.non] (spL2 C K)) : FnOk P w K mg base CX0 6 f fd P_Machine_unending (spMe UnL C K) := by
  refine F.ok sc_Machine_unending (fun vs H Q E h => ?_) (fun cdv A outer s H vs Q E hr h => ?_)
  · obtain ⟨n, l, sz, L, rfl, _⟩ := h
    rfl
  · obtain ⟨n, l, sz, L, rfl, hM, nd, ne, ll, lz, q⟩ := h
    obtain ⟨R, g, hA, hsz, wf, gR, lv, hL⟩ := hM.at_
    obtain ⟨dx, r, u, zr, hn, hR, hu, rfl⟩ := hA.ex
    refine ⟨_, PSs.nox (pss_one (ps_ret (pe_mkD kd_Machine hr (by decide) (by rfl) (pa_cons (pe_fld (pv 0) rfl) (pa_cons (pe_cl c_unending_rows hr (by decide) (by rfl) (pa_cons (pe_fld (pv 0) rfl) (pa_cons (pe_fld (pv 0) rfl) pa_nil))) pa_nil))))), ?_⟩
    have lzr : (tb zr).length = zr.length := List.length_map ..
    walk_at "go"
    refine ⟨false, false, false, l.length, r, u, zr, g, rfl, hR, wf, ll, by omega, SqT.of hu, by rw [← lzr]; exact gR, fun L0 zk H1 s1 nL hK hor => ?_⟩
    have hz : Wf (tb zk) l.length ∧ zk.length ≤ sz ∧ ∀ w, AccS (tb zk) (inG (List.range zk.length)) w ↔ UnL (AccS (tb zr) (inG g)) w := by
      rcases hor with ⟨rfl, h0⟩ | ⟨h0, l0, kp⟩
      · refine ⟨⟨fun r m => absurd m (by simp [Z.tb]), fun r m => absurd m (by simp [Z.tb])⟩, Nat.zero_le _, fun w => ⟨fun ⟨t, e, _⟩ => (by rw [show Mc.st (tb []) = none from rfl, rn_none] at e; cases e), fun h => absurd h (unl_empty (h0.imp (fun e => by rw [e]; rfl) id) w)⟩⟩
      · have lk : (tb zk).length = zk.length := List.length_map ..
        have := kp.len
        refine ⟨kp.wf, by omega, fun w => ?_⟩
        rw [unl_iff, ← lk]
        exact kp.acc (by omega) l0 w
    walk_at "go"
    refine ⟨true, true, L0, l, zk, rfl, nd, ne, ll, hK, hz.1, by omega, fun n' H' s2 nn hM' => ?_⟩
    exact q n' H' (s1.trans s2) (none_of s1 nn) ((hM'.le hz.2.1).congr fun w => (hz.2.2 w).trans (UnL.congr hL w))
end
end Z
set_option pp.maxSteps 700
set_option Elab.async false
set_option linter.all false
set_option maxRecDepth 100000
set_option maxHeartbeats 4000000
open SX (S S_inj S_len S_cat)
namespace Z
open Mc
open PySem PySem.Spec PyProof.Rows L2
open C8 (pss_cut tCut)
local macro_rules | `(tactic| walk_at "num") => `(tactic| first | rfl | omega | decide | exact Nat.le_of_lt (small1000 (by simp)) | exact ⟨by omega, by omega⟩ | exact ⟨by omega, by omega, by omega⟩ | exact ⟨by decide, by decide, by decide⟩ | exact Or.inl ⟨by omega, by omega⟩ | exact Or.inr ⟨by omega, by omega⟩)
local macro_rules | `(tactic| walk_at "go") => `(tactic| repeat (first | refine ⟨_, rfl, ?_⟩ | refine ⟨_, _, rfl, rfl, ?_⟩ | refine ⟨_, _, rfl, ?_⟩ | (refine ⟨_, _, rfl, rfl, ?_, ?_⟩; focus walk_at "num") | refine Or.inl ⟨_, rfl, ?_⟩ | refine ⟨_, _, _, _, rfl, rfl, (by assumption), (by rfl), ?_⟩ | refine ⟨_, _, _, _, _, rfl, (by assumption), (by assumption), (by assumption), (by rfl), ?_⟩ | refine ⟨rfl, ?_⟩ | (refine And.intro ?_ ?_; focus walk_at "num")))
abbrev s_rule : Stmt := topS 70
abbrev N_rule : List Str := ["_law_rows", "_law_good_here", "_law_row_here"]
abbrev P_rule : List Str := ["_law_rows", "_law_good_here"]
theorem sc_rule : FnScope N_rule P_rule (defScope s_rule) := ⟨rfl, rfl, rfl, by decide +kernel, rfl, by decide +kernel, by decide +kernel⟩
abbrev s_goes_on : Stmt := topS 71
abbrev N_goes_on : List Str := ["_law_row_here", "_law_alive", "_law_entry"]
abbrev P_goes_on : List Str := ["_law_row_here", "_law_alive"]
theorem sc_goes_on : FnScope N_goes_on P_goes_on (defScope s_goes_on) := ⟨rfl, rfl, rfl, by decide +kernel, rfl, by decide +kernel, by decide +kernel⟩
abbrev s_kept : Stmt := topS 72
abbrev N_kept : List Str := ["_law_row_here", "_law_alive", "_law_entry"]
abbrev P_kept : List Str := ["_law_row_here", "_law_alive"]
theorem sc_kept : FnScope N_kept P_kept (defScope s_kept) := ⟨rfl, rfl, rfl, by decide +kernel, rfl, by decide +kernel, by decide +kernel⟩
abbrev s_unending : Stmt := topS 73
abbrev N_unending : List Str := ["_law_rows", "_law_good_here", "_law_state", "_law_alive", "_law_turn"]
abbrev P_unending : List Str := ["_law_rows", "_law_good_here"]
theorem sc_unending : FnScope N_unending P_unending (defScope s_unending) := ⟨rfl, rfl, rfl, by decide +kernel, rfl, by decide +kernel, by decide +kernel⟩
abbrev LT : List Nat := [98, 102, 115, 110]
theorem bfsn : Str.ofString "bfsn" = S LT := by decide +kernel
theorem row_of {T : Tbl} {zs : List (Addr × List (Option Nat))} (e : T = tb zs) {s : Nat} (hs : s < zs.length) : ∃ z, zs[s]? = some z ∧ T.getD s [] = z.2 := by
  refine ⟨zs[s], List.getElem?_eq_getElem hs, ?_⟩
  rw [e, List.getD_eq_getElem?_getD]
  unfold tb
  rw [List.getElem?_map, List.getElem?_eq_getElem hs]
  rfl
theorem flt_pos {kb : Nat → Bool} {g : Nat → V} {n : Nat} : 0 < (fltL kb g n).length ↔ ∃ k, k < n ∧ kb k = true := by
  unfold fltL
  rw [List.length_map]
  constructor
  · intro h
    obtain ⟨k, hk⟩ := List.exists_mem_of_length_pos h
    obtain ⟨a, b⟩ := List.mem_filter.mp hk
    exact ⟨k, List.mem_range.mp a, b⟩
  · rintro ⟨k, a, b⟩
    exact List.length_pos_of_mem (List.mem_filter.mpr ⟨List.mem_range.mpr a, b⟩)
section
variable {P : Program} {w : World} {K : PySem.W.Frag} {mg : Str → Option Value} {base : Heap} {f C : Addr} {fd : FuncData}
/-- a comprehension over a range whose element is a new list for each k -/
theorem lc_rowsG {n : Nat} (f : Nat → List (Option Nat)) {D : Addr} {H0 : Hp} {i : Nat} {te : TE} {vs : List Nat} {σ : L2.St} {Qd : Hp → Prop} (hn : n ≤ 1000000) (nD : H0 D = none) (hw : ∀ k : Nat, wipe ((wipe σ vs).set i (some (.int ((k : Nat) : Int)))) vs = wipe σ vs)
    (ht : ∀ (k : Nat) J (Q : VK), k < n → Same H0 J → (∀ l J', Same J J' → J l = none → J' l = some (.lst ((f k).map eV)) → Q (.ref l) J') → te ((wipe σ vs).set i (some (.int ((k : Nat) : Int)))) J Q)
    (hd : ∀ J (zs : List (Addr × List (Option Nat))), Same H0 J → TbR J D zs → tb zs = (List.range n).map f → Qd J) : lcW (Itr 0 ((n : Int)).toNat) (gName i) tYes te vs σ D Qd H0 := by
  refine lc_gen (n := n) (fun k J => Same H0 J ∧ ∃ zs : List (Addr × List (Option Nat)), TbR J D zs ∧ (∀ z ∈ zs, z.1 ≠ D) ∧ tb zs = (List.range k).map f) ⟨same_new nD, [], ⟨upd_same, fun z m => absurd m (by simp)⟩, fun z m => absurd m (by simp), rfl⟩ ?_ ?_ ?_ ?_
  · intro k J hk _
    show k < ((n : Int)).toNat
    omega
  · intro J _
    show ((n : Int)).toNat ≤ n
    omega
  · rintro k J x J' hk ⟨s1, zs, tr, nz, et⟩ ⟨rfl, rfl⟩
    rw [show (0 : Int) + (k : Int) = (k : Int) by omega]
    refine ⟨hw k, ?_⟩
    dsimp only [tYes]
    rw [if_pos rfl]
    refine ht k J' _ hk s1 fun l J2 s2 nl el => ?_
    have lD : D ≠ l := ne_of_none tr.sq nl
    have lz : zs.length = k := by
      have := congrArg List.length et
      unfold tb at this
      rwa [List.length_map, List.length_map, List.length_range] at this
    have tr2 := tr.mono s2
    refine ⟨_, tr2.sq, by rw [List.length_map, lz]; exact szC (by omega), Z.Same.mut (s1.trans s2) nD, zs ++ [(l, f k)], ⟨by rw [upd_same, List.map_append]; rfl, fun z h => ?_⟩, fun z h => ?_, ?_⟩
    · rcases List.mem_append.mp h with h | h
      · rw [upd_ne (nz z h)]
        exact tr2.at_ z h
      · rw [List.mem_singleton.mp h, upd_ne lD.symm]
        exact el
    · rcases List.mem_append.mp h with h | h
      · exact nz z h
      · rw [List.mem_singleton.mp h]
        exact lD.symm
    · unfold tb at et ⊢
      rw [List.map_append, et, List.range_succ, List.map_append]
      rfl
  · rintro J ⟨s1, zs, tr, nz, et⟩
    exact hd J zs s1 tr et
def spRul (C : Addr) (K : PySem.W.Frag) : Sp := fun vs H Q _ => ∃ (A : Addr) (gv : V) (zs : List (Addr × List (Option Nat))) (gs : List Nat), vs = [.ref A, gv] ∧ TbR H A zs ∧ Wf (tb zs) 4 ∧ zs.length ≤ 12 ∧ GoL H zs.length gv gs ∧ ∀ (n : Addr) H', Same H H' → H n = none → McL C K H' n LT zs.length (AccS (tb zs) (inG gs)) → Q (.ref n) H'
theorem ok_rule (F : FnP K "_law_rule" s_rule f fd) (m_list : mg "list" = none) (k_Machine : Mak P w K mg base 4 "Machine" (spL3 C K)) (kd_Machine : MakD P w K mg base 4 "Machine" [.non] (spL2 C K)) : FnOk P w K mg base CX0 6 f fd P_rule (spRul C K) := by
  refine F.ok sc_rule (fun vs H Q E h => ?_) (fun cdv A outer s H vs Q E hr h => ?_)
  · obtain ⟨a, gv, zs, gs, rfl, _⟩ := h
    rfl
  · obtain ⟨a, gv, zs, gs, rfl, tr, wf, lz, hG, q⟩ := h
    refine ⟨_, PSs.nox (pss_cons (ps_if (pt_cmpR op_isN (pv 1) pe_non (nomark _)) (pss_one (ps_ret (pe_mkD kd_Machine hr (by decide) (by rfl) (pa_cons pe_str (pa_cons (pe_lc (own := [("_law_row_here", 2)]) (g := (gName 2)) (tt := tYes) (by rfl) sc_rule.nd (pi_list (pv 0)) (blkOk_by (own := [("_law_row_here", 2)]) (N := N_rule) (sc := defScope s_rule) (by decide +kernel)) (fun _ _ _ _ _ => (pg_name (i := 2) sc_rule.nd rfl (by first | exact .inl rfl | exact .inr rfl))) (fun _ _ _ _ _ => pts_nil) (fun _ _ _ _ _ => (pe_callTy (call_list_of_K (K := K) rfl) (by rfl) m_list (by decide +kernel) (pa_cons (pv 2) pa_nil)))) pa_nil))))) pss_nil)
      (pss_one (ps_ret (pe_mk k_Machine hr (by decide) (by rfl) (pa_cons pe_str (pa_cons (pe_lc (own := [("_law_row_here", 2)]) (g := (gName 2)) (tt := tYes) (by rfl) sc_rule.nd (pi_list (pv 0)) (blkOk_by (own := [("_law_row_here", 2)]) (N := N_rule) (sc := defScope s_rule) (by decide +kernel)) (fun _ _ _ _ _ => (pg_name (i := 2) sc_rule.nd rfl (by first | exact .inl rfl | exact .inr rfl))) (fun _ _ _ _ _ => pts_nil) (fun _ _ _ _ _ => (pe_callTy (call_list_of_K (K := K) rfl) (by rfl) m_list (by decide +kernel) (pa_cons (pv 2) pa_nil)))) (pa_cons (pe_callTy call_list_of (by rfl) m_list (by decide +kernel) (pa_cons (pv 1) pa_nil)) pa_nil))))))), ?_⟩
    have ndL : LT.Nodup := by decide
    have lt_of : ∀ {hs : List (Addr × List (Option Nat))}, tb hs = tb zs → hs.length = zs.length := fun e => by
      have := congrArg List.length e
      unfold Z.tb at this
      rwa [List.length_map, List.length_map] at this
    obtain ⟨h1, h2, h3⟩ := hG
    rcases h1 with ⟨rfl, rfl⟩ | ⟨g, rfl, eg⟩
    · walk_at "go"
      refine ⟨⟨_, SqL.of tr.sq⟩, ?_⟩
      intro D nD
      refine lc_rows (c := true) (tr.tb (K := K)) (by omega) nD (fun _ => rfl) (fun x r J Q2 s5 mr hx q2 => ?_) (fun J hs s5 eh he hb => ?_)
      · walk_at "go"
        exact ⟨x, _, rfl, .inl hx, q2⟩
      walk_at "go"
      refine ⟨true, true, D, LT, hs, by rw [bfsn]; rfl, ndL, by decide, by decide, ⟨SqL.of eh, fun z m => SqL.of (hb z m).1⟩, by rw [he]; exact wf, by rw [lt_of he]; omega, fun n H' s6 nn hM => ?_⟩
      rw [he, lt_of he] at hM
      exact q n H' (s5.trans s6) (none_of s5 nn) hM
    · walk_at "go"
      refine ⟨⟨_, SqL.of tr.sq⟩, ?_⟩
      intro D nD
      refine lc_rows (c := true) (tr.tb (K := K)) (by omega) nD (fun _ => rfl) (fun x r J Q2 s5 mr hx q2 => ?_) (fun J hs s5 eh he hb => ?_)
      · walk_at "go"
        exact ⟨x, _, rfl, .inl hx, q2⟩
      walk_at "go"
      refine ⟨g, _, rfl, .inl (SqL.of (s5 _ _ eg)), ?_⟩
      intro E1 n1
      have s6 := same_new (o := .lst (gsq gs)) n1
      have e1 : (upd J E1 (.lst (gsq gs))) E1 = some (.lst (gsq gs)) := upd_same
      generalize upd J E1 (.lst (gsq gs)) = J1 at s6 e1
      walk_at "go"
      refine ⟨true, true, D, LT, .ref E1, hs, gs, by rw [bfsn]; rfl, ndL, by decide, by decide, ⟨SqL.of (s6 _ _ eh), fun z m => SqL.of (s6 _ _ (hb z m).1)⟩, by rw [he]; exact wf, by rw [lt_of he]; omega, ⟨.inr ⟨true, E1, rfl, SqL.of e1⟩, by rw [lt_of he]; exact h2⟩, fun n H' s7 nn hM => ?_⟩
      rw [he, lt_of he] at hM
      exact q n H' (s5.trans (s6.trans s7)) (none_of (s5.trans s6) nn) hM
def spGo (K : PySem.W.Frag) : Sp := fun vs H Q _ => ∃ (n : Nat) (r L : Addr) (row : List (Option Nat)) (al : Nat → Bool), vs = [.ref r, .ref L] ∧ SqL K H r (row.map eV) ∧ row.length ≤ 100 ∧ (∀ e, some e ∈ row → e < n) ∧ H L = some (.lst (bls n al)) ∧ ∀ H', Same H H' → Q (.bl (row.any (elB al))) H'
theorem ok_goes_on (F : FnP K "_law_goes_on" s_goes_on f fd) (m_len : mg "len" = none) : FnOk P w K mg base CX0 1 f fd P_goes_on (spGo K) := by
  refine F.ok sc_goes_on (fun vs H Q E h => ?_) (fun cdv A outer s H vs Q E hr h => ?_)
  · obtain ⟨n, r, L, row, al, rfl, _⟩ := h
    rfl
  · obtain ⟨n, r, L, row, al, rfl, hr0, lr, hent, eL, q⟩ := h
    refine ⟨_, PSs.nox (pss_one (ps_ret (pe_cmpR op_gt (pe_callB call_len_seq (by rfl) m_len PySem.boot_len (pa_cons (pe_lc (own := [("_law_entry", 2)]) (g := (gName 2)) (by rfl) sc_goes_on.nd (pi_list (pv 0)) (blkOk_by (own := [("_law_entry", 2)]) (N := N_goes_on) (sc := defScope s_goes_on) (by decide +kernel)) (fun _ _ _ _ _ => (pg_name (i := 2) sc_goes_on.nd rfl (by first | exact .inl rfl | exact .inr rfl))) (fun _ _ _ _ _ => (pts_one (PW.pt (pw_and (pt_cmpR op_notN (pv 2) pe_non (nomark _)) (pw_and1 (pt_val (pe_ix (ix_list_K (K := K) rfl) (pv 1) (pv 2) (fun _ _ => rfl)))))))) (fun _ _ _ _ _ => (pv 2))) pa_nil)) pe_int (nomark _)))), ?_⟩
    walk_at "go"
    refine ⟨⟨_, hr0⟩, ?_⟩
    intro B nB
    refine lc_flt (n := row.length) (fun i => eV (row.getD i none)) (fun i => elB al (row.getD i none)) (fun i => eV (row.getD i none)) (by omega) nB (fun i J3 hi s6 => ⟨_, _, s6.seq hr0, row_at (by omega)⟩) (fun J3 s6 => ⟨_, s6.seq hr0, by rw [List.length_map]; omega⟩) (fun i J3 x J4 hi s6 y => ?_) (fun i => rfl) (fun i J3 Q1 hi s6 q1 => ?_) (fun i J3 Q1 hi _ s6 q1 => ?_) (fun J3 s6 eB => ?_)
    · obtain ⟨rfl, ex⟩ := y
      have ex := ex _ (s6.seq hr0)
      rw [row_at (by omega)] at ex
      cases ex
      exact ⟨Same.refl _, rfl⟩
    · have mi : row.getD i none ∈ row := by
        rw [List.getD_eq_getElem?_getD, List.getElem?_eq_getElem hi]
        exact List.getElem_mem hi
      cases e2 : row.getD i none with
      | none =>
        rw [e2] at q1
        walk_at "go"
        exact q1 _ (Same.refl _)
      | some e =>
        rw [e2] at q1 mi
        have he := hent e mi
        dsimp only [eV]
        walk_at "go"
        exact ⟨L, _, _, _, rfl, rfl, SqL.of (s6 _ _ eL), bls_at he, _, rfl, q1 _ (Same.refl _)⟩
    · walk_at "go"
      exact q1 _ (Same.refl _)
    walk_at "go"
    refine ⟨B, _, rfl, .inl (SqL.of eB), ?_⟩
    walk_at "go"
    have e9 : decide ((0 : Int) < (((fltL (fun i => elB al (row.getD i none)) (fun i => eV (row.getD i none)) row.length).length : Nat) : Int)) = row.any (elB al) := by
      cases c : row.any (elB al) with
      | true =>
        obtain ⟨o, ho, h⟩ := List.any_eq_true.mp c
        obtain ⟨i, hi, e⟩ := List.getElem_of_mem ho
        have := (flt_pos (kb := fun i => elB al (row.getD i none)) (g := fun i => eV (row.getD i none)) (n := row.length)).mpr ⟨i, hi, by rw [List.getD_eq_getElem?_getD, List.getElem?_eq_getElem hi, e]; exact h⟩
        exact decide_eq_true (by omega)
      | false =>
        refine decide_eq_false fun z => ?_
        obtain ⟨i, hi, h⟩ := (flt_pos (kb := fun i => elB al (row.getD i none)) (g := fun i => eV (row.getD i none)) (n := row.length)).mp (by omega)
        rw [List.getD_eq_getElem?_getD, List.getElem?_eq_getElem hi] at h
        rw [List.any_eq_true.mpr ⟨row[i], List.getElem_mem hi, h⟩] at c
        cases c
    dsimp only
    rw [e9]
    exact q _ s6
def spKpt (K : PySem.W.Frag) : Sp := fun vs H Q _ => ∃ (n : Nat) (r L : Addr) (row : List (Option Nat)) (al : Nat → Bool), vs = [.ref r, .ref L] ∧ SqL K H r (row.map eV) ∧ row.length ≤ 100 ∧ (∀ e, some e ∈ row → e < n) ∧ H L = some (.lst (bls n al)) ∧ ∀ (l : Addr) H', Same H H' → H l = none → H' l = some (.lst ((row.map (kp al)).map eV)) → Q (.ref l) H'
theorem ok_kept (F : FnP K "_law_kept" s_kept f fd) : FnOk P w K mg base CX0 1 f fd P_kept (spKpt K) := by
  refine F.ok sc_kept (fun vs H Q E h => ?_) (fun cdv A outer s H vs Q E hr h => ?_)
  · obtain ⟨n, r, L, row, al, rfl, _⟩ := h
    rfl
  · obtain ⟨n, r, L, row, al, rfl, hr0, lr, hent, eL, q⟩ := h
    refine ⟨_, PSs.nox (pss_one (ps_ret (pe_lc (own := [("_law_entry", 2)]) (g := (gName 2)) (tt := tYes) (by rfl) sc_kept.nd (pi_list (pv 0)) (blkOk_by (own := [("_law_entry", 2)]) (N := N_kept) (sc := defScope s_kept) (by decide +kernel)) (fun _ _ _ _ _ => (pg_name (i := 2) sc_kept.nd rfl (by first | exact .inl rfl | exact .inr rfl))) (fun _ _ _ _ _ => pts_nil) (fun _ _ _ _ _ => (pe_ifExp (PW.pt (pw_or (pt_cmpR op_isN (pv 2) pe_non (nomark _)) (pw_or1 (pt_not (pt_val (pe_ix (ix_list_K (K := K) rfl) (pv 1) (pv 2) (fun _ _ => rfl))))))) pe_non (pv 2)))))), ?_⟩
    walk_at "go"
    refine ⟨⟨_, hr0⟩, ?_⟩
    intro B nB
    refine lc_flt (n := row.length) (fun i => eV (row.getD i none)) (fun i => true) (fun i => eV (kp al (row.getD i none))) (by omega) nB (fun i J3 hi s6 => ⟨_, _, s6.seq hr0, row_at (by omega)⟩) (fun J3 s6 => ⟨_, s6.seq hr0, by rw [List.length_map]; omega⟩) (fun i J3 x J4 hi s6 y => ?_) (fun i => rfl) (fun i J3 Q1 hi s6 q1 => q1 _ (Same.refl _)) (fun i J3 Q1 hi _ s6 q1 => ?_) (fun J3 s6 eB => ?_)
    · obtain ⟨rfl, ex⟩ := y
      have ex := ex _ (s6.seq hr0)
      rw [row_at (by omega)] at ex
      cases ex
      exact ⟨Same.refl _, rfl⟩
    · have mi : row.getD i none ∈ row := by
        rw [List.getD_eq_getElem?_getD, List.getElem?_eq_getElem hi]
        exact List.getElem_mem hi
      cases e2 : row.getD i none with
      | none =>
        rw [e2] at q1
        walk_at "go"
        exact q1 _ (Same.refl _)
      | some e =>
        rw [e2] at q1 mi
        have he := hent e mi
        dsimp only [eV]
        walk_at "go"
        refine ⟨L, _, _, _, rfl, rfl, SqL.of (s6 _ _ eL), bls_at he, ?_⟩
        walk_at "go"
        have q1 := q1 _ (Same.refl _)
        cases c : al e with
        | true =>
          rw [show kp al (some e) = some e from kp_some.mpr ⟨rfl, c⟩] at q1
          exact ⟨_, rfl, q1⟩
        | false =>
          rw [show kp al (some e) = none by
            cases h : kp al (some e) with
            | none => rfl
            | some x =>
              have := kp_some.mp h
              obtain ⟨h1, h2⟩ := this
              cases h1
              rw [c] at h2
              cases h2] at q1
          exact q1
    refine q B J3 s6 nB ?_
    rw [eB, fltL_all]
    congr 2
    rw [List.map_map]
    refine List.ext_getElem? fun i => ?_
    rw [List.getElem?_map, List.getElem?_map]
    by_cases hi : i < row.length
    · rw [List.getElem?_range hi, List.getElem?_eq_getElem hi]
      show some (eV (kp al (row.getD i none))) = some (eV (kp al row[i]))
      rw [List.getD_eq_getElem?_getD, List.getElem?_eq_getElem hi]
      rfl
    · rw [List.getElem?_eq_none (by rw [List.length_range]; omega), List.getElem?_eq_none (by omega)]
      rfl
def spUnd (K : PySem.W.Frag) : Sp := fun vs H Q _ => ∃ (A : Addr) (gv : V) (zs : List (Addr × List (Option Nat))) (gs : List Nat), vs = [.ref A, gv] ∧ TbR H A zs ∧ Wf (tb zs) 4 ∧ zs.length ≤ 12 ∧ GoL H zs.length gv gs ∧ ∀ (U : Addr) (zu : List (Addr × List (Option Nat))) H', Same H H' → H U = none → TbR H' U zu → Wf (tb zu) 4 → zu.length ≤ zs.length → (∀ w, AccS (tb zu) (inG (List.range (tb zu).length)) w ↔ UnL (AccS (tb zs) (inG gs)) w) → Q (.ref U) H'
theorem ok_unending_ (F : FnP K "_law_unending" s_unending f fd) (m_len : mg "len" = none) (m_range : mg "range" = none) (c_goes_on : Cal P w K mg base 1 "_law_goes_on" (spGo K)) (c_kept : Cal P w K mg base 1 "_law_kept" (spKpt K)) : FnOk P w K mg base CX0 2 f fd P_unending (spUnd K) := by
  refine F.ok sc_unending (fun vs H Q E h => ?_) (fun cdv A outer s H vs Q E hr h => ?_)
  · obtain ⟨a, gv, zs, gs, rfl, _⟩ := h
    rfl
  · obtain ⟨a, gv, zs, gs, rfl, tr, wf, lz, hG, q⟩ := h
    refine ⟨_, PSs.nox (pss_cons (ps_set (i := 3) sc_unending.nd rfl (by first | exact .inl rfl | exact .inr rfl) (pe_lc (own := [("_law_state", 2)]) (g := (gName 2)) (tt := tYes) (by rfl) sc_unending.nd (pi_range1 (by rfl) m_range (pa_cons (pe_callB call_len_seq (by rfl) m_len PySem.boot_len (pa_cons (pv 0) pa_nil)) pa_nil)) (blkOk_by (own := [("_law_state", 2)]) (N := N_unending) (sc := defScope s_unending) (by decide +kernel)) (fun _ _ _ _ _ => (pg_name (i := 2) sc_unending.nd rfl (by first | exact .inl rfl | exact .inr rfl))) (fun _ _ _ _ _ => pts_nil) (fun _ _ _ _ _ => (pe_or (pe_cmpR op_isN (pv 1) pe_non (nomark _)) (pe_one (pe_cmpR (op_in_seq_K (K := K) rfl) (pv 2) (pv 1) (by rfl)))))))
      (pss_cons (ps_for PassesOwn.never rfl (pi_range1 (by rfl) m_range (pa_cons (pe_callB call_len_seq (by rfl) m_len PySem.boot_len (pa_cons (pv 0) pa_nil)) pa_nil)) (pg_name (i := 4) sc_unending.nd rfl (by first | exact .inl rfl | exact .inr rfl))
        (pss_one (ps_set (i := 3) sc_unending.nd rfl (by first | exact .inl rfl | exact .inr rfl) (pe_lc (own := [("_law_state", 2)]) (g := (gName 2)) (tt := tYes) (by rfl) sc_unending.nd (pi_range1 (by rfl) m_range (pa_cons (pe_callB call_len_seq (by rfl) m_len PySem.boot_len (pa_cons (pv 0) pa_nil)) pa_nil)) (blkOk_by (own := [("_law_state", 2)]) (N := N_unending) (sc := defScope s_unending) (by decide +kernel)) (fun _ _ _ _ _ => (pg_name (i := 2) sc_unending.nd rfl (by first | exact .inl rfl | exact .inr rfl))) (fun _ _ _ _ _ => pts_nil) (fun _ _ _ _ _ => (pe_and (pe_ix (ix_list_K (K := K) rfl) (pv 3) (pv 2) (fun _ _ => rfl)) (pe_one (pe_cl c_goes_on hr (by decide) (by rfl) (pa_cons (pe_ix (ix_list_K (K := K) rfl) (pv 0) (pv 2) (fun _ _ => rfl)) (pa_cons (pv 3) pa_nil))))))))))
      (pss_cons (ps_if (PW.pt (pw_or (pt_cmpR op_eq (pe_callB call_len_seq (by rfl) m_len PySem.boot_len (pa_cons (pv 0) pa_nil)) pe_int (nomark _)) (pw_or1 (pt_not (pt_val (pe_ix ix_list (pv 3) pe_int (fun _ _ => rfl))))))) (pss_one (ps_ret (pe_lst pa_nil))) pss_nil)
      (pss_one (ps_ret (pe_lc (own := [("_law_state", 2)]) (g := (gName 2)) (tt := tYes) (by rfl) sc_unending.nd (pi_range1 (by rfl) m_range (pa_cons (pe_callB call_len_seq (by rfl) m_len PySem.boot_len (pa_cons (pv 0) pa_nil)) pa_nil)) (blkOk_by (own := [("_law_state", 2)]) (N := N_unending) (sc := defScope s_unending) (by decide +kernel)) (fun _ _ _ _ _ => (pg_name (i := 2) sc_unending.nd rfl (by first | exact .inl rfl | exact .inr rfl))) (fun _ _ _ _ _ => pts_nil) (fun _ _ _ _ _ => (pe_ifExp (pt_val (pe_ix (ix_list_K (K := K) rfl) (pv 3) (pv 2) (fun _ _ => rfl))) (pe_cl c_kept hr (by decide) (by rfl) (pa_cons (pe_ix (ix_list_K (K := K) rfl) (pv 0) (pv 2) (fun _ _ => rfl)) (pa_cons (pv 3) pa_nil))) (pe_op op_rep (pe_lst (pa_cons pe_non pa_nil)) pe_int))))))))), ?_⟩
    obtain ⟨T, hT⟩ : ∃ T, T = tb zs := ⟨_, rfl⟩
    have lT : T.length = zs.length := by rw [hT]; exact List.length_map ..
    rw [← hT] at wf q
    obtain ⟨hg1, hg2, hg3⟩ := hG
    walk_at "go"
    refine ⟨a, _, rfl, .inl (SqL.of tr.sq), ?_⟩
    rw [List.length_map]
    walk_at "go"
    intro A0 nA
    refine lc_flt (n := zs.length) (fun k => .int ((k : Nat) : Int)) (fun _ => true) (fun k => .bl (decide (k ∈ gs))) (by omega) nA (fun k J hk _ => ?_) (fun J _ => ?_) (fun k J x J2 hk _ y => ?_) (fun k => rfl) (fun k J Q1 _ _ q1 => q1 _ (Same.refl _)) (fun k J Q1 hk _ s2 q1 => ?_) (fun J s1 eA => ?_)
    · show k < ((zs.length : Int)).toNat
      omega
    · show ((zs.length : Int)).toNat ≤ zs.length
      omega
    · obtain ⟨rfl, rfl⟩ := y
      exact ⟨Same.refl _, by rw [show (0 : Int) + (k : Int) = (k : Int) by omega]⟩
    · have q1 := q1 _ (Same.refl _)
      rcases hg1 with ⟨rfl, rfl⟩ | ⟨g, rfl, eg⟩
      · rw [decide_eq_true (List.mem_range.mpr hk)] at q1
        walk_at "go"
        exact q1
      · walk_at "go"
        refine ⟨g, _, rfl, .inl (SqL.of (s2 _ _ eg)), rfl, gsq_flat gs, ?_⟩
        rw [inV_gsq]
        exact q1
    have eA : J A0 = some (.lst (bls zs.length (lsn T (fun k => decide (k ∈ gs)) 0))) := by
      rw [eA, fltL_all]
      rfl
    walk_at "go"
    refine ⟨a, _, rfl, .inl (SqL.of (s1 _ _ tr.sq)), ?_⟩
    rw [List.length_map]
    walk_at "go"
    refine for_gen (n := zs.length) (fun r σ J => Same H J ∧ ∃ (L : Addr) (v2 v4 : Option V), J L = some (.lst (bls zs.length (lsn T (fun k => decide (k ∈ gs)) r))) ∧ σ = [some (.ref a), some gv, v2, some (.ref L), v4]) ⟨s1, A0, none, none, eA, rfl⟩ ?_ ?_ ?_ ?_
    · intro r σ J hk _
      show r < ((zs.length : Int)).toNat
      omega
    · intro σ J _
      show ((zs.length : Int)).toNat ≤ zs.length
      omega
    · rintro r σ J x J' hr2 ⟨s2, L, v2, v4, eL, rfl⟩ ⟨rfl, rfl⟩
      walk_at "go"
      refine ⟨a, _, rfl, .inl (SqL.of (s2 _ _ tr.sq)), ?_⟩
      rw [List.length_map]
      walk_at "go"
      intro B nB
      refine lc_flt (n := zs.length) (fun k => .int ((k : Nat) : Int)) (fun _ => true) (fun k => .bl (lsn T (fun k => decide (k ∈ gs)) (r + 1) k)) (by omega) nB (fun k J hk _ => ?_) (fun J _ => ?_) (fun k J x J2 hk _ y => ?_) (fun k => rfl) (fun k J Q1 _ _ q1 => q1 _ (Same.refl _)) (fun k J Q1 hk _ s3 q1 => ?_) (fun J s3 eB => ?_)
      · show k < ((zs.length : Int)).toNat
        omega
      · show ((zs.length : Int)).toNat ≤ zs.length
        omega
      · obtain ⟨rfl, rfl⟩ := y
        exact ⟨Same.refl _, by rw [show (0 : Int) + (k : Int) = (k : Int) by omega]⟩
      · walk_at "go"
        refine ⟨L, _, _, _, rfl, rfl, SqL.of (s3 _ _ eL), bls_at hk, ?_⟩
        obtain ⟨z, ez, eT⟩ := row_of hT hk
        have mz : z.2 ∈ T := by rw [hT]; exact List.mem_map.mpr ⟨z, List.mem_of_getElem? ez, rfl⟩
        have ed : lsn T (fun k => decide (k ∈ gs)) (r + 1) k = (lsn T (fun k => decide (k ∈ gs)) r k && z.2.any (elB (lsn T (fun k => decide (k ∈ gs)) r))) := by
          show lst T _ k = _
          unfold lst
          rw [eT]
          congr 2
        rw [ed] at q1
        cases c : lsn T (fun k => decide (k ∈ gs)) r k with
        | false =>
          rw [c] at q1
          exact ⟨_, rfl, q1 _ (Same.refl _)⟩
        | true =>
          rw [c] at q1
          walk_at "go"
          refine ⟨a, _, _, _, rfl, rfl, SqL.of ((s2.trans s3) _ _ tr.sq), atI_nat (v := .ref z.1) (by rw [List.getElem?_map, ez]; rfl), ?_⟩
          walk_at "go"
          refine ⟨zs.length, z.1, L, z.2, _, rfl, (s2.trans s3).seq (SqL.of (tr.at_ z (List.mem_of_getElem? ez))), by rw [wf.row _ mz]; decide, fun e he => by rw [← lT]; exact wf.ent _ mz e he, s3 _ _ eL, fun J4 s4 => ?_⟩
          exact q1 _ s4
      have eB : J B = some (.lst (bls zs.length (lsn T (fun k => decide (k ∈ gs)) (r + 1)))) := by
        rw [eB, fltL_all]
        rfl
      walk_at "go"
      exact ⟨s2.trans s3, B, _, _, eB, rfl⟩
    · rintro σ J ⟨s2, L, v2, v4, eL, rfl⟩
      obtain ⟨al, hal⟩ : ∃ al, al = lsn T (fun k => decide (k ∈ gs)) T.length := ⟨_, rfl⟩
      rw [← lT, ← hal, lT] at eL
      have ha : ∀ s, s < T.length → (al s = true ↔ La T (inG gs) s) := fun s hs => by
        rw [hal]
        exact lsn_la wf (fun s h => by rw [lT]; exact hg2 s (of_decide_eq_true h)) (fun s _ => decide_eq_true_iff) hs
      clear hal
      have none_ : (zs.length = 0 ∨ ¬ La T (inG gs) 0) → ∀ U, J U = none → Q (.ref U) (upd J U (.lst [])) := fun h U nU =>
        q U [] _ (s2.trans (same_new nU)) (none_of s2 nU) ⟨upd_same, fun z m => absurd m (by simp)⟩ ⟨fun r m => absurd m (by simp [Z.tb]), fun r m => absurd m (by simp [Z.tb])⟩ (Nat.zero_le _) (fun w => un_none (h.imp (fun e => by rw [lT]; exact e) id) w)
      walk_at "go"
      refine ⟨a, _, rfl, .inl (SqL.of (s2 _ _ tr.sq)), ?_⟩
      rw [List.length_map]
      walk_at "go"
      by_cases c0 : zs.length = 0
      · rw [decide_eq_true (show V.int (zs.length : Int) = V.int 0 by rw [c0]; rfl)]
        walk_at "go"
        exact none_ (.inl c0)
      rw [decide_eq_false (show ¬ V.int (zs.length : Int) = V.int 0 from fun z => by injection z with z; omega)]
      walk_at "go"
      refine ⟨L, _, _, _, rfl, rfl, SqL.of eL, bls_at (i := 0) (by omega), ?_⟩
      cases e0 : al 0 with
      | false =>
        walk_at "go"
        exact none_ (.inr fun z => by rw [(ha 0 (by omega)).mpr z] at e0; cases e0)
      | true =>
        walk_at "go"
        refine ⟨a, _, rfl, .inl (SqL.of (s2 _ _ tr.sq)), ?_⟩
        rw [List.length_map]
        walk_at "go"
        intro D nD
        refine lc_rowsG (n := zs.length) (fun s => if al s = true then (T.getD s []).map (kp al) else List.replicate 4 none) (by omega) nD (fun k => rfl) (fun k J2 Q2 hk s3 q2 => ?_) (fun J2 zu s3 tr2 et2 => ?_)
        · walk_at "go"
          refine ⟨L, _, _, _, rfl, rfl, SqL.of (s3 _ _ eL), bls_at hk, ?_⟩
          obtain ⟨z, ez, eT⟩ := row_of hT hk
          have mz : z.2 ∈ T := by rw [hT]; exact List.mem_map.mpr ⟨z, List.mem_of_getElem? ez, rfl⟩
          cases c : al k with
          | true =>
            rw [if_pos c, eT] at q2
            walk_at "go"
            refine ⟨a, _, _, _, rfl, rfl, SqL.of ((s2.trans s3) _ _ tr.sq), atI_nat (v := .ref z.1) (by rw [List.getElem?_map, ez]; rfl), ?_⟩
            walk_at "go"
            exact ⟨zs.length, z.1, L, z.2, _, rfl, (s2.trans s3).seq (SqL.of (tr.at_ z (List.mem_of_getElem? ez))), by rw [wf.row _ mz]; decide, fun e he => by rw [← lT]; exact wf.ent _ mz e he, s3 _ _ eL, fun l J4 s4 nl el => q2 l J4 s4 nl el⟩
          | false =>
            rw [if_neg (by rw [c]; exact Bool.false_ne_true)] at q2
            walk_at "go"
            intro l1 n1
            have s4 := same_new (o := .lst [.non]) n1
            have e1 : (upd J2 l1 (.lst [.non])) l1 = some (.lst [.non]) := upd_same
            generalize upd J2 l1 (.lst [.non]) = J4 at s4 e1
            walk_at "go"
            refine ⟨l1, _, _, rfl, rfl, e1, by decide, by decide, by decide, ?_⟩
            intro l2 n2
            exact q2 l2 _ (s4.trans (same_new n2)) (none_of s4 n2) upd_same
        · have eU : tb zu = unT T al := by rw [et2]; unfold unT; rw [lT]
          have lU : zu.length = zs.length := by
            have := congrArg List.length eU
            rw [unT_len] at this
            unfold Z.tb at this
            rw [List.length_map] at this
            omega
          refine q D zu J2 (s2.trans s3) (none_of s2 nD) tr2 (by rw [eU]; exact unT_wf wf) (by omega) fun w => ?_
          rw [eU]
          exact unT_acc wf (by omega) ha e0 w
end
end Z
set_option pp.maxSteps 700
set_option Elab.async false
set_option linter.all false
set_option maxRecDepth 100000
set_option maxHeartbeats 4000000
open SX (S S_inj S_len S_cat)
namespace Z
open Mc
open PySem PySem.Spec PyProof.Rows L2
open C8 (pss_cut tCut)
local macro_rules | `(tactic| walk_at "num") => `(tactic| first | rfl | omega | decide | exact Nat.le_of_lt (small1000 (by simp)) | exact ⟨by omega, by omega⟩ | exact ⟨by omega, by omega, by omega⟩ | exact ⟨by decide, by decide, by decide⟩ | exact Or.inl ⟨by omega, by omega⟩ | exact Or.inr ⟨by omega, by omega⟩)
local macro_rules | `(tactic| walk_at "go") => `(tactic| repeat (first | refine ⟨_, rfl, ?_⟩ | refine ⟨_, _, rfl, rfl, ?_⟩ | refine ⟨_, _, rfl, ?_⟩ | (refine ⟨_, _, rfl, rfl, ?_, ?_⟩; focus walk_at "num") | refine Or.inl ⟨_, rfl, ?_⟩ | refine ⟨_, _, _, _, rfl, rfl, (by assumption), (by rfl), ?_⟩ | refine ⟨_, _, _, _, _, rfl, (by assumption), (by assumption), (by assumption), (by rfl), ?_⟩ | refine ⟨rfl, ?_⟩ | (refine And.intro ?_ ?_; focus walk_at "num")))
abbrev s_mark : Stmt := topS 74
abbrev N_mark : List Str := ["_law_row_here", "_law_classes", "_law_entry"]
abbrev P_mark : List Str := ["_law_row_here", "_law_classes"]
theorem sc_mark : FnScope N_mark P_mark (defScope s_mark) := ⟨rfl, rfl, rfl, by decide +kernel, rfl, by decide +kernel, by decide +kernel⟩
abbrev s_normal : Stmt := topS 75
abbrev N_normal : List Str := ["_law_rows", "_law_row_here", "_law_classes", "_law_turn", "_law_marks", "_law_mark_here", "_law_met", "_law_seen", "_law_found", "_law_line", "_law_entry"]
abbrev P_normal : List Str := ["_law_rows"]
theorem sc_normal : FnScope N_normal P_normal (defScope s_normal) := ⟨rfl, rfl, rfl, by decide +kernel, rfl, by decide +kernel, by decide +kernel⟩
theorem u65 {A : Around} {k : Nat} (hr : Room k A) : A.units + 65 < cLine := by have := hr.un; omega
theorem mt_indexDK {X : Cx} (K : PySem.W.Frag) (h : X.K = K) (hu : X.A.units + 65 < cLine) : MtR X "list.index" (rIndexD K) := by subst h; exact mt_indexD hu
theorem pe_bmK {X : Cx} (K : PySem.W.Frag) (h : X.K = K) {o e : Expr} {es : List Expr} {to : TE} {t : TA} {name : Str} {apos cpos : Pos} {T id : String} {r : V → List V → Hp → VK → Prop} (pa : PlainAttrs T) (slot : Slot T name id) (hty : typeOf (.builtin id) = pure (.type "method_descriptor")) (hm : MtR X id r) (ho : PE X o to) (ha : PA X (e :: es) t)
    (hbase : attributeBase o name X.env (eval o X.env) = eval o X.env := by rfl)
    (hfew : ((backTo cpos (starEach (e :: es) X.env)).all (fun x => !x.1) && (backToKw cpos (keywordEach [] X.env)).all (fun x => x.1.isSome)
      && decide ((e :: es).length + ([] : List Keyword).length + (if ([] : List Keyword).isEmpty then 0 else 1) < 30)) = true := by rfl)
    (hline : (apos.endLine == cpos.line) = true := by rfl) (hs : starEach (e :: es) X.env = (false, eval e X.env) :: starEach es X.env := by rfl) (hplain : (backTo cpos (starEach es X.env)).any (·.1) = false := by rfl) :
    PE X (.Call (.Attribute o name apos) (e :: es) [] cpos) (tBM K T r to t) := by
  subst h
  exact pe_bm pa slot hty hm ho ha hbase hfew hline hs hplain
theorem cut_one (x : V) (r : List V) : cutV (x :: r) none (some 1) = [x] := by
  have h : HT.sIx (x :: r).length (x :: r).length (some 1) = 1 := by
    unfold HT.sIx
    simp
  unfold cutV
  rw [h]
  rfl
/-! ### lists of lists of numbers as data -/
theorem dep_int : ∀ r : List Int, PyData.depthAll (r.map PyData.int) = 0
  | [] => rfl
  | _ :: r => by
    rw [List.map_cons, PyData.depthAll, dep_int r]
    rfl
theorem dpa_ims {K : PySem.W.Frag} {H : Hp} : ∀ {ms : List (Addr × List Int)}, (∀ z ∈ ms, SqL K H z.1 (z.2.map V.int)) → DpAll K H (ms.map fun z => V.ref z.1) ((ms.map (·.2)).map (intsD true))
  | [], _ => .nil
  | z :: ms, h => .cons (dp_ints (b := true) (h z List.mem_cons_self)) (dpa_ims fun y m => h y (List.mem_cons_of_mem _ m))
theorem lay_ims : ∀ T : List (List Int), PyData.canLayAll0 (T.map (intsD true)) = true
  | [] => rfl
  | n :: r => by
    rw [List.map_cons, PyData.canLayAll0, lay_ims r, SeqAt.canLay_of_shaped (shaped_ints true n)]
    rfl
theorem dep_ims : ∀ T : List (List Int), PyData.depthAll (T.map (intsD true)) ≤ 1
  | [] => Nat.zero_le _
  | n :: r => by
    rw [List.map_cons, PyData.depthAll]
    have h := dep_ims r
    have h2 : (intsD true n).depth = 1 := by
      show PyData.depthAll (n.map PyData.int) + 1 = 1
      rw [dep_int]
    omega
theorem shaped_ims (T : List (List Int)) : SeqAt.shaped (.list (T.map (intsD true))) = true := by
  have h := dep_ims T
  unfold SeqAt.shaped
  show (PyData.canLayAll0 (T.map (intsD true)) && decide (PyData.depthAll (T.map (intsD true)) + 1 ≤ 64)) = true
  rw [lay_ims, decide_eq_true (by omega)]
  rfl
theorem eqv_ints' (a b : List Int) : PyData.eqv (intsD true a) (intsD true b) = decide (a = b) := by
  show PyData.eqv (.list _) (.list _) = _
  rw [PyData.eqv, PySem.W.ked_eqvAll]
theorem TbR.upd {H : Hp} {A x : Addr} {o : HO} {zs : List (Addr × List (Option Nat))} (h : TbR H A zs) (n : A ≠ x) (nz : ∀ z ∈ zs, z.1 ≠ x) : TbR (upd H x o) A zs := ⟨by rw [upd_ne n]; exact h.sq, fun z m => by rw [upd_ne (nz z m)]; exact h.at_ z m⟩
theorem gsq_get {l : List Nat} {i : Nat} : (gsq l)[i]? = (l[i]?).map fun (x : Nat) => V.int (x : Int) := by
  unfold gsq
  rw [List.getElem?_map]
section
variable {P : Program} {w : World} {K : PySem.W.Frag} {mg : Str → Option Value} {base : Heap} {f C : Addr} {fd : FuncData}
/-- a new list of numbers for each element of a list -/
theorem lc_imsG {ys : List V} (g : Nat → List Int) {a D : Addr} {H0 : Hp} {i : Nat} {te : TE} {vs : List Nat} {σ : L2.St} {Qd : Hp → Prop} (hS : SqL K H0 a ys) (hn : ys.length ≤ 1000000) (nD : H0 D = none) (hw : ∀ x : V, wipe ((wipe σ vs).set i (some x)) vs = wipe σ vs)
    (ht : ∀ (k : Nat) (x : V) J (Q : VK), ys[k]? = some x → Same H0 J → (∀ l J', Same J J' → J l = none → J' l = some (.lst ((g k).map V.int)) → Q (.ref l) J') → te ((wipe σ vs).set i (some x)) J Q)
    (hd : ∀ J (ms : List (Addr × List Int)), Same H0 J → J D = some (.lst (ms.map fun z => V.ref z.1)) → (∀ z ∈ ms, J z.1 = some (.lst (z.2.map V.int))) → ms.map (·.2) = (List.range ys.length).map g → Qd J) : lcW (Itl K a) (gName i) tYes te vs σ D Qd H0 := by
  refine lc_gen (n := ys.length) (fun k J => Same H0 J ∧ ∃ ms : List (Addr × List Int), J D = some (.lst (ms.map fun z => V.ref z.1)) ∧ (∀ z ∈ ms, J z.1 = some (.lst (z.2.map V.int)) ∧ z.1 ≠ D) ∧ ms.map (·.2) = (List.range k).map g) ⟨same_new nD, [], upd_same, fun z m => absurd m (by simp), rfl⟩ (fun k J hk p => ⟨_, ys[k], p.1.seq hS, List.getElem?_eq_getElem hk⟩) (fun J p => ⟨_, p.1.seq hS, Nat.le_refl _⟩) ?_ ?_
  · rintro k J x J' hk ⟨s1, ms, eD, nz, et⟩ ⟨rfl, y⟩
    have y := y _ (s1.seq hS)
    refine ⟨hw _, ?_⟩
    dsimp only [tYes]
    rw [if_pos rfl]
    refine ht k x J' _ y s1 fun l J2 s2 nl el => ?_
    have lD : D ≠ l := ne_of_none eD nl
    have lz : ms.length = k := by
      have := congrArg List.length et
      rwa [List.length_map, List.length_map, List.length_range] at this
    refine ⟨_, s2 _ _ eD, by rw [List.length_map, lz]; exact szC (by omega), Z.Same.mut (s1.trans s2) nD, ms ++ [(l, g k)], by rw [upd_same, List.map_append]; rfl, fun z h => ?_, ?_⟩
    · rcases List.mem_append.mp h with h | h
      · exact ⟨by rw [upd_ne (nz z h).2]; exact s2 _ _ (nz z h).1, (nz z h).2⟩
      · rw [List.mem_singleton.mp h]
        exact ⟨by rw [upd_ne lD.symm]; exact el, lD.symm⟩
    · rw [List.map_append, et, List.range_succ, List.map_append]
      rfl
  · rintro J ⟨s1, ms, eD, nz, et⟩
    exact hd J ms s1 eD (fun z m => (nz z m).1) et
def spMrk (K : PySem.W.Frag) : Sp := fun vs H Q _ => ∃ (n : Nat) (r L : Addr) (row : List (Option Nat)) (cl : Nat → Nat), vs = [.ref r, .ref L] ∧ SqL K H r (row.map eV) ∧ row.length ≤ 100 ∧ (∀ e, some e ∈ row → e < n) ∧ H L = some (.lst (nls n cl)) ∧ ∀ (l : Addr) H', Same H H' → H l = none → H' l = some (.lst ((row.map (mkI cl)).map V.int)) → Q (.ref l) H'
theorem ok_mark (F : FnP K "_law_mark" s_mark f fd) : FnOk P w K mg base CX0 1 f fd P_mark (spMrk K) := by
  refine F.ok sc_mark (fun vs H Q E h => ?_) (fun cdv A outer s H vs Q E hr h => ?_)
  · obtain ⟨n, r, L, row, cl, rfl, _⟩ := h
    rfl
  · obtain ⟨n, r, L, row, cl, rfl, hr0, lr, hent, eL, q⟩ := h
    refine ⟨_, PSs.nox (pss_one (ps_ret (pe_lc (own := [("_law_entry", 2)]) (g := (gName 2)) (tt := tYes) (by rfl) sc_mark.nd (pi_list (pv 0)) (blkOk_by (own := [("_law_entry", 2)]) (N := N_mark) (sc := defScope s_mark) (by decide +kernel)) (fun _ _ _ _ _ => (pg_name (i := 2) sc_mark.nd rfl (by first | exact .inl rfl | exact .inr rfl))) (fun _ _ _ _ _ => pts_nil) (fun _ _ _ _ _ => (pe_ifExp (pt_cmpR op_isN (pv 2) pe_non (nomark _)) (pe_un un_neg pe_int) (pe_ix (ix_list_K (K := K) rfl) (pv 1) (pv 2) (fun _ _ => rfl))))))), ?_⟩
    walk_at "go"
    refine ⟨⟨_, hr0⟩, ?_⟩
    intro B nB
    refine lc_flt (n := row.length) (fun i => eV (row.getD i none)) (fun i => true) (fun i => .int (mkI cl (row.getD i none))) (by omega) nB (fun i J3 hi s6 => ⟨_, _, s6.seq hr0, row_at (by omega)⟩) (fun J3 s6 => ⟨_, s6.seq hr0, by rw [List.length_map]; omega⟩) (fun i J3 x J4 hi s6 y => ?_) (fun i => rfl) (fun i J3 Q1 hi s6 q1 => q1 _ (Same.refl _)) (fun i J3 Q1 hi _ s6 q1 => ?_) (fun J3 s6 eB => ?_)
    · obtain ⟨rfl, ex⟩ := y
      have ex := ex _ (s6.seq hr0)
      rw [row_at (by omega)] at ex
      cases ex
      exact ⟨Same.refl _, rfl⟩
    · have mi : row.getD i none ∈ row := by
        rw [List.getD_eq_getElem?_getD, List.getElem?_eq_getElem hi]
        exact List.getElem_mem hi
      have q1 := q1 _ (Same.refl _)
      cases e2 : row.getD i none with
      | none =>
        rw [e2] at q1
        walk_at "go"
        exact q1
      | some e =>
        rw [e2] at q1 mi
        have he := hent e mi
        dsimp only [eV]
        walk_at "go"
        exact ⟨L, _, _, _, rfl, rfl, SqL.of (s6 _ _ eL), nls_at he, q1⟩
    refine q B J3 s6 nB ?_
    rw [eB, fltL_all]
    congr 2
    rw [List.map_map]
    refine List.ext_getElem? fun i => ?_
    rw [List.getElem?_map, List.getElem?_map]
    by_cases hi : i < row.length
    · rw [List.getElem?_range hi, List.getElem?_eq_getElem hi]
      show some (V.int (mkI cl (row.getD i none))) = some (V.int (mkI cl row[i]))
      rw [List.getD_eq_getElem?_getD, List.getElem?_eq_getElem hi]
      rfl
    · rw [List.getElem?_eq_none (by rw [List.length_range]; omega), List.getElem?_eq_none (by omega)]
      rfl
def spNrl (K : PySem.W.Frag) : Sp := fun vs H Q _ => ∃ (A : Addr) (zs : List (Addr × List (Option Nat))), vs = [.ref A] ∧ TbR H A zs ∧ Wf (tb zs) 4 ∧ zs.length ≤ 12 ∧ ∀ (B : Addr) (zr : List (Addr × List (Option Nat))) H', Same H H' → H B = none → TbR H' B zr → (∀ z ∈ zr, H z.1 = none) → Nf (tb zs) (inG (List.range (tb zs).length)) 4 (tb zr) (List.range (tb zr).length) → Q (.ref B) H'
theorem ok_normal (F : FnP K "_law_normal" s_normal f fd) (m_len : mg "len" = none) (m_range : mg "range" = none) (c_mark : Cal P w K mg base 1 "_law_mark" (spMrk K)) : FnOk P w K mg base CX0 2 f fd P_normal (spNrl K) := by
  refine F.ok sc_normal (fun vs H Q E h => ?_) (fun cdv A outer s H vs Q E hr h => ?_)
  · obtain ⟨a, zs, rfl, _⟩ := h
    rfl
  · obtain ⟨a, zs, rfl, tr, wf, lz, q⟩ := h
    refine ⟨_, PSs.nox (pss_cons (ps_set (i := 2) sc_normal.nd rfl (by first | exact .inl rfl | exact .inr rfl) (pe_lc (own := [("_law_row_here", 1)]) (g := (gName 1)) (tt := tYes) (by rfl) sc_normal.nd (pi_list (pv 0)) (blkOk_by (own := [("_law_row_here", 1)]) (N := N_normal) (sc := defScope s_normal) (by decide +kernel)) (fun _ _ _ _ _ => (pg_name (i := 1) sc_normal.nd rfl (by first | exact .inl rfl | exact .inr rfl))) (fun _ _ _ _ _ => pts_nil) (fun _ _ _ _ _ => pe_int)))
      (pss_cons (ps_for PassesOwn.never rfl (pi_range1 (by rfl) m_range (pa_cons (pe_callB call_len_seq (by rfl) m_len PySem.boot_len (pa_cons (pv 0) pa_nil)) pa_nil)) (pg_name (i := 3) sc_normal.nd rfl (by first | exact .inl rfl | exact .inr rfl))
        (pss_cons (ps_set (i := 4) sc_normal.nd rfl (by first | exact .inl rfl | exact .inr rfl) (pe_lc (own := [("_law_row_here", 1)]) (g := (gName 1)) (tt := tYes) (by rfl) sc_normal.nd (pi_list (pv 0)) (blkOk_by (own := [("_law_row_here", 1)]) (N := N_normal) (sc := defScope s_normal) (by decide +kernel)) (fun _ _ _ _ _ => (pg_name (i := 1) sc_normal.nd rfl (by first | exact .inl rfl | exact .inr rfl))) (fun _ _ _ _ _ => pts_nil) (fun _ _ _ _ _ => (pe_cl c_mark hr (by decide) (by rfl) (pa_cons (pv 1) (pa_cons (pv 2) pa_nil))))))
      (pss_one (ps_set (i := 2) sc_normal.nd rfl (by first | exact .inl rfl | exact .inr rfl) (pe_lc (own := [("_law_mark_here", 5)]) (g := (gName 5)) (tt := tYes) (by rfl) sc_normal.nd (pi_list (pv 4)) (blkOk_by (own := [("_law_mark_here", 5)]) (N := N_normal) (sc := defScope s_normal) (by decide +kernel)) (fun _ _ _ _ _ => (pg_name (i := 5) sc_normal.nd rfl (by first | exact .inl rfl | exact .inr rfl))) (fun _ _ _ _ _ => pts_nil) (fun _ _ _ _ _ => (pe_bmK K rfl PySem.F.plainAttrs_list PySem.F.slot_list_index PySem.F.type_list_index (mt_indexDK K rfl (u65 hr)) (pv 4) (pa_cons (pv 5) pa_nil))))))))
      (pss_cons (ps_set (i := 6) sc_normal.nd rfl (by first | exact .inl rfl | exact .inr rfl) (pe_lst (pa_cons pe_int pa_nil)))
      (pss_cons (ps_set (i := 7) sc_normal.nd rfl (by first | exact .inl rfl | exact .inr rfl) (pe_slice sl_list (pv 2) po_none (po_some pe_int)))
      (pss_cons (ps_set (i := 8) sc_normal.nd rfl (by first | exact .inl rfl | exact .inr rfl) (pe_lst pa_nil))
      (pss_cons (ps_for PassesOwn.never rfl (pi_range1 (by rfl) m_range (pa_cons (pe_callB call_len_seq (by rfl) m_len PySem.boot_len (pa_cons (pv 0) pa_nil)) pa_nil)) (pg_name (i := 3) sc_normal.nd rfl (by first | exact .inl rfl | exact .inr rfl))
        (pss_one (ps_if (pt_cmpR op_lt (pv 3) (pe_callB call_len_seq (by rfl) m_len PySem.boot_len (pa_cons (pv 6) pa_nil)) (nomark _)) (pss_cons (ps_set (i := 9) sc_normal.nd rfl (by first | exact .inl rfl | exact .inr rfl) (pe_lst pa_nil))
      (pss_cons (ps_for PassesOwn.never rfl (pi_list (pe_ix ix_list (pv 0) (pe_ix ix_list (pv 6) (pv 3) (fun _ _ => rfl)) (fun _ _ => rfl))) (pg_name (i := 10) sc_normal.nd rfl (by first | exact .inl rfl | exact .inr rfl))
        (pss_cut (ps_if (PW.pt (pw_and (pt_cmpR op_notN (pv 10) pe_non (nomark _)) (pw_and1 (pt_cmpR op_notIn_seq (pe_ix ix_list (pv 2) (pv 10) (fun _ _ => rfl)) (pv 7) (by rfl))))) (pss_cons (ps_expr (pe_bm PySem.F.plainAttrs_list PySem.F.slot_list_append PySem.F.type_list_append mt_append (pv 7) (pa_cons (pe_ix ix_list (pv 2) (pv 10) (fun _ _ => rfl)) pa_nil)))
      (pss_one (ps_expr (pe_bm PySem.F.plainAttrs_list PySem.F.slot_list_append PySem.F.type_list_append mt_append (pv 6) (pa_cons (pv 10) pa_nil))))) pss_nil)
      (pss_one (ps_expr (pe_bm PySem.F.plainAttrs_list PySem.F.slot_list_append PySem.F.type_list_append mt_append (pv 9) (pa_cons (pe_ifExp (pt_cmpR op_isN (pv 10) pe_non (nomark _)) pe_non (pe_bm PySem.F.plainAttrs_list PySem.F.slot_list_index PySem.F.type_list_index mt_index (pv 7) (pa_cons (pe_ix ix_list (pv 2) (pv 10) (fun _ _ => rfl)) pa_nil))) pa_nil))))))
      (pss_one (ps_expr (pe_bm PySem.F.plainAttrs_list PySem.F.slot_list_append PySem.F.type_list_append mt_append (pv 8) (pa_cons (pv 9) pa_nil)))))) pss_nil)))
      (pss_one (ps_ret (pv 8))))))))), ?_⟩
    obtain ⟨T, hT⟩ : ∃ T, T = tb zs := ⟨_, rfl⟩
    have lT : T.length = zs.length := by rw [hT]; exact List.length_map ..
    rw [← hT] at wf q
    have sqA : SqL K H a (zs.map fun z => V.ref z.1) := SqL.of tr.sq
    have lA : (zs.map fun z => V.ref z.1).length = zs.length := List.length_map ..
    walk_at "go"
    refine ⟨⟨_, sqA⟩, ?_⟩
    intro A0 nA
    refine lc_flt (n := zs.length) (fun k => .ref (zs.getD k (0, [])).1) (fun _ => true) (fun k => .int 0) (by omega) nA (fun k J hk s2 => ⟨_, .ref (zs.getD k (0, [])).1, s2.seq sqA, by rw [List.getElem?_map, List.getD_eq_getElem?_getD, List.getElem?_eq_getElem hk]; rfl⟩) (fun J s2 => ⟨_, s2.seq sqA, by rw [lA]; omega⟩) (fun k J x J2 hk s2 y => ?_) (fun k => rfl) (fun k J Q1 _ _ q1 => q1 _ (Same.refl _)) (fun k J Q1 hk _ s2 q1 => q1 _ (Same.refl _)) (fun J s1 eA => ?_)
    · obtain ⟨rfl, ex⟩ := y
      have ex := ex _ (s2.seq sqA)
      rw [List.getElem?_map, List.getElem?_eq_getElem hk] at ex
      cases ex
      refine ⟨Same.refl _, ?_⟩
      rw [List.getD_eq_getElem?_getD, List.getElem?_eq_getElem hk]
      rfl
    have eA : J A0 = some (.lst (nls zs.length fun _ => 0)) := by
      rw [eA, fltL_all]
      rfl
    walk_at "go"
    refine ⟨a, _, rfl, .inl (s1.seq sqA), ?_⟩
    rw [lA]
    walk_at "go"
    refine for_gen (n := zs.length) (fun r σ J => Same H J ∧ ∃ (L : Addr) (cl : Nat → Nat) (v1 v3 v4 v5 : Option V), J L = some (.lst (nls zs.length cl)) ∧ (∀ s s', s < T.length → s' < T.length → (cl s = cl s' ↔ Eqt T 4 (fun _ => 0) r s s')) ∧ (∀ s, s < T.length → cl s < 100) ∧ σ = [some (.ref a), v1, some (.ref L), v3, v4, v5, none, none, none, none, none]) ⟨s1, A0, _, none, none, none, none, eA, fun s s' _ _ => ⟨fun _ => rfl, fun _ => rfl⟩, fun s _ => by omega, rfl⟩ ?_ ?_ ?_ ?_
    · intro r σ J hk _
      show r < ((zs.length : Int)).toNat
      omega
    · intro σ J _
      show ((zs.length : Int)).toNat ≤ zs.length
      omega
    · rintro r σ J x J' hr2 ⟨s2, L, cl, v1, v3, v4, v5, eL, hcl, hlt, rfl⟩ ⟨rfl, rfl⟩
      walk_at "go"
      refine ⟨⟨_, s2.seq sqA⟩, ?_⟩
      intro D nD
      refine lc_imsG (fun k => (T.getD k []).map (mkI cl)) (s2.seq sqA) (by rw [lA]; omega) nD (fun x => rfl) (fun k x J2 Q2 ek s3 q2 => ?_) (fun J2 ms s3 eD hms ems => ?_)
      · rw [List.getElem?_map] at ek
        have hk : k < zs.length := by
          rcases Nat.lt_or_ge k zs.length with h | h
          · exact h
          · rw [List.getElem?_eq_none h] at ek
            cases ek
        obtain ⟨z, ez, eT⟩ := row_of hT hk
        rw [ez] at ek
        cases ek
        have mz : z.2 ∈ T := by rw [hT]; exact List.mem_map.mpr ⟨z, List.mem_of_getElem? ez, rfl⟩
        walk_at "go"
        refine ⟨zs.length, z.1, L, z.2, cl, rfl, SqL.of ((s2.trans s3) _ _ (tr.at_ z (List.mem_of_getElem? ez))), by rw [wf.row _ mz]; decide, fun e he => by rw [← lT]; exact wf.ent _ mz e he, s3 _ _ eL, fun l J4 s4 nl el => ?_⟩
        exact q2 l J4 s4 nl (by rw [el, eT])
      rw [lA] at ems
      have lm : ms.length = zs.length := by
        have := congrArg List.length ems
        rwa [List.length_map, List.length_map, List.length_range] at this
      obtain ⟨fk, hfk⟩ : ∃ fk : Nat → List Int, fk = fun k => (T.getD k []).map (mkI cl) := ⟨_, rfl⟩
      rw [← hfk] at ems
      have mem : ∀ k, k < zs.length → fk k ∈ ms.map (·.2) := fun k hk => by rw [ems]; exact List.mem_map.mpr ⟨k, List.mem_range.mpr hk, rfl⟩
      have sqD : SqL K J2 D (ms.map fun z => V.ref z.1) := SqL.of eD
      walk_at "go"
      refine ⟨⟨_, sqD⟩, ?_⟩
      intro D2 nD2
      refine lc_flt (n := zs.length) (fun k => .ref (ms.getD k (0, [])).1) (fun _ => true) (fun k => .int ((fst' (ms.map (·.2)) (fk k) : Nat) : Int)) (by omega) nD2 (fun k J hk s4 => ⟨_, .ref (ms.getD k (0, [])).1, s4.seq sqD, by rw [List.getElem?_map, List.getD_eq_getElem?_getD, List.getElem?_eq_getElem (by omega)]; rfl⟩) (fun J s4 => ⟨_, s4.seq sqD, by rw [List.length_map]; omega⟩) (fun k J x J2 hk s4 y => ?_) (fun k => rfl) (fun k J Q1 _ _ q1 => q1 _ (Same.refl _)) (fun k J Q1 hk _ s4 q1 => ?_) (fun J s4 eB => ?_)
      · obtain ⟨rfl, ex⟩ := y
        have ex := ex _ (s4.seq sqD)
        rw [List.getElem?_map, List.getElem?_eq_getElem (by omega)] at ex
        cases ex
        refine ⟨Same.refl _, ?_⟩
        rw [List.getD_eq_getElem?_getD, List.getElem?_eq_getElem (by omega)]
        rfl
      · have hk' : k < ms.length := by omega
        have ez : ms[k]? = some ms[k] := List.getElem?_eq_getElem hk'
        have e2 : (ms[k]).2 = fk k := by
          have : (ms.map (·.2))[k]? = ((List.range zs.length).map fk)[k]? := by rw [ems]
          rw [List.getElem?_map, List.getElem?_map, ez, List.getElem?_range hk] at this
          exact Option.some.inj this
        have hz := hms ms[k] (List.getElem_mem hk')
        rw [show (ms.getD k (0, [])).1 = (ms[k]).1 by rw [List.getD_eq_getElem?_getD, ez]; rfl]
        have q1 := q1 _ (Same.refl _)
        have at9 := fst_at (mem k hk)
        walk_at "go"
        refine ⟨.inl ⟨rfl, _, s4.seq sqD⟩, ?_⟩
        walk_at "go"
        refine ⟨D, .ref (ms[k]).1, intsD true (ms[k]).2, (ms.map (·.2)).map (intsD true), _, intsD true (fk k), rfl, rfl, dp_sq (b := true) (s4.seq sqD) (dpa_ims fun z m => SqL.of (s4 _ _ (hms z m))), dp_ints (b := true) (SqL.of (s4 _ _ hz)), shaped_ims _, shaped_ints _ _, by rw [List.getElem?_map, at9]; rfl, by rw [eqv_ints', e2]; exact decide_eq_true rfl, fun j z' hj hz' => ?_, q1⟩
        rw [List.getElem?_map] at hz'
        cases c : (ms.map (·.2))[j]? with
        | none => rw [c] at hz'; cases hz'
        | some y =>
          rw [c] at hz'
          cases hz'
          rw [eqv_ints', e2]
          exact decide_eq_false (fst_no hj c)
      have eB : J D2 = some (.lst (nls zs.length fun k => fst' (ms.map (·.2)) (fk k))) := by
        rw [eB, fltL_all]
        rfl
      walk_at "go"
      refine ⟨s2.trans (s3.trans s4), D2, _, _, _, _, _, eB, fun s s' h1 h2 => ?_, fun s h => ?_, rfl⟩
      · rw [fst_iff (mem s (by omega)) (mem s' (by omega)), hfk]
        exact mk_step wf hcl h1 h2
      · have := fst_lt (mem s (by omega))
        rw [List.length_map] at this
        show fst' _ _ < 100
        omega
    rintro σ J2 ⟨s2, L, cl, v1, v3, v4, v5, eL, hcl, hlt, rfl⟩
    rw [← lT] at hcl
    have leq := fun s s' (h1 : s < T.length) (h2 : s' < T.length) => cls_leq wf hcl h1 h2
    clear hcl
    walk_at "go"
    intro Me nMe
    have s3 := same_new (o := .lst [.int 0]) nMe
    have eMe : (upd J2 Me (.lst [.int 0])) Me = some (.lst (gsq [0])) := upd_same
    have eL3 := s3 _ _ eL
    generalize upd J2 Me (.lst [.int 0]) = J3 at s3 eMe eL3
    have nMeH := none_of s2 nMe
    have s23 := s2.trans s3
    have LM : L ≠ Me := ne_of_none eL nMe
    clear s2 s3 eL nMe
    walk_at "go"
    refine ⟨L, _, rfl, SqL.of eL3, ?_⟩
    intro Se nSe
    have s4 := same_new (o := .lst (cutV (nls zs.length cl) none (some 1))) nSe
    have eSe : (upd J3 Se (.lst (cutV (nls zs.length cl) none (some 1)))) Se = some (.lst (cutV (nls zs.length cl) none (some 1))) := upd_same
    have eL4 := s4 _ _ eL3
    have eMe4 := s4 _ _ eMe
    have MS : Me ≠ Se := ne_of_none eMe nSe
    have LS : L ≠ Se := ne_of_none eL3 nSe
    generalize upd J3 Se (.lst (cutV (nls zs.length cl) none (some 1))) = J4 at s4 eSe eL4 eMe4
    have nSeH := none_of s23 nSe
    have s24 := s23.trans s4
    clear s23 s4 eL3 eMe nSe
    walk_at "go"
    intro Fo nFo
    have s5 := same_new (o := .lst []) nFo
    have eFo : (upd J4 Fo (.lst [])) Fo = some (.lst (([] : List (Addr × List (Option Nat))).map fun z => V.ref z.1)) := upd_same
    have eL := s5 _ _ eL4
    have eMe := s5 _ _ eMe4
    have eS := s5 _ _ eSe
    have MF : Me ≠ Fo := ne_of_none eMe4 nFo
    have LF : L ≠ Fo := ne_of_none eL4 nFo
    have SF : Se ≠ Fo := ne_of_none eSe nFo
    generalize upd J4 Fo (.lst []) = J5 at s5 eFo eL eMe eS
    have nFoH := none_of s24 nFo
    have s25 := s24.trans s5
    clear s24 s5 eL4 eMe4 eSe nFo
    walk_at "go"
    refine ⟨a, _, rfl, .inl (s25.seq sqA), ?_⟩
    rw [lA]
    walk_at "go"
    by_cases c0 : zs.length = 0
    · refine for_gen (n := 0) (fun k σ J => J = J5 ∧ σ = [some (.ref a), v1, some (.ref L), v3, v4, v5, some (.ref Me), some (.ref Se), some (.ref Fo), none, none]) ⟨rfl, rfl⟩ (fun k σ J hk _ => absurd hk (Nat.not_lt_zero _)) (fun σ J _ => ?_) (fun k σ J x J' hk _ _ => absurd hk (Nat.not_lt_zero _)) ?_
      · show ((zs.length : Int)).toNat ≤ 0
        omega
      rintro σ J ⟨rfl, rfl⟩
      walk_at "go"
      have T0 : T = [] := List.length_eq_zero_iff.mp (by omega)
      exact q Fo [] J s25 nFoH ⟨eFo, fun z m => absurd m (by simp)⟩ (fun z m => absurd m (by simp)) (.inl ⟨rfl, rfl, .inl T0⟩)
    have n0 : 0 < T.length := by omega
    have e1 : cutV (nls zs.length cl) none (some 1) = gsq ([0].map cl) := by
      obtain ⟨r, hr'⟩ : ∃ r, nls zs.length cl = .int ((cl 0 : Nat) : Int) :: r := by
        obtain ⟨m, hm⟩ : ∃ m, zs.length = m + 1 := ⟨zs.length - 1, by omega⟩
        rw [hm]
        unfold nls
        rw [List.range_succ_eq_map, List.map_cons]
        exact ⟨_, rfl⟩
      rw [hr', cut_one]
      rfl
    rw [e1] at eS
    have lvT : ∀ s, s < T.length → Liv T (inG (List.range T.length)) s := fun s hs => ⟨[], s, rfl, List.mem_range.mpr hs⟩
    have bf0 : Bf T (inG (List.range T.length)) 4 [0] [] [] := Bf.start n0 (lvT 0 n0)
    refine for_gen (n := zs.length) (fun k σ J => Same H J ∧ J L = some (.lst (nls zs.length cl)) ∧ ∃ (met : List Nat) (zf : List (Addr × List (Option Nat))) (v3 v9 v10 : Option V), J Me = some (.lst (gsq met)) ∧ J Se = some (.lst (gsq (met.map cl))) ∧ TbR J Fo zf ∧ (∀ z ∈ zf, z.1 ≠ Me ∧ z.1 ≠ Se ∧ z.1 ≠ Fo ∧ H z.1 = none) ∧ Bf T (inG (List.range T.length)) 4 met (tb zf) [] ∧ (zf.length = k ∧ k ≤ met.length ∨ zf.length = met.length ∧ met.length ≤ k) ∧ σ = [some (.ref a), v1, some (.ref L), v3, v4, v5, some (.ref Me), some (.ref Se), some (.ref Fo), v9, v10]) ⟨s25, eL, [0], [], v3, none, none, eMe, eS, ⟨eFo, fun z m => absurd m (by simp)⟩, fun z m => absurd m (by simp), bf0, .inl ⟨rfl, Nat.zero_le _⟩, rfl⟩ ?_ ?_ ?_ ?_
    · intro k σ J hk _
      show k < ((zs.length : Int)).toNat
      omega
    · intro σ J _
      show ((zs.length : Int)).toNat ≤ zs.length
      omega
    · rintro k σ J x J' hk ⟨s6, eL, met, zf, v3, v9, v10, eM, eS, tf, nz, bf, kk, rfl⟩ ⟨rfl, rfl⟩
      rw [show (0 : Int) + (k : Int) = (k : Int) by omega]
      have bfn := bf.nodup
      have lz' : (tb zf).length = zf.length := List.length_map ..
      walk_at "go"
      refine ⟨Me, _, rfl, .inl (SqL.of eM), ?_⟩
      rw [show (gsq met).length = met.length from List.length_map ..]
      walk_at "go"
      by_cases ck : k < met.length
      · rw [decide_eq_true (show (k : Int) < (met.length : Int) by omega)]
        have zk : zf.length = k := by omega
        obtain ⟨s0, hs0⟩ : ∃ s0, met[k]? = some s0 := ⟨_, List.getElem?_eq_getElem ck⟩
        have ls0 := (bf.live s0 (List.mem_of_getElem? hs0)).1
        obtain ⟨z, ez, eT⟩ := row_of hT (show s0 < zs.length by omega)
        have mz : z.2 ∈ T := by rw [hT]; exact List.mem_map.mpr ⟨z, List.mem_of_getElem? ez, rfl⟩
        have lzr := wf.row _ mz
        have rx : ∀ i, i < 4 → z.2.getD i none = nx T s0 i := fun i hi => by rw [hT]; exact row_nx ez (by omega)
        walk_at "go"
        intro Li nLi
        have s7 := same_new (o := .lst []) nLi
        have eLi : (upd J' Li (.lst [])) Li = some (.lst (([] : List (Option Nat)).map eV)) := upd_same
        have eL7 := s7 _ _ eL
        have eM7 := s7 _ _ eM
        have eS7 := s7 _ _ eS
        have tf7 := tf.mono s7
        have LiM : Li ≠ Me := (ne_of_none eM nLi).symm
        have LiS : Li ≠ Se := (ne_of_none eS nLi).symm
        have LiF : Li ≠ Fo := (ne_of_none tf.sq nLi).symm
        have LiL : Li ≠ L := (ne_of_none eL nLi).symm
        have Liz : ∀ z ∈ zf, z.1 ≠ Li := fun z m => ne_of_none (tf.at_ z m) nLi
        have nLiH := none_of s6 nLi
        generalize upd J' Li (.lst []) = J7 at s7 eLi eL7 eM7 eS7 tf7
        have s67 := s6.trans s7
        clear s7 eL eM eS tf nLi
        have hrow := tr.at_ z (List.mem_of_getElem? ez)
        walk_at "go"
        refine ⟨Me, _, _, _, rfl, rfl, SqL.of eM7, atI_nat (v := .int ((s0 : Nat) : Int)) (by unfold gsq; rw [List.getElem?_map, hs0]; rfl), ?_⟩
        refine ⟨a, _, _, _, rfl, rfl, s67.seq sqA, atI_nat (v := .ref z.1) (by rw [List.getElem?_map, ez]; rfl), ?_⟩
        walk_at "go"
        refine ⟨⟨_, SqL.of (s67 _ _ hrow)⟩, ?_⟩
        have nzM : ∀ z ∈ zf, z.1 ≠ Me := fun z m => (nz z m).1
        have nzS : ∀ z ∈ zf, z.1 ≠ Se := fun z m => (nz z m).2.1
        have nzF : ∀ z ∈ zf, z.1 ≠ Fo := fun z m => (nz z m).2.2.1
        refine for_gen (n := 4) (fun j σ J => Same H J ∧ J L = some (.lst (nls zs.length cl)) ∧ ∃ (met : List Nat) (Ln : List (Option Nat)) (v10 : Option V), J Me = some (.lst (gsq met)) ∧ J Se = some (.lst (gsq (met.map cl))) ∧ TbR J Fo zf ∧ J Li = some (.lst (Ln.map eV)) ∧ Ln.length = j ∧ Bf T (inG (List.range T.length)) 4 met (tb zf) Ln ∧ met[k]? = some s0 ∧ σ = [some (.ref a), v1, some (.ref L), some (.int (k : Int)), v4, v5, some (.ref Me), some (.ref Se), some (.ref Fo), some (.ref Li), v10]) ⟨s67, eL7, met, [], v10, eM7, eS7, tf7, eLi, rfl, bf, hs0, rfl⟩ ?_ ?_ ?_ ?_
        · rintro j σ J hj ⟨s8, _⟩
          exact ⟨_, eV (z.2.getD j none), SqL.of (s8 _ _ hrow), row_at (by omega)⟩
        · rintro σ J ⟨s8, _⟩
          exact ⟨_, SqL.of (s8 _ _ hrow), by rw [List.length_map]; omega⟩
        · rintro j σ J x J8 hj ⟨s8, eL, met, Ln, v10, eM, eS, tf, eLi, lL, bf, hs0, rfl⟩ ⟨rfl, ex⟩
          have ex := ex _ (SqL.of (s8 _ _ hrow))
          rw [row_at (by omega), rx j hj] at ex
          cases ex
          have bfn := bf.nodup
          refine ⟨fun σ' J' => Same H J' ∧ J' L = some (.lst (nls zs.length cl)) ∧ ∃ more : List Nat, J' Me = some (.lst (gsq (met ++ more))) ∧ J' Se = some (.lst (gsq ((met ++ more).map cl))) ∧ TbR J' Fo zf ∧ J' Li = some (.lst (Ln.map eV)) ∧ (more = [] ∨ ∃ e, nx T s0 j = some e ∧ more = [e] ∧ cl e ∉ met.map cl) ∧ (∀ e, nx T s0 j = some e → cl e ∈ (met ++ more).map cl) ∧ σ' = [some (.ref a), v1, some (.ref L), some (.int (k : Int)), v4, v5, some (.ref Me), some (.ref Se), some (.ref Fo), some (.ref Li), some (eV (nx T s0 j))], ?_, ?_⟩
          · have keep : (∀ e, nx T s0 j = some e → cl e ∈ met.map cl) → ∃ more : List Nat, J8 Me = some (.lst (gsq (met ++ more))) ∧ J8 Se = some (.lst (gsq ((met ++ more).map cl))) ∧ TbR J8 Fo zf ∧ J8 Li = some (.lst (Ln.map eV)) ∧ (more = [] ∨ ∃ e, nx T s0 j = some e ∧ more = [e] ∧ cl e ∉ met.map cl) ∧ (∀ e, nx T s0 j = some e → cl e ∈ (met ++ more).map cl) := fun h => ⟨[], by rw [List.append_nil]; exact eM, by rw [List.append_nil]; exact eS, tf, eLi, .inl rfl, by rw [List.append_nil]; exact h⟩
            cases eo : nx T s0 j with
            | none =>
              obtain ⟨more, k1, k2, k3, k4, k5, k6⟩ := keep (fun e h => by rw [eo] at h; cases h)
              rw [eo] at k5 k6
              dsimp only [eV]
              walk_at "go"
              exact ⟨more, k1, k2, k3, k4, k5, k6, rfl⟩
            | some e =>
              have he := (nx_lt wf eo).1
              dsimp only [eV]
              walk_at "go"
              refine ⟨L, _, _, _, rfl, rfl, SqL.of eL, nls_at (by omega), ?_⟩
              walk_at "go"
              refine ⟨Se, _, rfl, .inl (SqL.of eS), rfl, gsq_flat _, ?_⟩
              rw [if_pos rfl, inV_gsq]
              by_cases c : cl e ∈ met.map cl
              · obtain ⟨more, k1, k2, k3, k4, k5, k6⟩ := keep (fun e' h => by rw [eo] at h; cases h; exact c)
                rw [eo] at k5 k6
                rw [decide_eq_true c]
                walk_at "go"
                exact ⟨more, k1, k2, k3, k4, k5, k6, rfl⟩
              · rw [decide_eq_false c]
                walk_at "go"
                refine ⟨.inl ⟨rfl, _, SqL.of eS⟩, ?_⟩
                walk_at "go"
                refine ⟨L, _, _, _, rfl, rfl, SqL.of eL, nls_at (by omega), ?_⟩
                refine ⟨Se, _, _, rfl, rfl, eS, by unfold gsq; rw [List.length_map, List.length_map]; exact szC (by omega), ?_⟩
                have s9 := Z.Same.mut (o := .lst (gsq (met.map cl) ++ [.int ((cl e : Nat) : Int)])) s8 nSeH
                have eS9 : (upd J8 Se (.lst (gsq (met.map cl) ++ [.int ((cl e : Nat) : Int)]))) Se = some (.lst (gsq ((met ++ [e]).map cl))) := by
                  rw [upd_same, List.map_append]
                  unfold gsq
                  rw [List.map_append]
                  rfl
                have eM9 : (upd J8 Se (.lst (gsq (met.map cl) ++ [.int ((cl e : Nat) : Int)]))) Me = some (.lst (gsq met)) := by rw [upd_ne MS]; exact eM
                have eL9 : (upd J8 Se (.lst (gsq (met.map cl) ++ [.int ((cl e : Nat) : Int)]))) L = some (.lst (nls zs.length cl)) := by rw [upd_ne LS]; exact eL
                have eI9 : (upd J8 Se (.lst (gsq (met.map cl) ++ [.int ((cl e : Nat) : Int)]))) Li = some (.lst (Ln.map eV)) := by rw [upd_ne LiS]; exact eLi
                have tf9 := tf.upd (o := .lst (gsq (met.map cl) ++ [.int ((cl e : Nat) : Int)])) SF.symm nzS
                generalize upd J8 Se (.lst (gsq (met.map cl) ++ [.int ((cl e : Nat) : Int)])) = J9 at s9 eS9 eM9 eL9 eI9 tf9
                walk_at "go"
                refine ⟨.inl ⟨rfl, _, SqL.of eM9⟩, ?_⟩
                walk_at "go"
                refine ⟨Me, _, _, rfl, rfl, eM9, by unfold gsq; rw [List.length_map]; exact szC (by omega), ?_⟩
                exact ⟨Z.Same.mut s9 nMeH, by rw [upd_ne LM]; exact eL9, [e], by rw [upd_same]; unfold gsq; rw [List.map_append]; rfl, by rw [upd_ne MS.symm]; exact eS9, tf9.upd MF.symm nzM, by rw [upd_ne LiM]; exact eI9, .inr ⟨e, rfl, rfl, c⟩, fun e' h => by cases h; rw [List.map_append]; exact List.mem_append_right _ List.mem_cons_self, rfl⟩
          rintro σ' J9 ⟨s9, eL9, more, eM9, eS9, tf9, eLi9, hmo, hin, rfl⟩
          have hs0' : met[(tb zf).length]? = some s0 := by rw [lz', zk]; exact hs0
          have fin : ∀ o : Option Nat, Bf T (inG (List.range T.length)) 4 (met ++ more) (tb zf) (Ln ++ [o]) → Same H (upd J9 Li (.lst (Ln.map eV ++ [eV o]))) ∧ (upd J9 Li (.lst (Ln.map eV ++ [eV o]))) L = some (.lst (nls zs.length cl)) ∧ ∃ (met : List Nat) (Ln2 : List (Option Nat)) (v10 : Option V), (upd J9 Li (.lst (Ln.map eV ++ [eV o]))) Me = some (.lst (gsq met)) ∧ (upd J9 Li (.lst (Ln.map eV ++ [eV o]))) Se = some (.lst (gsq (met.map cl))) ∧ TbR (upd J9 Li (.lst (Ln.map eV ++ [eV o]))) Fo zf ∧ (upd J9 Li (.lst (Ln.map eV ++ [eV o]))) Li = some (.lst (Ln2.map eV)) ∧ Ln2.length = j + 1 ∧ Bf T (inG (List.range T.length)) 4 met (tb zf) Ln2 ∧ met[k]? = some s0 ∧ [some (V.ref a), v1, some (.ref L), some (.int (k : Int)), v4, v5, some (.ref Me), some (.ref Se), some (.ref Fo), some (.ref Li), some (eV (nx T s0 j))] = [some (.ref a), v1, some (.ref L), some (.int (k : Int)), v4, v5, some (.ref Me), some (.ref Se), some (.ref Fo), some (.ref Li), v10] := fun o bf2 =>
            ⟨Z.Same.mut s9 nLiH, by rw [upd_ne LiL.symm]; exact eL9, met ++ more, Ln ++ [o], _, by rw [upd_ne LiM.symm]; exact eM9, by rw [upd_ne LiS.symm]; exact eS9, tf9.upd LiF.symm Liz, by rw [upd_same, List.map_append]; rfl, by rw [List.length_append, lL]; rfl, bf2, by rw [List.getElem?_append_left (List.getElem?_eq_some_iff.mp hs0).1]; exact hs0, rfl⟩
          walk_at "go"
          refine ⟨.inl ⟨rfl, _, SqL.of eLi9⟩, ?_⟩
          cases eo : nx T s0 j with
          | none =>
            rw [eo] at fin
            dsimp only [eV]
            walk_at "go"
            refine ⟨Li, _, _, rfl, rfl, eLi9, by rw [List.length_map]; exact szC (by omega), ?_⟩
            refine fin none (bf.put (more := more) (o := none) hs0' (by omega) (.inl ?_) (.inl ⟨rfl, by rw [lL]; exact eo⟩))
            rcases hmo with h | ⟨e, h, _⟩
            · exact h
            · rw [eo] at h
              cases h
          | some e =>
            rw [eo] at fin
            have he := (nx_lt wf eo).1
            have hi := hin e eo
            have at9 := fst_at hi
            obtain ⟨t9, ht9, ct9⟩ : ∃ t9, (met ++ more)[fst' ((met ++ more).map cl) (cl e)]? = some t9 ∧ cl t9 = cl e := by
              rw [List.getElem?_map] at at9
              cases c : (met ++ more)[fst' ((met ++ more).map cl) (cl e)]? with
              | none => rw [c] at at9; cases at9
              | some t9 =>
                rw [c] at at9
                exact ⟨t9, rfl, Option.some.inj at9⟩
            have lt9 : t9 < T.length := by
              rcases List.mem_append.mp (List.mem_of_getElem? ht9) with h | h
              · exact (bf.live t9 h).1
              · rcases hmo with h2 | ⟨e', h1, h2, _⟩
                · rw [h2] at h
                  cases h
                · rw [h2] at h
                  rw [List.mem_singleton.mp h]
                  exact (nx_lt wf h1).1
            dsimp only [eV]
            walk_at "go"
            refine ⟨.inl ⟨rfl, _, SqL.of eS9⟩, ?_⟩
            walk_at "go"
            refine ⟨L, _, _, _, rfl, rfl, SqL.of eL9, nls_at (by omega), ?_⟩
            refine ⟨Se, _, _, fst' ((met ++ more).map cl) (cl e), .int ((cl e : Nat) : Int), rfl, rfl, SqL.of eS9, rfl, gsq_flat _, by rw [gsq_get, at9]; rfl, (show (((cl e : Nat) : Int) == ((cl e : Nat) : Int)) = true from beq_self_eq_true _), fun m z' hm hz' => ?_, ?_⟩
            · rw [gsq_get] at hz'
              cases c : ((met ++ more).map cl)[m]? with
              | none => rw [c] at hz'; cases hz'
              | some y =>
                rw [c] at hz'
                cases hz'
                have := fst_no hm c
                exact (show (((y : Nat) : Int) == ((cl e : Nat) : Int)) = false from beq_eq_false_iff_ne.mpr (by omega))
            refine ⟨Li, _, _, rfl, rfl, eLi9, by rw [List.length_map]; exact szC (by omega), ?_⟩
            refine fin (some (fst' ((met ++ more).map cl) (cl e))) (bf.put (more := more) (o := some (fst' ((met ++ more).map cl) (cl e))) hs0' (by omega) ?_ (.inr ⟨_, e, t9, rfl, by rw [lL]; exact eo, ht9, (leq e t9 he lt9).mp ct9.symm⟩))
            rcases hmo with h | ⟨e', h1, h2, h3⟩
            · exact .inl h
            · rw [eo] at h1
              cases h1
              refine .inr ⟨e, h2, ?_, he, lvT e he, fun t ht l => h3 (List.mem_map.mpr ⟨t, ht, ((leq e t he (bf.live t ht).1).mpr l).symm⟩)⟩
              rw [h2, List.map_append, show [e].map cl = [cl e] from rfl, fst_new h3, List.length_map]
        · rintro σ J ⟨s8, eL, met, Ln, v10, eM, eS, tf, eLi, lL, bf, hs0, rfl⟩
          have bfn := bf.nodup
          walk_at "go"
          refine ⟨.inl ⟨rfl, _, SqL.of tf.sq⟩, ?_⟩
          walk_at "go"
          refine ⟨Fo, _, _, rfl, rfl, tf.sq, by rw [List.length_map]; exact szC (by omega), ?_⟩
          have ckm := (List.getElem?_eq_some_iff.mp hs0).1
          have bf2 := bf.close (by rw [lz', zk]; exact ckm) lL
          refine ⟨Z.Same.mut s8 nFoH, by rw [upd_ne LF]; exact eL, met, zf ++ [(Li, Ln)], _, _, _, by rw [upd_ne MF]; exact eM, by rw [upd_ne SF]; exact eS, ⟨by rw [upd_same, List.map_append]; rfl, fun y h => ?_⟩, fun y h => ?_, by unfold tb at bf2 ⊢; rw [List.map_append]; exact bf2, .inl ⟨by rw [List.length_append, zk]; rfl, ckm⟩, rfl⟩
          · rcases List.mem_append.mp h with h | h
            · rw [upd_ne (nzF y h)]
              exact tf.at_ y h
            · rw [List.mem_singleton.mp h, upd_ne LiF]
              exact eLi
          · rcases List.mem_append.mp h with h | h
            · exact nz y h
            · rw [List.mem_singleton.mp h]
              exact ⟨LiM, LiS, LiF, nLiH⟩
      · rw [decide_eq_false (show ¬ (k : Int) < (met.length : Int) by omega)]
        walk_at "go"
        exact ⟨met, zf, _, _, _, eM, eS, tf, nz, bf, .inr ⟨by omega, by omega⟩, rfl⟩
    · rintro σ J ⟨s6, eL, met, zf, v3, v9, v10, eM, eS, tf, nz, bf, kk, rfl⟩
      have bfn := bf.nodup
      have lz' : (tb zf).length = zf.length := List.length_map ..
      walk_at "go"
      refine q Fo zf J s6 nFoH tf (fun z m => (nz z m).2.2.2) (.inr ⟨met, bf.nf wf (by omega) (fun i => ?_) ?_⟩)
      · rw [List.mem_range]
        constructor
        · intro hi
          exact ⟨met[i], List.getElem?_eq_getElem (by omega), List.mem_range.mpr (bf.live _ (List.getElem_mem (by omega))).1⟩
        · rintro ⟨s, e, _⟩
          have := (List.getElem?_eq_some_iff.mp e).1
          omega
      · exact List.pairwise_lt_range
end
end Z
set_option pp.maxSteps 700
set_option Elab.async false
set_option linter.all false
set_option maxRecDepth 100000
set_option maxHeartbeats 4000000
open SX (S S_inj S_len S_cat)
namespace Z
open Mc
open PySem PySem.Spec PyProof.Rows L2
open C8 (pss_cut tCut)
local macro_rules | `(tactic| walk_at "num") => `(tactic| first | rfl | omega | decide | exact Nat.le_of_lt (small1000 (by simp)) | exact ⟨by omega, by omega⟩ | exact ⟨by omega, by omega, by omega⟩ | exact ⟨by decide, by decide, by decide⟩ | exact Or.inl ⟨by omega, by omega⟩ | exact Or.inr ⟨by omega, by omega⟩)
local macro_rules | `(tactic| walk_at "go") => `(tactic| repeat (first | refine ⟨_, rfl, ?_⟩ | refine ⟨_, _, rfl, rfl, ?_⟩ | refine ⟨_, _, rfl, ?_⟩ | (refine ⟨_, _, rfl, rfl, ?_, ?_⟩; focus walk_at "num") | refine Or.inl ⟨_, rfl, ?_⟩ | refine ⟨_, _, _, _, rfl, rfl, (by assumption), (by rfl), ?_⟩ | refine ⟨_, _, _, _, _, rfl, (by assumption), (by assumption), (by assumption), (by rfl), ?_⟩ | refine ⟨rfl, ?_⟩ | (refine And.intro ?_ ?_; focus walk_at "num")))
abbrev s_check_rounds : Stmt := topS 22
abbrev N_check_rounds : List Str := ["rounds"]
abbrev P_check_rounds : List Str := ["rounds"]
theorem sc_check_rounds : FnScope N_check_rounds P_check_rounds (defScope s_check_rounds) := ⟨rfl, rfl, rfl, by decide +kernel, rfl, by decide +kernel, by decide +kernel⟩
abbrev s_leads_on : Stmt := topS 44
abbrev N_leads_on : List Str := ["row", "marked", "entry"]
abbrev P_leads_on : List Str := ["row", "marked"]
theorem sc_leads_on : FnScope N_leads_on P_leads_on (defScope s_leads_on) := ⟨rfl, rfl, rfl, by decide +kernel, rfl, by decide +kernel, by decide +kernel⟩
abbrev s_passable_levels : Stmt := topS 45
abbrev N_passable_levels : List Str := ["rows", "rounds", "levels", "lap", "row"]
abbrev P_passable_levels : List Str := ["rows", "rounds"]
theorem sc_passable_levels : FnScope N_passable_levels P_passable_levels (defScope s_passable_levels) := ⟨rfl, rfl, rfl, by decide +kernel, rfl, by decide +kernel, by decide +kernel⟩
abbrev s_numbers_of : Stmt := topS 46
abbrev N_numbers_of : List Str := ["flags", "at", "flag"]
abbrev P_numbers_of : List Str := ["flags"]
theorem sc_numbers_of : FnScope N_numbers_of P_numbers_of (defScope s_numbers_of) := ⟨rfl, rfl, rfl, by decide +kernel, rfl, by decide +kernel, by decide +kernel⟩
abbrev s_passable : Stmt := topS 47
abbrev N_passable : List Str := ["rule", "rounds"]
abbrev P_passable : List Str := ["rule", "rounds"]
theorem sc_passable : FnScope N_passable P_passable (defScope s_passable) := ⟨rfl, rfl, rfl, by decide +kernel, rfl, by decide +kernel, by decide +kernel⟩
abbrev s_closed_states : Stmt := topS 48
abbrev N_closed_states : List Str := ["rule", "rows"]
abbrev P_closed_states : List Str := ["rule"]
theorem sc_closed_states : FnScope N_closed_states P_closed_states (defScope s_closed_states) := ⟨rfl, rfl, rfl, by decide +kernel, rfl, by decide +kernel, by decide +kernel⟩
abbrev s_rounds_needed : Stmt := topS 49
abbrev N_rounds_needed : List Str := ["rule", "rows", "rounds", "flags"]
abbrev P_rounds_needed : List Str := ["rule"]
theorem sc_rounds_needed : FnScope N_rounds_needed P_rounds_needed (defScope s_rounds_needed) := ⟨rfl, rfl, rfl, by decide +kernel, rfl, by decide +kernel, by decide +kernel⟩
def ldr (al : Nat → Bool) (row : List (Option Nat)) : Bool := elB al (row.getD 3 none) || (elB al (row.getD 0 none) && (elB al (row.getD 1 none) && elB al (row.getD 2 none)))
def lvl (R : Tbl) : Nat → Nat → Bool
  | 0, _ => true
  | t + 1, s => ldr (lvl R t) (R.getD s [])
theorem four_of {α : Type} {l : List α} (h : l.length = 4) : ∃ a b c d, l = [a, b, c, d] := by
  match l, h with
  | [a, b, c, d], _ => exact ⟨a, b, c, d, rfl⟩
section
variable {P : Program} {w : World} {K : PySem.W.Frag} {mg : Str → Option Value} {base : Heap} {f C CB : Addr} {fd : FuncData}
def spCkR9 (CB : Addr) : Sp := fun vs H Q E => ∃ r : Int, vs = [.int r] ∧ (0 ≤ r ∧ r ≤ 40 → Q .non H) ∧ (¬ (0 ≤ r ∧ r ≤ 40) → ∀ d, H d = none → E (.ref CB) (some d) (upd H d (.xd [("value", .int r)])))
def spLdo (K : PySem.W.Frag) : Sp := fun vs H Q _ => ∃ (n : Nat) (r L : Addr) (row : List (Option Nat)) (al : Nat → Bool), vs = [.ref r, .ref L] ∧ SqT K H r (row.map eV) ∧ row.length = 4 ∧ (∀ e, some e ∈ row → e < n) ∧ H L = some (.lst (bls n al)) ∧ ∀ H', Same H H' → Q (.bl (ldr al row)) H'
theorem ok_leads_on (F : FnP K "leads_on" s_leads_on f fd) (m_all : mg "all" = none) : FnOk P w K mg base CX0 1 f fd P_leads_on (spLdo K) := by
  refine F.ok sc_leads_on (fun vs H Q E h => ?_) (fun cdv A outer s H vs Q E hr h => ?_)
  · obtain ⟨n, r, L, row, al, rfl, _⟩ := h
    rfl
  · obtain ⟨n, r, L, row, al, rfl, hr0, lr, hent, eL, q⟩ := h
    refine ⟨_, PSs.nox (pss_cut (ps_if (PW.pt (pw_and (pt_cmpR op_notN (pe_ix ix_tup (pv 0) pe_int (fun _ _ => rfl)) pe_non (nomark _)) (pw_and1 (pt_val (pe_ix ix_list (pv 1) (pe_ix ix_tup (pv 0) pe_int (fun _ _ => rfl)) (fun _ _ => rfl)))))) (pss_one (ps_ret pe_bl)) pss_nil)
      (pss_one (ps_ret (pe_callB (cr_all rfl) (by rfl) m_all (by decide +kernel) (pa_cons (pe_lc (own := [("entry", 2)]) (g := (gName 2)) (tt := tYes) (by rfl) sc_leads_on.nd (pi_tup (pe_slice sl_tup (pv 0) po_none (po_some pe_int))) (blkOk_by (own := [("entry", 2)]) (N := N_leads_on) (sc := defScope s_leads_on) (by decide +kernel)) (fun _ _ _ _ _ => (pg_name (i := 2) sc_leads_on.nd rfl (by first | exact .inl rfl | exact .inr rfl))) (fun _ _ _ _ _ => pts_nil) (fun _ _ _ _ _ => (pe_and (pe_cmpR op_notN (pv 2) pe_non (nomark _)) (pe_one (pe_ix (ix_list_K (K := K) rfl) (pv 1) (pv 2) (fun _ _ => rfl)))))) pa_nil))))), ?_⟩
    obtain ⟨o0, o1, o2, o3, rfl⟩ := four_of lr
    have hf : ldr al [o0, o1, o2, o3] = (elB al o3 || (elB al o0 && (elB al o1 && elB al o2))) := rfl
    have a3 : atI ([o0, o1, o2, o3].map eV) 3 = some (eV o3) := atI_nat (j := 3) rfl
    rw [hf] at q
    refine ⟨fun σ' J => J = H ∧ elB al o3 = false ∧ σ' = [some (.ref r), some (.ref L), none], ?_, ?_⟩
    · cases o3 with
      | none =>
        walk_at "go"
        rfl
      | some e =>
        have he := hent e (by simp)
        walk_at "go"
        refine ⟨L, _, _, _, rfl, rfl, SqL.of eL, bls_at he, ?_⟩
        cases c : al e with
        | true =>
          rw [show elB al (some e) = al e from rfl, c] at q
          walk_at "go"
          exact q _ (Same.refl _)
        | false =>
          walk_at "go"
          exact ⟨c, rfl⟩
    rintro σ' J ⟨rfl, h3, rfl⟩
    rw [h3, Bool.false_or] at q
    walk_at "go"
    refine ⟨r, _, rfl, hr0, fun h => absurd (show (3 : Nat) = 4 from h.2) (by decide), ?_⟩
    intro p np
    have s1 := same_new (o := .tup (cutV ([o0, o1, o2, o3].map eV) none (some 3))) np
    have ep : (upd J p (.tup (cutV ([o0, o1, o2, o3].map eV) none (some 3)))) p = some (.tup ([o0, o1, o2].map eV)) := upd_same
    generalize upd J p (.tup (cutV ([o0, o1, o2, o3].map eV) none (some 3))) = J1 at s1 ep
    have hp : SqT K J1 p ([o0, o1, o2].map eV) := SqT.of ep
    walk_at "go"
    refine ⟨⟨_, hp⟩, ?_⟩
    intro B nB
    refine lc_flt (n := 3) (fun i => eV ([o0, o1, o2].getD i none)) (fun _ => true) (fun i => .bl (elB al ([o0, o1, o2].getD i none))) (by omega) nB (fun i J3 hi s6 => ⟨_, _, Z.Same.sqK s6 (b := false) hp, row_at (r := [o0, o1, o2]) hi⟩) (fun J3 s6 => ⟨_, Z.Same.sqK s6 (b := false) hp, Nat.le_refl 3⟩) (fun i J3 x J4 hi s6 y => ?_) (fun i => rfl) (fun i J3 Q1 hi s6 q1 => q1 _ (Same.refl _)) (fun i J3 Q1 hi _ s6 q1 => ?_) (fun J3 s6 eB => ?_)
    · obtain ⟨rfl, ex⟩ := y
      have ex := ex _ (Z.Same.sqK s6 (b := false) hp)
      rw [row_at (r := [o0, o1, o2]) hi] at ex
      cases ex
      exact ⟨Same.refl _, rfl⟩
    · have q1 := q1 _ (Same.refl _)
      have mi : ∀ e, [o0, o1, o2].getD i none = some e → e < n := fun e h => hent e (by
        obtain rfl | rfl | rfl : i = 0 ∨ i = 1 ∨ i = 2 := by omega
        · have h : o0 = some e := h
          rw [h]; simp
        · have h : o1 = some e := h
          rw [h]; simp
        · have h : o2 = some e := h
          rw [h]; simp)
      cases e2 : [o0, o1, o2].getD i none with
      | none =>
        rw [e2] at q1
        walk_at "go"
        exact q1
      | some e =>
        rw [e2] at q1
        have he := mi e e2
        dsimp only [eV]
        walk_at "go"
        exact ⟨L, _, _, _, rfl, rfl, SqL.of ((s1.trans s6) _ _ eL), bls_at he, q1⟩
    walk_at "go"
    refine ⟨B, [elB al o0, elB al o1, elB al o2], rfl, SqL.of eB, ?_⟩
    have e9 : ([elB al o0, elB al o1, elB al o2].all id) = (elB al o0 && (elB al o1 && elB al o2)) := by
      simp [List.all_cons]
    rw [e9]
    exact q _ (s1.trans s6)
theorem last_of {ls : List Addr} {k : Nat} {lk : Addr} (h : ls[k]? = some lk) (ll : ls.length = k + 1) : atI (ls.map V.ref) (-1) = some (.ref lk) := by
  have e1 : ls = ls.take k ++ [lk] := by
    have := List.take_succ (l := ls) (i := k)
    rw [h] at this
    rw [← List.take_of_length_le (l := ls) (i := k + 1) (by omega)]
    conv => lhs; rw [this]
    rw [List.take_of_length_le (l := ls) (i := k + 1) (by omega)]
    rfl
  rw [e1, List.map_append]
  exact atI_last _ _
/-- the levels -/
def spPlv (K : PySem.W.Frag) : Sp := fun vs H Q _ => ∃ (a : Addr) (zr : List (Addr × List (Option Nat))) (t : Nat), vs = [.ref a, .int (t : Int)] ∧ Tb false false K H a zr ∧ Wf (tb zr) 4 ∧ zr.length ≤ 100 ∧ t ≤ 100 ∧ ∀ (L : Addr) (ls : List Addr) H', Same H H' → H L = none → H' L = some (.lst (ls.map V.ref)) → ls.length = t + 1 → (∀ i l, ls[i]? = some l → H' l = some (.lst (bls zr.length (lvl (tb zr) i)))) → Q (.ref L) H'
theorem ok_passable_levels (F : FnP K "passable_levels" s_passable_levels f fd) (m_len : mg "len" = none) (m_range : mg "range" = none) (c_leads_on : Cal P w K mg base 1 "leads_on" (spLdo K)) : FnOk P w K mg base CX0 2 f fd P_passable_levels (spPlv K) := by
  refine F.ok sc_passable_levels (fun vs H Q E h => ?_) (fun cdv A outer s H vs Q E hr h => ?_)
  · obtain ⟨a, zr, t, rfl, _⟩ := h
    rfl
  · obtain ⟨a, zr, t, rfl, hR, wf, lz, lt, q⟩ := h
    refine ⟨_, PSs.nox (pss_cons (ps_set (i := 2) sc_passable_levels.nd rfl (by first | exact .inl rfl | exact .inr rfl) (pe_lst (pa_cons (pe_op op_rep (pe_lst (pa_cons pe_bl pa_nil)) (pe_callB call_len_seq (by rfl) m_len PySem.boot_len (pa_cons (pv 0) pa_nil))) pa_nil)))
      (pss_cons (ps_for PassesOwn.never rfl (pi_range1 (by rfl) m_range (pa_cons (pv 1) pa_nil)) (pg_name (i := 3) sc_passable_levels.nd rfl (by first | exact .inl rfl | exact .inr rfl))
        (pss_one (ps_expr (pe_bm PySem.F.plainAttrs_list PySem.F.slot_list_append PySem.F.type_list_append mt_append (pv 2) (pa_cons (pe_lc (own := [("row", 4)]) (g := (gName 4)) (tt := tYes) (by rfl) sc_passable_levels.nd (pi_tup (pv 0)) (blkOk_by (own := [("row", 4)]) (N := N_passable_levels) (sc := defScope s_passable_levels) (by decide +kernel)) (fun _ _ _ _ _ => (pg_name (i := 4) sc_passable_levels.nd rfl (by first | exact .inl rfl | exact .inr rfl))) (fun _ _ _ _ _ => pts_nil) (fun _ _ _ _ _ => (pe_cl c_leads_on hr (by decide) (by rfl) (pa_cons (pv 4) (pa_cons (pe_ix (ix_list_K (K := K) rfl) (pv 2) (pe_un un_neg pe_int) (fun _ _ => rfl)) pa_nil))))) pa_nil)))))
      (pss_one (ps_ret (pv 2))))), ?_⟩
    have lR : (tb zr).length = zr.length := List.length_map ..
    walk_at "go"
    intro l0 nl0
    generalize eH_ : upd H l0 _ = H1
    have s1 : Same H H1 := by rw [← eH_]; exact same_new nl0
    have el0 : H1 l0 = some (.lst [.bl true]) := by rw [← eH_]; exact upd_same
    clear eH_
    walk_at "go"
    refine ⟨a, _, rfl, .inr (Z.Same.sqK s1 (b := false) hR.sq), ?_⟩
    rw [List.length_map]
    refine ⟨l0, _, _, rfl, rfl, el0, by omega, by omega, by rw [Int.toNat_natCast]; exact szl (by show 1 * zr.length ≤ 2000; omega), ?_⟩
    intro l1 n1
    have s2 := same_new (o := .lst (List.replicate (zr.length : Int).toNat [V.bl true]).flatten) n1
    have e1 : (upd H1 l1 (.lst (List.replicate (zr.length : Int).toNat [V.bl true]).flatten)) l1 = some (.lst (bls zr.length (lvl (tb zr) 0))) := by
      rw [upd_same, Int.toNat_natCast]
      congr 2
      unfold bls
      rw [show (fun i => V.bl (lvl (tb zr) 0 i)) = fun _ => V.bl true from rfl, List.map_const', List.length_range]
      generalize zr.length = n
      induction n with
      | zero => rfl
      | succ n ih => rw [List.replicate_succ, List.flatten_cons, ih, List.replicate_succ]; rfl
    generalize upd H1 l1 (.lst (List.replicate (zr.length : Int).toNat [V.bl true]).flatten) = H2 at s2 e1
    walk_at "go"
    intro L nL
    have s3 := same_new (o := .lst [.ref l1]) nL
    have eL : (upd H2 L (.lst [.ref l1])) L = some (.lst ([l1].map V.ref)) := upd_same
    have e13 := s3 _ _ e1
    have Ll : l1 ≠ L := ne_of_none e1 nL
    generalize upd H2 L (.lst [.ref l1]) = H3 at s3 eL e13
    have nLH := none_of (s1.trans s2) nL
    have s4 := s1.trans (s2.trans s3)
    clear s1 s2 s3 el0 e1 nL n1
    walk_at "go"
    refine for_gen (n := t) (fun k σ J => Same H J ∧ ∃ (ls : List Addr) (v3 : Option V), J L = some (.lst (ls.map V.ref)) ∧ ls.length = k + 1 ∧ (∀ i l, ls[i]? = some l → J l = some (.lst (bls zr.length (lvl (tb zr) i))) ∧ l ≠ L) ∧ σ = [some (.ref a), some (.int (t : Int)), some (.ref L), v3, none]) ⟨s4, [l1], none, eL, rfl, fun i l e => ?_, rfl⟩ ?_ ?_ ?_ ?_
    · have h1 := (List.getElem?_eq_some_iff.mp e).1
      have h1 : i < 1 := h1
      have : i = 0 := by omega
      subst this
      cases e
      exact ⟨e13, Ll⟩
    · intro k σ J hk _
      show k < ((t : Int)).toNat
      omega
    · intro σ J _
      show ((t : Int)).toNat ≤ t
      omega
    · rintro k σ J x J' hk ⟨s5, ls, v3, eL, ll, hl, rfl⟩ ⟨rfl, rfl⟩
      obtain ⟨lk, hlk⟩ : ∃ lk, ls[k]? = some lk := ⟨_, List.getElem?_eq_getElem (by omega)⟩
      have elk := (hl k lk hlk).1
      have aL := last_of hlk ll
      have hR5 := hR.mono s5
      walk_at "go"
      refine ⟨.inl ⟨rfl, _, SqL.of eL⟩, ?_⟩
      walk_at "go"
      refine ⟨⟨_, hR5.sq⟩, ?_⟩
      intro D nD
      have lz' : (zr.map fun z => V.ref z.1).length = zr.length := List.length_map ..
      refine lc_flt (n := zr.length) (fun i => .ref (zr.getD i (0, [])).1) (fun _ => true) (fun i => .bl (lvl (tb zr) (k + 1) i)) (by omega) nD (fun i J3 hi s6 => ⟨_, .ref (zr.getD i (0, [])).1, Z.Same.sqK s6 (b := false) hR5.sq, by rw [List.getElem?_map, List.getD_eq_getElem?_getD, List.getElem?_eq_getElem hi]; rfl⟩) (fun J3 s6 => ⟨_, Z.Same.sqK s6 (b := false) hR5.sq, by rw [lz']; omega⟩) (fun i J3 x J4 hi s6 y => ?_) (fun i => rfl) (fun i J3 Q1 hi s6 q1 => q1 _ (Same.refl _)) (fun i J3 Q1 hi _ s6 q1 => ?_) (fun J3 s6 eB => ?_)
      · obtain ⟨rfl, ex⟩ := y
        have ex := ex _ (Z.Same.sqK s6 (b := false) hR5.sq)
        rw [List.getElem?_map, List.getElem?_eq_getElem hi] at ex
        cases ex
        refine ⟨Same.refl _, ?_⟩
        rw [List.getD_eq_getElem?_getD, List.getElem?_eq_getElem hi]
        rfl
      · obtain ⟨z, ez, eT⟩ := row_of (T := tb zr) rfl hi
        have mz : z.2 ∈ tb zr := List.mem_map.mpr ⟨z, List.mem_of_getElem? ez, rfl⟩
        rw [show (zr.getD i (0, [])).1 = z.1 by rw [List.getD_eq_getElem?_getD, ez]; rfl]
        walk_at "go"
        refine ⟨L, _, _, _, rfl, rfl, SqL.of (s6 _ _ eL), aL, ?_⟩
        walk_at "go"
        refine ⟨zr.length, z.1, lk, z.2, lvl (tb zr) k, rfl, Z.Same.sqK s6 (b := false) (hR5.at_ z (List.mem_of_getElem? ez)), wf.row _ mz, fun e he => by rw [← lR]; exact wf.ent _ mz e he, s6 _ _ elk, fun J4 s7 => ?_⟩
        have : lvl (tb zr) (k + 1) i = ldr (lvl (tb zr) k) z.2 := by
          show ldr _ _ = _
          rw [eT]
        rw [this] at q1
        exact q1 _ s7
      have eB : J3 D = some (.lst (bls zr.length (lvl (tb zr) (k + 1)))) := by
        rw [eB, fltL_all]
        rfl
      have DL : L ≠ D := ne_of_none eL nD
      walk_at "go"
      refine ⟨L, _, _, rfl, rfl, s6 _ _ eL, by rw [List.length_map]; exact szC (by omega), ?_⟩
      refine ⟨Z.Same.mut (s5.trans s6) nLH, ls ++ [D], _, by rw [upd_same, List.map_append]; rfl, by rw [List.length_append, ll]; rfl, fun i l e => ?_, rfl⟩
      by_cases c : i < ls.length
      · rw [List.getElem?_append_left c] at e
        obtain ⟨h1, h2⟩ := hl i l e
        exact ⟨by rw [upd_ne h2]; exact s6 _ _ h1, h2⟩
      · rw [List.getElem?_append_right (by omega)] at e
        have h1 := (List.getElem?_eq_some_iff.mp e).1
        have h1 : i - ls.length < 1 := h1
        rw [show i - ls.length = 0 by omega] at e
        cases e
        rw [show i = k + 1 by omega]
        exact ⟨by rw [upd_ne DL.symm]; exact eB, DL.symm⟩
    · rintro σ J ⟨s5, ls, v3, eL, ll, hl, rfl⟩
      walk_at "go"
      exact q L ls J s5 nLH eL ll fun i l e => (hl i l e).1
theorem lvl_none (R : Tbl) : ∀ t s : Nat, s < 0 → lvl R t s = lvl R t s := fun _ _ _ => rfl
/-- the states that a list of flags marks -/
def flg (n : Nat) (al : Nat → Bool) : List Nat := (List.range n).filter al
def spNum : Sp := fun vs H Q _ => ∃ (L : Addr) (n : Nat) (al : Nat → Bool), vs = [.ref L] ∧ H L = some (.lst (bls n al)) ∧ n ≤ 100 ∧ ∀ (t : Addr) H', Same H H' → H t = none → H' t = some (.tup (gsq (flg n al))) → Q (.ref t) H'
theorem ok_numbers_of (F : FnP K "numbers_of" s_numbers_of f fd) (m_tuple : mg "tuple" = none) (m_enumerate : mg "enumerate" = none) : FnOk P w K mg base CX0 1 f fd P_numbers_of spNum := by
  refine F.ok sc_numbers_of (fun vs H Q E h => ?_) (fun cdv A outer s H vs Q E hr h => ?_)
  · obtain ⟨L, n, al, rfl, _⟩ := h
    rfl
  · obtain ⟨L, n, al, rfl, eL, ln, q⟩ := h
    refine ⟨_, PSs.nox (pss_one (ps_ret (pe_callTy call_tuple_of (by rfl) m_tuple (by decide +kernel) (pa_cons (pe_lc (own := [("at", 1), ("flag", 2)]) (g := (gTup K 2 (gCons (gName 1) (gCons (gName 2) gNil)))) (by rfl) sc_numbers_of.nd (pi_enumM (by rfl) m_enumerate (pa_cons (pv 0) pa_nil)) (blkOk_by (own := [("at", 1), ("flag", 2)]) (N := N_numbers_of) (sc := defScope s_numbers_of) (by decide +kernel)) (fun _ _ _ _ _ => (pg_tup rfl (pgs_cons (pg_name (i := 1) sc_numbers_of.nd rfl (by first | exact .inl rfl | exact .inr rfl)) (pgs_cons (pg_name (i := 2) sc_numbers_of.nd rfl (by first | exact .inl rfl | exact .inr rfl)) pgs_nil)))) (fun _ _ _ _ _ => (pts_one (pt_val (pv 2)))) (fun _ _ _ _ _ => (pv 1))) pa_nil)))), ?_⟩
    walk_at "go"
    refine ⟨true, _, _, rfl, SqL.of eL, ?_⟩
    intro D nD
    refine lc_gen (n := n) (fun k J => Same H J ∧ J D = some (.lst (gsq (flg k al)))) ⟨same_new nD, upd_same⟩ ?_ ?_ ?_ ?_
    · rintro k J hk ⟨s5, _⟩
      exact ⟨_, .bl (al k), SqL.of (s5 _ _ eL), by unfold bls; rw [List.getElem?_map, List.getElem?_range hk]; rfl⟩
    · rintro J ⟨s5, _⟩
      exact ⟨_, SqL.of (s5 _ _ eL), bls_len _ _⟩
    · rintro k J x J' hk ⟨s5, eD⟩ ⟨Tt, z, rfl, nT, rfl, e⟩
      have hx := e _ (SqL.of (s5 _ _ eL))
      unfold bls at hx
      rw [List.getElem?_map, List.getElem?_range hk] at hx
      cases hx
      have sT := same_new (o := .tup [.int ((k : Nat) : Int), .bl (al k)]) nT
      refine ⟨Tt, _, rfl, SqT.of upd_same, rfl, _, _, rfl, _, _, rfl, rfl, ?_⟩
      have fs : flg (k + 1) al = flg k al ++ if al k = true then [k] else [] := by
        unfold flg
        rw [List.range_succ, List.filter_append]
        congr 1
        cases c : al k <;> simp [c]
      have lD : (gsq (flg k al)).length ≤ 1000 := by
        have h1 := List.length_filter_le al (List.range k)
        rw [List.length_range] at h1
        rw [show (gsq (flg k al)).length = (flg k al).length from List.length_map ..]
        unfold flg
        omega
      walk_at "go"
      cases c : al k with
      | true =>
        rw [c, if_pos rfl] at fs
        walk_at "go"
        refine ⟨_, sT _ _ eD, szC (by omega), Z.Same.mut (s5.trans sT) nD, ?_⟩
        rw [upd_same, fs]
        unfold gsq
        rw [List.map_append]
        rfl
      | false =>
        rw [c, if_neg Bool.false_ne_true, List.append_nil] at fs
        walk_at "go"
        rw [fs]
        rw [if_neg Bool.false_ne_true]
        exact ⟨s5.trans sT, sT _ _ eD⟩
    rintro J ⟨s5, eD⟩
    walk_at "go"
    refine ⟨D, _, rfl, .inl ⟨SqL.of eD, fun t nt => ?_⟩⟩
    exact q t _ (s5.trans (same_new nt)) (none_of s5 nt) upd_same
theorem ok_check_rounds (F : FnP K "check_rounds" s_check_rounds f fd) (tok_MOST_ROUNDS : Tok) (g_MOST_ROUNDS : mg "MOST_ROUNDS" = some (.int 40 tok_MOST_ROUNDS)) (x_BadCount : Exn P w K mg base "BadCount" CB "value") : FnOk P w K mg base (L2N.CX P w) 3 f fd P_check_rounds (spCkR9 CB) := by
  refine F.ok sc_check_rounds (fun vs H Q E h => ?_) (fun cdv A outer s H vs Q E hr h => ?_)
  · obtain ⟨r, rfl, _⟩ := h
    rfl
  · obtain ⟨r, rfl, q1, q2⟩ := h
    have tk := takes_fn (P := P) (w := w) (K := K) (mg := mg) (base := base) (N := N_check_rounds) (qual := "check_rounds") (scope := defScope s_check_rounds) (f := f) (cd := cdv) (A := A) (outer := outer) (s := s) (H := H) (E := E)
    refine ⟨_, (pss_one (ps_if (PW.pt (pw_or (pt_cmpR op_lt (pv 0) pe_int (nomark _)) (pw_or1 (pt_cmpR op_gt (pv 0) (pe_glob (v := .int 40) (by rfl) g_MOST_ROUNDS ⟨_, rfl⟩) (nomark _))))) (pss_one (ps_exn rfl tk x_BadCount hr (by decide) (by rfl) (pa_cons (pv 0) pa_nil))) pss_nil)), ?_⟩
    walk_at "go"
    by_cases c1 : r < 0
    · rw [decide_eq_true c1]
      walk_at "go"
      exact mkx_of fun d nd => q2 (by omega) d nd
    · rw [decide_eq_false c1]
      walk_at "go"
      by_cases c2 : 40 < r
      · rw [decide_eq_true c2]
        walk_at "go"
        exact mkx_of fun d nd => q2 (by omega) d nd
      · rw [decide_eq_false c2]
        walk_at "go"
        exact q1 ⟨by omega, by omega⟩
/-- R is the normal form of the unending texts of L -/
def Unf (L : Lg) (R : Tbl) : Prop := ∃ (T : Tbl) (G : Nat → Prop) (g : List Nat), Nf T G 4 R g ∧ ∀ w, AccS T G w ↔ UnL L w
theorem Unf.wf {L : Lg} {R : Tbl} (h : Unf L R) : Wf R 4 := by
  obtain ⟨T, G, g, h, _⟩ := h
  exact h.wf.1
theorem Unf.eq {L : Lg} {R R' : Tbl} (h : Unf L R) (h' : Unf L R') : R = R' := by
  obtain ⟨T, G, g, h1, h2⟩ := h
  obtain ⟨T', G', g', h3, h4⟩ := h'
  exact (h1.uniq h3 fun w => (h2 w).trans (h4 w).symm).1
/-- the rows of rule.unending() -/
theorem McL.un {H : Hp} {n : Addr} {sz : Nat} {L : Lg} (h : McL C K H n LT sz (UnL L)) : ∃ (dx r u : Addr) (zr : List (Addr × List (Option Nat))), H n = some (.ins C dx (mF LT r u)) ∧ Tb false false K H r zr ∧ Unf L (tb zr) ∧ zr.length ≤ sz := by
  obtain ⟨R, g, T, G, h1, h2, hz, h3⟩ := h.ex
  obtain ⟨dx, r, u, zr, e, hR, hu, rfl⟩ := h1.ex
  refine ⟨dx, r, u, zr, e, hR, ⟨T, G, g, h2, h3⟩, ?_⟩
  unfold tb at hz
  rwa [List.length_map] at hz
def spPas (C CB : Addr) (K : PySem.W.Frag) : Sp := fun vs H Q E => ∃ (n : Addr) (sz : Nat) (L : Lg) (R : Tbl) (t : Int), vs = [.ref n, .int t] ∧ McL C K H n LT sz L ∧ sz ≤ 12 ∧ Unf L R ∧ (∀ k : Nat, t = (k : Int) → k ≤ 40 → ∀ (a : Addr) H', Same H H' → H a = none → H' a = some (.tup (gsq (flg R.length (lvl R k)))) → Q (.ref a) H') ∧ (¬ (0 ≤ t ∧ t ≤ 40) → ∀ d, H d = none → E (.ref CB) (some d) (upd H d (.xd [("value", .int t)])))
theorem ok_passable_ (F : FunD K "passable" "passable" (defArgs s_passable) (defBody s_passable) (defScope s_passable) [] [] f fd) (cls : Cls K C) (n_rows : NoAttr K C "rows") (c_check_rounds : CalX P w K mg base 3 "check_rounds" (spCkR9 CB)) (c_numbers_of : Cal P w K mg base 1 "numbers_of" spNum) (c_passable_levels : Cal P w K mg base 2 "passable_levels" (spPlv K)) (me_unending : Met P w K mg base 6 C "unending" (spMe UnL C K)) : FnOk P w K mg base (L2N.CX P w) 7 f fd P_passable (spPas C CB K) := by
  refine F.ok sc_passable (fun vs H Q E h => ?_) (fun cdv A outer s H vs Q E hr h => ?_)
  · obtain ⟨n, sz, L, R, t, rfl, _⟩ := h
    rfl
  · obtain ⟨n, sz, L, R, t, rfl, hM, lsz, hU, q1, q2⟩ := h
    have tk := takes_fn (P := P) (w := w) (K := K) (mg := mg) (base := base) (N := N_passable) (qual := "passable") (scope := defScope s_passable) (f := f) (cd := cdv) (A := A) (outer := outer) (s := s) (H := H) (E := E)
    refine ⟨_, (pss_cons (ps_expr (pe_clE c_check_rounds (fun σ => L2N.passAt tk σ) hr (by decide) (by rfl) (pa_cons (pv 1) pa_nil)))
      (pss_one (ps_ret (pe_cl c_numbers_of hr (by decide) (by rfl) (pa_cons (pe_ix ix_list (pe_cl c_passable_levels hr (by decide) (by rfl) (pa_cons (pe_fld (pe_me0 me_unending (pv 0) hr (by decide)) rfl) (pa_cons (pv 1) pa_nil))) (pe_un un_neg pe_int) (fun _ _ => rfl)) pa_nil))))), ?_⟩
    walk_at "go"
    refine ⟨fun ht => ?_, fun ht d nd => q2 ht d nd⟩
    obtain ⟨k, rfl⟩ : ∃ k : Nat, t = (k : Int) := ⟨t.toNat, by omega⟩
    obtain ⟨dx0, r0, u0, en0⟩ := hM.ins
    have ndL : LT.Nodup := by decide
    walk_at "go"
    refine ⟨n, dx0, _, rfl, en0, by rfl, ?_⟩
    refine ⟨n, LT, sz, L, rfl, hM, ndL, by decide, by decide, by omega, fun n' H1 s1 _ hM' => ?_⟩
    obtain ⟨dx, r, u, zr, en, hR, hU', lzr⟩ := hM'.un
    obtain rfl := hU.eq hU'
    walk_at "go"
    refine ⟨r, zr, k, rfl, hR, hU.wf, by omega, by omega, fun Ll ls H2 s2 _ eLl ll hl => ?_⟩
    obtain ⟨lk, hlk⟩ : ∃ lk, ls[k]? = some lk := ⟨_, List.getElem?_eq_getElem (by omega)⟩
    walk_at "go"
    refine ⟨Ll, _, _, _, rfl, rfl, SqL.of eLl, last_of hlk ll, ?_⟩
    walk_at "go"
    refine ⟨lk, zr.length, _, rfl, hl k lk hlk, by omega, fun a H3 s3 na ea => ?_⟩
    exact q1 k rfl (by omega) a H3 (s1.trans (s2.trans s3)) (none_of (s1.trans s2) na) (by rw [ea, show (tb zr).length = zr.length from List.length_map ..])
def spCls (C : Addr) (K : PySem.W.Frag) : Sp := fun vs H Q _ => ∃ (n : Addr) (sz : Nat) (L : Lg) (R : Tbl), vs = [.ref n] ∧ McL C K H n LT sz L ∧ sz ≤ 12 ∧ Unf L R ∧ ∀ (a : Addr) H', Same H H' → H a = none → H' a = some (.tup (gsq (flg R.length (lvl R R.length)))) → Q (.ref a) H'
theorem ok_closed_states (F : FnP K "closed_states" s_closed_states f fd) (m_len : mg "len" = none) (cls : Cls K C) (n_rows : NoAttr K C "rows") (c_numbers_of : Cal P w K mg base 1 "numbers_of" spNum) (c_passable_levels : Cal P w K mg base 2 "passable_levels" (spPlv K)) (me_unending : Met P w K mg base 6 C "unending" (spMe UnL C K)) : FnOk P w K mg base CX0 7 f fd P_closed_states (spCls C K) := by
  refine F.ok sc_closed_states (fun vs H Q E h => ?_) (fun cdv A outer s H vs Q E hr h => ?_)
  · obtain ⟨n, sz, L, R, rfl, _⟩ := h
    rfl
  · obtain ⟨n, sz, L, R, rfl, hM, lsz, hU, q⟩ := h
    refine ⟨_, PSs.nox (pss_cons (ps_set (i := 1) sc_closed_states.nd rfl (by first | exact .inl rfl | exact .inr rfl) (pe_fld (pe_me0 me_unending (pv 0) hr (by decide)) rfl))
      (pss_one (ps_ret (pe_cl c_numbers_of hr (by decide) (by rfl) (pa_cons (pe_ix ix_list (pe_cl c_passable_levels hr (by decide) (by rfl) (pa_cons (pv 1) (pa_cons (pe_callB call_len_seq (by rfl) m_len PySem.boot_len (pa_cons (pv 1) pa_nil)) pa_nil))) (pe_un un_neg pe_int) (fun _ _ => rfl)) pa_nil))))), ?_⟩
    obtain ⟨dx0, r0, u0, en0⟩ := hM.ins
    have ndL : LT.Nodup := by decide
    walk_at "go"
    refine ⟨n, dx0, _, rfl, en0, by rfl, ?_⟩
    refine ⟨n, LT, sz, L, rfl, hM, ndL, by decide, by decide, by omega, fun n' H1 s1 _ hM' => ?_⟩
    obtain ⟨dx, r, u, zr, en, hR, hU', lzr⟩ := hM'.un
    obtain rfl := hU.eq hU'
    have lT : (tb zr).length = zr.length := List.length_map ..
    walk_at "go"
    refine ⟨r, _, rfl, .inr hR.sq, ?_⟩
    rw [List.length_map]
    refine ⟨r, zr, zr.length, rfl, hR, hU.wf, by omega, by omega, fun Ll ls H2 s2 _ eLl ll hl => ?_⟩
    obtain ⟨lk, hlk⟩ : ∃ lk, ls[zr.length]? = some lk := ⟨_, List.getElem?_eq_getElem (by omega)⟩
    walk_at "go"
    refine ⟨Ll, _, _, _, rfl, rfl, SqL.of eLl, last_of hlk ll, ?_⟩
    walk_at "go"
    refine ⟨lk, zr.length, _, rfl, hl _ lk hlk, by omega, fun a H3 s3 na ea => ?_⟩
    exact q a H3 (s1.trans (s2.trans s3)) (none_of (s1.trans s2) na) (by rw [ea, lT])
/-- the fewest rounds -/
def need (R : Tbl) (n : Nat) : Option Nat := (List.range (n + 1)).find? fun t => !lvl R t 0
theorem need_some {R : Tbl} {n k : Nat} (hk : k ≤ n) (h : lvl R k 0 = false) (hl : ∀ t, t < k → lvl R t 0 = true) : need R n = some k := by
  unfold need
  rw [List.find?_range_eq_some]
  exact ⟨by rw [h]; rfl, List.mem_range.mpr (by omega), fun t ht => by rw [hl t ht]; rfl⟩
theorem need_none {R : Tbl} {n : Nat} (hl : ∀ t, t < n + 1 → lvl R t 0 = true) : need R n = none := by
  unfold need
  rw [List.find?_eq_none]
  intro t ht
  rw [hl t (List.mem_range.mp ht)]
  exact fun h => Bool.false_ne_true h
def spNed (C : Addr) (K : PySem.W.Frag) : Sp := fun vs H Q _ => ∃ (n : Addr) (sz : Nat) (L : Lg), vs = [.ref n] ∧ McL C K H n LT sz L ∧ sz ≤ 12 ∧ ∀ R, Unf L R → ∀ H', Same H H' → Q (eV (if R.length = 0 then some 0 else need R R.length)) H'
theorem ok_rounds_needed (F : FnP K "rounds_needed" s_rounds_needed f fd) (m_len : mg "len" = none) (m_enumerate : mg "enumerate" = none) (cls : Cls K C) (n_rows : NoAttr K C "rows") (c_passable_levels : Cal P w K mg base 2 "passable_levels" (spPlv K)) (me_unending : Met P w K mg base 6 C "unending" (spMe UnL C K)) : FnOk P w K mg base CX0 7 f fd P_rounds_needed (spNed C K) := by
  refine F.ok sc_rounds_needed (fun vs H Q E h => ?_) (fun cdv A outer s H vs Q E hr h => ?_)
  · obtain ⟨n, sz, L, rfl, _⟩ := h
    rfl
  · obtain ⟨n, sz, L, rfl, hM, lsz, q⟩ := h
    refine ⟨_, PSs.nox (pss_cons (ps_set (i := 1) sc_rounds_needed.nd rfl (by first | exact .inl rfl | exact .inr rfl) (pe_fld (pe_me0 me_unending (pv 0) hr (by decide)) rfl))
      (pss_cons (ps_if (pt_cmpR op_eq (pe_callB call_len_seq (by rfl) m_len PySem.boot_len (pa_cons (pv 1) pa_nil)) pe_int (nomark _)) (pss_one (ps_ret pe_int)) pss_nil)
      (pss_cons (ps_for PassesOwn.never rfl (pi_enumM (by rfl) m_enumerate (pa_cons (pe_cl c_passable_levels hr (by decide) (by rfl) (pa_cons (pv 1) (pa_cons (pe_callB call_len_seq (by rfl) m_len PySem.boot_len (pa_cons (pv 1) pa_nil)) pa_nil))) pa_nil)) (pg_tup rfl (pgs_cons (pg_name (i := 2) sc_rounds_needed.nd rfl (by first | exact .inl rfl | exact .inr rfl)) (pgs_cons (pg_name (i := 3) sc_rounds_needed.nd rfl (by first | exact .inl rfl | exact .inr rfl)) pgs_nil)))
        (pss_one (ps_if (pt_not (pt_val (pe_ix ix_list (pv 3) pe_int (fun _ _ => rfl)))) (pss_one (ps_ret (pv 2))) pss_nil)))
      (pss_one (ps_ret pe_non))))), ?_⟩
    obtain ⟨dx0, r0, u0, en0⟩ := hM.ins
    have ndL : LT.Nodup := by decide
    walk_at "go"
    refine ⟨n, dx0, _, rfl, en0, by rfl, ?_⟩
    refine ⟨n, LT, sz, L, rfl, hM, ndL, by decide, by decide, by omega, fun n' H1 s1 _ hM' => ?_⟩
    obtain ⟨dx, r, u, zr, en, hR, hU', lzr⟩ := hM'.un
    have hU := hU'
    have q := q _ hU'
    have lT : (tb zr).length = zr.length := List.length_map ..
    walk_at "go"
    refine ⟨r, _, rfl, .inr hR.sq, ?_⟩
    rw [List.length_map]
    walk_at "go"
    by_cases c0 : zr.length = 0
    · rw [decide_eq_true (show V.int (zr.length : Int) = V.int 0 by rw [c0]; rfl)]
      rw [if_pos (by omega)] at q
      walk_at "go"
      exact q _ s1
    rw [if_neg (by omega)] at q
    rw [decide_eq_false (show ¬ V.int (zr.length : Int) = V.int 0 from fun z => by injection z with z; omega)]
    walk_at "go"
    refine ⟨r, _, rfl, .inr hR.sq, ?_⟩
    rw [List.length_map]
    refine ⟨r, zr, zr.length, rfl, hR, hU.wf, by omega, by omega, fun Ll ls H2 s2 _ eLl ll hl => ?_⟩
    walk_at "go"
    refine ⟨true, _, _, rfl, SqL.of eLl, ?_⟩
    refine for_gen (n := zr.length + 1) (fun k σ J => Same H2 J ∧ (∀ t, t < k → lvl (tb zr) t 0 = true) ∧ ∃ (v2 v3 : Option V), σ = [some (.ref n), some (.ref r), v2, v3]) ⟨Same.refl _, fun t h => absurd h (Nat.not_lt_zero _), none, none, rfl⟩ ?_ ?_ ?_ ?_
    · rintro k σ J hk ⟨s5, _⟩
      exact ⟨_, .ref (ls[k]'(by omega)), SqL.of (s5 _ _ eLl), by rw [List.getElem?_map, List.getElem?_eq_getElem (by omega)]; rfl⟩
    · rintro σ J ⟨s5, _⟩
      exact ⟨_, SqL.of (s5 _ _ eLl), by rw [List.length_map]; omega⟩
    · rintro k σ J x J' hk ⟨s5, hl5, v2, v3, rfl⟩ ⟨Tt, z, rfl, nT, rfl, e⟩
      have hx := e _ (SqL.of (s5 _ _ eLl))
      rw [List.getElem?_map, List.getElem?_eq_getElem (by omega)] at hx
      cases hx
      have el := hl k _ (List.getElem?_eq_getElem (by omega))
      have sT := same_new (o := .tup [.int ((k : Nat) : Int), .ref (ls[k]'(by omega))]) nT
      have s6 := s5.trans sT
      refine ⟨Tt, _, rfl, SqT.of upd_same, rfl, _, _, rfl, _, _, rfl, rfl, ?_⟩
      walk_at "go"
      refine ⟨_, _, _, _, rfl, rfl, SqL.of (s6 _ _ el), bls_at (i := 0) (by omega), ?_⟩
      walk_at "go"
      cases c : lvl (tb zr) k 0 with
      | false =>
        walk_at "go"
        rw [lT, need_some (show k ≤ zr.length by omega) c hl5] at q
        exact q _ (s1.trans (s2.trans s6))
      | true =>
        walk_at "go"
        refine ⟨fun t ht => ?_, _, _, rfl⟩
        rcases Nat.lt_or_ge t k with h | h
        · exact hl5 t h
        · rw [show t = k by omega]
          exact c
    · rintro σ J ⟨s5, hl5, v2, v3, rfl⟩
      walk_at "go"
      rw [lT, need_none hl5] at q
      exact q _ (s1.trans (s2.trans s5))
end
end Z
set_option pp.maxSteps 700
set_option Elab.async false
set_option linter.all false
set_option maxRecDepth 100000
set_option maxHeartbeats 4000000
open SX (S S_inj S_len S_cat)
namespace Z
open Mc
open PySem PySem.Spec PyProof.Rows L2
open C8 (pss_cut tCut)
local macro_rules | `(tactic| walk_at "num") => `(tactic| first | rfl | omega | decide | exact Nat.le_of_lt (small1000 (by simp)) | exact ⟨by omega, by omega⟩ | exact ⟨by omega, by omega, by omega⟩ | exact ⟨by decide, by decide, by decide⟩ | exact Or.inl ⟨by omega, by omega⟩ | exact Or.inr ⟨by omega, by omega⟩)
local macro_rules | `(tactic| walk_at "go") => `(tactic| repeat (first | refine ⟨_, rfl, ?_⟩ | refine ⟨_, _, rfl, rfl, ?_⟩ | refine ⟨_, _, rfl, ?_⟩ | (refine ⟨_, _, rfl, rfl, ?_, ?_⟩; focus walk_at "num") | refine Or.inl ⟨_, rfl, ?_⟩ | refine ⟨_, _, _, _, rfl, rfl, (by assumption), (by rfl), ?_⟩ | refine ⟨_, _, _, _, _, rfl, (by assumption), (by assumption), (by assumption), (by rfl), ?_⟩ | refine ⟨rfl, ?_⟩ | (refine And.intro ?_ ?_; focus walk_at "num")))
abbrev s_leads : Stmt := topS 76
abbrev N_leads : List Str := ["_law_row_here", "_law_flags_here", "_law_entry"]
abbrev P_leads : List Str := ["_law_row_here", "_law_flags_here"]
theorem sc_leads : FnScope N_leads P_leads (defScope s_leads) := ⟨rfl, rfl, rfl, by decide +kernel, rfl, by decide +kernel, by decide +kernel⟩
abbrev s_flags : Stmt := topS 77
abbrev N_flags : List Str := ["_law_rows", "_law_own_rounds", "_law_row_here", "_law_flags_here", "_law_turn"]
abbrev P_flags : List Str := ["_law_rows", "_law_own_rounds"]
theorem sc_flags : FnScope N_flags P_flags (defScope s_flags) := ⟨rfl, rfl, rfl, by decide +kernel, rfl, by decide +kernel, by decide +kernel⟩
theorem flt_gsq (al : Nat → Bool) (n : Nat) : fltL al (fun i => .int ((i : Nat) : Int)) n = gsq ((List.range n).filter al) := rfl
section
variable {P : Program} {w : World} {K : PySem.W.Frag} {mg : Str → Option Value} {base : Heap} {f C CB CH : Addr} {fd : FuncData}
def spLds (K : PySem.W.Frag) : Sp := fun vs H Q _ => ∃ (n : Nat) (r L : Addr) (row : List (Option Nat)) (al : Nat → Bool), vs = [.ref r, .ref L] ∧ SqL K H r (row.map eV) ∧ row.length = 4 ∧ (∀ e, some e ∈ row → e < n) ∧ H L = some (.lst (bls n al)) ∧ ∀ H', Same H H' → Q (.bl (ldr al row)) H'
theorem ok_leads (F : FnP K "_law_leads" s_leads f fd) (m_len : mg "len" = none) : FnOk P w K mg base CX0 1 f fd P_leads (spLds K) := by
  refine F.ok sc_leads (fun vs H Q E h => ?_) (fun cdv A outer s H vs Q E hr h => ?_)
  · obtain ⟨n, r, L, row, al, rfl, _⟩ := h
    rfl
  · obtain ⟨n, r, L, row, al, rfl, hr0, lr, hent, eL, q⟩ := h
    refine ⟨_, PSs.nox (pss_cut (ps_if (PW.pt (pw_and (pt_cmpR op_notN (pe_ix ix_list (pv 0) pe_int (fun _ _ => rfl)) pe_non (nomark _)) (pw_and1 (pt_val (pe_ix ix_list (pv 1) (pe_ix ix_list (pv 0) pe_int (fun _ _ => rfl)) (fun _ _ => rfl)))))) (pss_one (ps_ret pe_bl)) pss_nil)
      (pss_one (ps_ret (pe_cmpR op_eq (pe_callB call_len_seq (by rfl) m_len PySem.boot_len (pa_cons (pe_lc (own := [("_law_entry", 2)]) (g := (gName 2)) (by rfl) sc_leads.nd (pi_list (pe_slice sl_list (pv 0) po_none (po_some pe_int))) (blkOk_by (own := [("_law_entry", 2)]) (N := N_leads) (sc := defScope s_leads) (by decide +kernel)) (fun _ _ _ _ _ => (pg_name (i := 2) sc_leads.nd rfl (by first | exact .inl rfl | exact .inr rfl))) (fun _ _ _ _ _ => (pts_one (PW.pt (pw_and (pt_cmpR op_notN (pv 2) pe_non (nomark _)) (pw_and1 (pt_val (pe_ix (ix_list_K (K := K) rfl) (pv 1) (pv 2) (fun _ _ => rfl)))))))) (fun _ _ _ _ _ => (pv 2))) pa_nil)) pe_int (nomark _))))), ?_⟩
    obtain ⟨o0, o1, o2, o3, rfl⟩ := four_of lr
    have hf : ldr al [o0, o1, o2, o3] = (elB al o3 || (elB al o0 && (elB al o1 && elB al o2))) := rfl
    have a3 : atI ([o0, o1, o2, o3].map eV) 3 = some (eV o3) := atI_nat (j := 3) rfl
    rw [hf] at q
    refine ⟨fun σ' J => J = H ∧ elB al o3 = false ∧ σ' = [some (.ref r), some (.ref L), none], ?_, ?_⟩
    · cases o3 with
      | none =>
        walk_at "go"
        rfl
      | some e =>
        have he := hent e (by simp)
        walk_at "go"
        refine ⟨L, _, _, _, rfl, rfl, SqL.of eL, bls_at he, ?_⟩
        cases c : al e with
        | true =>
          rw [show elB al (some e) = al e from rfl, c] at q
          walk_at "go"
          exact q _ (Same.refl _)
        | false =>
          walk_at "go"
          exact ⟨c, rfl⟩
    rintro σ' J ⟨rfl, h3, rfl⟩
    rw [h3, Bool.false_or] at q
    walk_at "go"
    refine ⟨r, _, rfl, hr0, ?_⟩
    intro p np
    have s1 := same_new (o := .lst (cutV ([o0, o1, o2, o3].map eV) none (some 3))) np
    have ep : (upd J p (.lst (cutV ([o0, o1, o2, o3].map eV) none (some 3)))) p = some (.lst ([o0, o1, o2].map eV)) := upd_same
    generalize upd J p (.lst (cutV ([o0, o1, o2, o3].map eV) none (some 3))) = J1 at s1 ep
    have hp : SqL K J1 p ([o0, o1, o2].map eV) := SqL.of ep
    walk_at "go"
    refine ⟨⟨_, hp⟩, ?_⟩
    intro B nB
    refine lc_flt (n := 3) (fun i => eV ([o0, o1, o2].getD i none)) (fun i => elB al ([o0, o1, o2].getD i none)) (fun i => eV ([o0, o1, o2].getD i none)) (by omega) nB (fun i J3 hi s6 => ⟨_, _, s6.seq hp, row_at (r := [o0, o1, o2]) hi⟩) (fun J3 s6 => ⟨_, s6.seq hp, Nat.le_refl 3⟩) (fun i J3 x J4 hi s6 y => ?_) (fun i => rfl) (fun i J3 Q1 hi s6 q1 => ?_) (fun i J3 Q1 hi _ s6 q1 => ?_) (fun J3 s6 eB => ?_)
    · obtain ⟨rfl, ex⟩ := y
      have ex := ex _ (s6.seq hp)
      rw [row_at (r := [o0, o1, o2]) hi] at ex
      cases ex
      exact ⟨Same.refl _, rfl⟩
    · have mi : ∀ e, [o0, o1, o2].getD i none = some e → e < n := fun e h => hent e (by
        obtain rfl | rfl | rfl : i = 0 ∨ i = 1 ∨ i = 2 := by omega
        · have h : o0 = some e := h
          rw [h]; simp
        · have h : o1 = some e := h
          rw [h]; simp
        · have h : o2 = some e := h
          rw [h]; simp)
      cases e2 : [o0, o1, o2].getD i none with
      | none =>
        rw [e2] at q1
        walk_at "go"
        exact q1 _ (Same.refl _)
      | some e =>
        rw [e2] at q1
        have he := mi e e2
        dsimp only [eV]
        walk_at "go"
        exact ⟨L, _, _, _, rfl, rfl, SqL.of ((s1.trans s6) _ _ eL), bls_at he, _, rfl, q1 _ (Same.refl _)⟩
    · walk_at "go"
      exact q1 _ (Same.refl _)
    walk_at "go"
    refine ⟨B, _, rfl, .inl (SqL.of eB), ?_⟩
    walk_at "go"
    have e9 : decide (V.int (((fltL (fun i => elB al ([o0, o1, o2].getD i none)) (fun i => eV ([o0, o1, o2].getD i none)) 3).length : Nat) : Int) = V.int 3) = (elB al o0 && (elB al o1 && elB al o2)) := by
      unfold fltL
      rw [List.length_map, show List.range 3 = [0, 1, 2] from rfl]
      simp only [List.filter_cons, List.filter_nil, show ∀ (h : Nat), [o0, o1, o2].getD 0 none = o0 from fun _ => rfl]
      rw [show [o0, o1, o2].getD 0 none = o0 from rfl, show [o0, o1, o2].getD 1 none = o1 from rfl, show [o0, o1, o2].getD 2 none = o2 from rfl]
      cases elB al o0 <;> cases elB al o1 <;> cases elB al o2 <;> decide
    rw [e9]
    exact q _ (s1.trans s6)
def spFlg (K : PySem.W.Frag) : Sp := fun vs H Q _ => ∃ (a : Addr) (zr : List (Addr × List (Option Nat))) (t : Nat), vs = [.ref a, .int (t : Int)] ∧ TbR H a zr ∧ Wf (tb zr) 4 ∧ zr.length ≤ 100 ∧ t ≤ 100 ∧ ∀ (L : Addr) H', Same H H' → H' L = some (.lst (bls zr.length (lvl (tb zr) t))) → Q (.ref L) H'
theorem ok_flags (F : FnP K "_law_flags" s_flags f fd) (m_range : mg "range" = none) (c_leads : Cal P w K mg base 1 "_law_leads" (spLds K)) : FnOk P w K mg base CX0 2 f fd P_flags (spFlg K) := by
  refine F.ok sc_flags (fun vs H Q E h => ?_) (fun cdv A outer s H vs Q E hr h => ?_)
  · obtain ⟨a, zr, t, rfl, _⟩ := h
    rfl
  · obtain ⟨a, zr, t, rfl, tr, wf, lz, lt, q⟩ := h
    refine ⟨_, PSs.nox (pss_cons (ps_set (i := 3) sc_flags.nd rfl (by first | exact .inl rfl | exact .inr rfl) (pe_lc (own := [("_law_row_here", 2)]) (g := (gName 2)) (tt := tYes) (by rfl) sc_flags.nd (pi_list (pv 0)) (blkOk_by (own := [("_law_row_here", 2)]) (N := N_flags) (sc := defScope s_flags) (by decide +kernel)) (fun _ _ _ _ _ => (pg_name (i := 2) sc_flags.nd rfl (by first | exact .inl rfl | exact .inr rfl))) (fun _ _ _ _ _ => pts_nil) (fun _ _ _ _ _ => pe_bl)))
      (pss_cons (ps_for PassesOwn.never rfl (pi_range1 (by rfl) m_range (pa_cons (pv 1) pa_nil)) (pg_name (i := 4) sc_flags.nd rfl (by first | exact .inl rfl | exact .inr rfl))
        (pss_one (ps_set (i := 3) sc_flags.nd rfl (by first | exact .inl rfl | exact .inr rfl) (pe_lc (own := [("_law_row_here", 2)]) (g := (gName 2)) (tt := tYes) (by rfl) sc_flags.nd (pi_list (pv 0)) (blkOk_by (own := [("_law_row_here", 2)]) (N := N_flags) (sc := defScope s_flags) (by decide +kernel)) (fun _ _ _ _ _ => (pg_name (i := 2) sc_flags.nd rfl (by first | exact .inl rfl | exact .inr rfl))) (fun _ _ _ _ _ => pts_nil) (fun _ _ _ _ _ => (pe_cl c_leads hr (by decide) (by rfl) (pa_cons (pv 2) (pa_cons (pv 3) pa_nil))))))))
      (pss_one (ps_ret (pv 3))))), ?_⟩
    have lR : (tb zr).length = zr.length := List.length_map ..
    have sqA : SqL K H a (zr.map fun z => V.ref z.1) := SqL.of tr.sq
    have lA : (zr.map fun z => V.ref z.1).length = zr.length := List.length_map ..
    walk_at "go"
    refine ⟨⟨_, sqA⟩, ?_⟩
    intro A0 nA
    refine lc_flt (n := zr.length) (fun k => .ref (zr.getD k (0, [])).1) (fun _ => true) (fun k => .bl true) (by omega) nA (fun k J hk s2 => ⟨_, .ref (zr.getD k (0, [])).1, s2.seq sqA, by rw [List.getElem?_map, List.getD_eq_getElem?_getD, List.getElem?_eq_getElem hk]; rfl⟩) (fun J s2 => ⟨_, s2.seq sqA, by rw [lA]; omega⟩) (fun k J x J2 hk s2 y => ?_) (fun k => rfl) (fun k J Q1 _ _ q1 => q1 _ (Same.refl _)) (fun k J Q1 hk _ s2 q1 => q1 _ (Same.refl _)) (fun J s1 eA => ?_)
    · obtain ⟨rfl, ex⟩ := y
      have ex := ex _ (s2.seq sqA)
      rw [List.getElem?_map, List.getElem?_eq_getElem hk] at ex
      cases ex
      refine ⟨Same.refl _, ?_⟩
      rw [List.getD_eq_getElem?_getD, List.getElem?_eq_getElem hk]
      rfl
    have eA : J A0 = some (.lst (bls zr.length (lvl (tb zr) 0))) := by
      rw [eA, fltL_all]
      rfl
    walk_at "go"
    refine for_gen (n := t) (fun k σ J => Same H J ∧ ∃ (L : Addr) (v2 v4 : Option V), J L = some (.lst (bls zr.length (lvl (tb zr) k))) ∧ σ = [some (.ref a), some (.int (t : Int)), v2, some (.ref L), v4]) ⟨s1, A0, none, none, eA, rfl⟩ ?_ ?_ ?_ ?_
    · intro k σ J hk _
      show k < ((t : Int)).toNat
      omega
    · intro σ J _
      show ((t : Int)).toNat ≤ t
      omega
    · rintro k σ J x J' hk ⟨s5, L, v2, v4, eL, rfl⟩ ⟨rfl, rfl⟩
      have sq5 := s5.seq sqA
      walk_at "go"
      refine ⟨⟨_, sq5⟩, ?_⟩
      intro D nD
      refine lc_flt (n := zr.length) (fun i => .ref (zr.getD i (0, [])).1) (fun _ => true) (fun i => .bl (lvl (tb zr) (k + 1) i)) (by omega) nD (fun i J3 hi s6 => ⟨_, .ref (zr.getD i (0, [])).1, s6.seq sq5, by rw [List.getElem?_map, List.getD_eq_getElem?_getD, List.getElem?_eq_getElem hi]; rfl⟩) (fun J3 s6 => ⟨_, s6.seq sq5, by rw [lA]; omega⟩) (fun i J3 x J4 hi s6 y => ?_) (fun i => rfl) (fun i J3 Q1 hi s6 q1 => q1 _ (Same.refl _)) (fun i J3 Q1 hi _ s6 q1 => ?_) (fun J3 s6 eB => ?_)
      · obtain ⟨rfl, ex⟩ := y
        have ex := ex _ (s6.seq sq5)
        rw [List.getElem?_map, List.getElem?_eq_getElem hi] at ex
        cases ex
        refine ⟨Same.refl _, ?_⟩
        rw [List.getD_eq_getElem?_getD, List.getElem?_eq_getElem hi]
        rfl
      · obtain ⟨z, ez, eT⟩ := row_of (T := tb zr) rfl hi
        have mz : z.2 ∈ tb zr := List.mem_map.mpr ⟨z, List.mem_of_getElem? ez, rfl⟩
        rw [show (zr.getD i (0, [])).1 = z.1 by rw [List.getD_eq_getElem?_getD, ez]; rfl]
        walk_at "go"
        refine ⟨zr.length, z.1, L, z.2, lvl (tb zr) k, rfl, SqL.of ((s5.trans s6) _ _ (tr.at_ z (List.mem_of_getElem? ez))), wf.row _ mz, fun e he => by rw [← lR]; exact wf.ent _ mz e he, s6 _ _ eL, fun J4 s7 => ?_⟩
        have : lvl (tb zr) (k + 1) i = ldr (lvl (tb zr) k) z.2 := by
          show ldr _ _ = _
          rw [eT]
        rw [this] at q1
        exact q1 _ s7
      have eB : J3 D = some (.lst (bls zr.length (lvl (tb zr) (k + 1)))) := by
        rw [eB, fltL_all]
        rfl
      walk_at "go"
      exact ⟨s5.trans s6, D, _, _, eB, rfl⟩
    · rintro σ J ⟨s5, L, v2, v4, eL, rfl⟩
      walk_at "go"
      exact q L J s5 eL
end
end Z
set_option Elab.async false
set_option linter.all false
set_option maxRecDepth 100000
namespace Mc
/-! ### chains: lengths of passages, their texts, what the ends see -/
def add3 : Option Nat → Option Nat → Option Nat → Option Nat
  | some a, some b, some c => some (a + b + c)
  | _, _, _ => none
def lss : Option Nat → Option Nat → Option Nat
  | n, none => n
  | none, some t => some t
  | some n, some t => if t < n then some t else some n
/-- the length of a shortest passage of t rounds from state s, None if there is none -/
def lng (R : Tbl) : Nat → Nat → Option Nat
  | 0, _ => some 1
  | t + 1, s => lss ((nx R s 3).bind (lng R t)) (add3 ((nx R s 0).bind (lng R t)) ((nx R s 1).bind (lng R t)) ((nx R s 2).bind (lng R t)))
theorem lng_pos (R : Tbl) : ∀ (t s L : Nat), lng R t s = some L → 1 ≤ L ∧ L ≤ 3 ^ t
  | 0, _, L, h => by cases h; exact ⟨Nat.le_refl _, Nat.le_refl _⟩
  | t + 1, s, L, h => by
    rw [lng] at h
    have b : ∀ k x, (nx R s k).bind (lng R t) = some x → 1 ≤ x ∧ x ≤ 3 ^ t := fun k x hx => by
      cases e : nx R s k with
      | none => rw [e] at hx; cases hx
      | some y => rw [e] at hx; exact lng_pos R t y x hx
    have p : 3 ^ (t + 1) = 3 * 3 ^ t := by rw [Nat.pow_succ, Nat.mul_comm]
    have q : 1 ≤ 3 ^ t := Nat.pos_of_ne_zero (by simp)
    generalize e3 : (nx R s 3).bind (lng R t) = x3 at h
    generalize e0 : (nx R s 0).bind (lng R t) = x0 at h
    generalize e1 : (nx R s 1).bind (lng R t) = x1 at h
    generalize e2 : (nx R s 2).bind (lng R t) = x2 at h
    have tot : ∀ y, add3 x0 x1 x2 = some y → 1 ≤ y ∧ y ≤ 3 ^ (t + 1) := fun y hy => by
      cases x0 with
      | none => cases hy
      | some a => cases x1 with
        | none => cases hy
        | some b1 => cases x2 with
          | none => cases hy
          | some c =>
            cases hy
            have h0 := b 0 a e0
            have h1 := b 1 b1 e1
            have h2 := b 2 c e2
            exact ⟨by omega, by omega⟩
    cases x3 with
    | none =>
      cases ea : add3 x0 x1 x2 with
      | none => rw [ea] at h; cases h
      | some y => rw [ea] at h; cases h; exact tot _ ea
    | some n =>
      have h3 := b 3 n e3
      cases ea : add3 x0 x1 x2 with
      | none => rw [ea] at h; cases h; exact ⟨h3.1, by omega⟩
      | some y =>
        rw [ea] at h
        have h : (if y < n then some y else some n) = some L := h
        split at h
        · cases h; exact tot _ ea
        · cases h; exact ⟨h3.1, by omega⟩
end Mc
set_option Elab.async false
set_option linter.all false
set_option maxRecDepth 100000
set_option maxHeartbeats 4000000
namespace Z
open PySem PySem.Spec PyProof.Rows L2
/-! ### C(e, .., k = v), what is raised at the slots -/
structure MakKX (P : Program) (w : World) (K : PySem.W.Frag) (mg : Str → Option Value) (base : Heap) (k : Nat) (x : Str) (C : Addr) (n : Nat) (ks : List Str) (gV : List V → List V → List V) (sp : Sp) : Prop where
  ex : ∃ (f : Addr) (fd : FuncData) (ps : List Str) (g : List Value → List Value → List Value), Mk K C f ∧ FnOk P w K mg base (L2N.CX P w) k f fd ps sp ∧ mg x = some (.ref C) ∧ KBn K fd ps (n + 1) ks g gV
def tMkKW (C : Addr) (n m : Nat) (sp : Sp) (gV : List V → List V → List V) (E : L2.St → XK) (t tk : TA) : TE := fun σ H Q => t σ H fun vs H1 => tk σ H1 fun zs H2 => vs.length = n ∧ zs.length = m ∧ ∀ y dx, H2 y = none → H2 dx = none → dx ≠ y → sp (gV (.ref y :: vs) zs) (upd (upd H2 dx (.own y)) y (.ins C dx [])) (fun v H3 => v = .non ∧ Q (.ref y) H3) (E σ)
section
variable {X : Cx} {k j n : Nat} {x : Str} {C : Addr} {sp : Sp} {ks : List Str} {gV : List V → List V → List V} {p pos : Pos} {e : Expr} {es : List Expr} {kws : List Keyword} {t tk : TA} {E : L2.St → XK}
theorem pe_mkKE (c : MakKX X.prog X.w X.K X.mg X.base k x C n ks gV sp) (hx : ∀ σ, PassesAt (L2N.CX X.prog X.w) X σ (E σ)) (hr : Room j X.A) (hk : k + 1 ≤ j) (hg : Gl X x) (ha : PA X (e :: es) t) (hkw : PK X kws tk)
    (hall : (backToKw pos (keywordEach kws X.env)).all (·.1.isSome) = true := by rfl) (hks : (backToKw pos (keywordEach kws X.env)).filterMap (·.1) = ks := by rfl) (hdb : (x == ("__debug__" : Str)) = false := by decide)
    (he : starEach (e :: es) X.env = (false, eval e X.env) :: starEach es X.env := by rfl) (hpl : ((backTo pos (starEach (e :: es) X.env)).any (·.1) || (backToKw pos (keywordEach kws X.env)).any (·.1.isNone)) = false := by rfl) :
    PE X (.Call (.Name x p) (e :: es) kws pos) (tMkKW C n ks.length sp gV E t tk) := by
  obtain ⟨f, fd, ps, g, M, F, hm, hb⟩ := c.ex
  refine ⟨fun pins s σ H Q I h => ?_⟩
  refine wpAny_Call_Name_kw (ld_glob I hg hm ?_ hdb)
  refine PySem.W.callWith_KW (h₀ := X.base) I.ok.mod.kin M.kp hall (thn (ha.run pos pins s σ H _ I h) fun us s1 ⟨vs, H1, I1, r, q⟩ => ?_) hpl he
  refine thn (hkw.run pos pins s1 σ H1 _ I1 q) fun ws s2 ⟨zs, H2, I2, rz, l1, l2, q2⟩ => ⟨I2.kIn, ?_⟩
  rw [hks]
  have hq := q2 (s2.heap.objs.size + 1) s2.heap.objs.size (I2.hok.fresh (Nat.le_succ _)) (I2.hok.fresh (Nat.le_refl _)) (Nat.ne_of_lt (Nat.lt_succ_self _))
  have J := Inv.made (C := C) I2
  have r1 : Vals (V.ref (s2.heap.objs.size + 1) :: vs) (Value.ref (s2.heap.objs.size + 1) :: us) := .cons rfl r
  have r2 := hb.rel r1 rz
  have e1 : (Value.ref (s2.heap.objs.size + 1) :: us).length = n + 1 := r1.length.symm.trans (congrArg Nat.succ l1)
  have e2 : ws.length = ks.length := rz.length.symm.trans l2
  refine wpAny_call (make_map (f := f) I2.kIn M.makes M.init (beq_iff_eq.mp M.fn) (codeAny_mono (F.run _ X.stack _ _ ⟨Value.ref (s2.heap.objs.size + 1) :: us, ks.zip ws⟩ (g (Value.ref (s2.heap.objs.size + 1) :: us) ws) _ _ _ ((hr.mono hk).make C us (ks.zip ws))
    (J.env0.make C us (ks.zip ws)) (hb.to _ (Value.ref (s2.heap.objs.size + 1) :: us) ws J.kIn e1 e2) r2 hq) fun r s' hq' => ?_))
  have z := back_at (hx σ) J r s' hq'
  match r, z with
  | .error e, z => exact z
  | .ok (.ret u), ⟨v, H', J', rv, ev, q3⟩ =>
    subst ev
    exact ⟨rv, ⟨V.ref (s2.heap.objs.size + 1), H', J', rfl, q3⟩⟩
end
end Z
set_option Elab.async false
set_option linter.all false
set_option maxRecDepth 100000
set_option maxHeartbeats 4000000
namespace Z
open PySem PySem.Spec PyProof.Rows L2
/-- a property of an own class -/
structure PrpO (P : Program) (w : World) (K : PySem.W.Frag) (mg : Str → Option Value) (base : Heap) (k : Nat) (C : Addr) (m : Str) (sp : Sp) : Prop where
  ex : ∃ (p g : Addr) (fd : FuncData) (ps : List Str), Cls K C ∧ PropOf K C m p g ∧ FnOk P w K mg base CX0 k g fd ps sp ∧ Binds K fd ps []
theorem pe_prp {X : Cx} {k j : Nat} {C : Addr} {sp : Sp} {m : Str} {e : Expr} {pos : Pos} {ta : TE} (c : PrpO X.prog X.w X.K X.mg X.base k C m sp) (he : PE X e ta) (hr : Room j X.A) (hk : k + 1 ≤ j) (hab : attributeBase e m X.env (eval e X.env) = eval e X.env := by rfl) : PE X (.Attribute e m pos) (tProp C sp [] E0 ta) := by
  obtain ⟨p, g, fd, ps, cl, po, F, b⟩ := c.ex
  exact pe_prop he cl po F (hr.mono hk) b .nil pass0 hab
end Z
set_option pp.maxSteps 700
set_option Elab.async false
set_option linter.all false
set_option maxRecDepth 100000
set_option maxHeartbeats 4000000
open SX (S S_inj S_len S_cat)
namespace Z
open Mc
open PySem PySem.Spec PyProof.Rows L2
open C8 (pss_cut tCut)
local macro_rules | `(tactic| walk_at "num") => `(tactic| first | rfl | omega | decide | exact Nat.le_of_lt (small1000 (by simp)) | exact ⟨by omega, by omega⟩ | exact ⟨by omega, by omega, by omega⟩ | exact ⟨by decide, by decide, by decide⟩ | exact Or.inl ⟨by omega, by omega⟩ | exact Or.inr ⟨by omega, by omega⟩)
local macro_rules | `(tactic| walk_at "go") => `(tactic| repeat (first | refine ⟨_, rfl, ?_⟩ | refine ⟨_, _, rfl, rfl, ?_⟩ | refine ⟨_, _, rfl, ?_⟩ | (refine ⟨_, _, rfl, rfl, ?_, ?_⟩; focus walk_at "num") | refine Or.inl ⟨_, rfl, ?_⟩ | refine ⟨_, _, _, _, rfl, rfl, (by assumption), (by rfl), ?_⟩ | refine ⟨_, _, _, _, _, rfl, (by assumption), (by assumption), (by assumption), (by rfl), ?_⟩ | refine ⟨rfl, ?_⟩ | (refine And.intro ?_ ?_; focus walk_at "num")))
abbrev s_passage_lengths : Stmt := topS 53
abbrev N_passage_lengths : List Str := ["rows", "rounds", "lengths", "lap", "line", "row", "entry", "parts", "best", "total"]
abbrev P_passage_lengths : List Str := ["rows", "rounds"]
theorem sc_passage_lengths : FnScope N_passage_lengths P_passage_lengths (defScope s_passage_lengths) := ⟨rfl, rfl, rfl, by decide +kernel, rfl, by decide +kernel, by decide +kernel⟩
/-- one list of lengths -/
def lns (n : Nat) (R : Tbl) (t : Nat) : List V := (List.range n).map fun s => eV (lng R t s)
theorem lns_len (n : Nat) (R : Tbl) (t : Nat) : (lns n R t).length = n := by
  unfold lns
  rw [List.length_map, List.length_range]
theorem lns_at {n s : Nat} {R : Tbl} {t : Nat} (h : s < n) : atI (lns n R t) (s : Int) = some (eV (lng R t s)) := atI_nat (by unfold lns; rw [List.getElem?_map, List.getElem?_range h]; rfl)
theorem inV_non (p0 p1 p2 : Option Nat) : inV V.non [eV p0, eV p1, eV p2] = (add3 p0 p1 p2).isNone := by cases p0 <;> cases p1 <;> cases p2 <;> rfl
section
variable {P : Program} {w : World} {K : PySem.W.Frag} {mg : Str → Option Value} {base : Heap} {f C CB : Addr} {fd : FuncData}
def spPl (K : PySem.W.Frag) : Sp := fun vs H Q _ => ∃ (a : Addr) (zr : List (Addr × List (Option Nat))) (t : Nat), vs = [.ref a, .int (t : Int)] ∧ Tb false false K H a zr ∧ Wf (tb zr) 4 ∧ zr.length ≤ 100 ∧ t ≤ 100 ∧ ∀ (L : Addr) (ls : List Addr) H', Same H H' → H L = none → H' L = some (.lst (ls.map V.ref)) → ls.length = t + 1 → (∀ i l, ls[i]? = some l → H' l = some (.lst (lns zr.length (tb zr) i))) → Q (.ref L) H'
theorem ok_passage_lengths (F : FnP K "passage_lengths" s_passage_lengths f fd) (m_len : mg "len" = none) (m_range : mg "range" = none) (m_sum : mg "sum" = none) : FnOk P w K mg base CX0 1 f fd P_passage_lengths (spPl K) := by
  refine F.ok sc_passage_lengths (fun vs H Q E h => ?_) (fun cdv A outer s H vs Q E hr h => ?_)
  · obtain ⟨a, zr, t, rfl, _⟩ := h
    rfl
  · obtain ⟨a, zr, t, rfl, hR, wf, lz, lt, q⟩ := h
    refine ⟨_, PSs.nox (pss_cons (ps_set (i := 2) sc_passage_lengths.nd rfl (by first | exact .inl rfl | exact .inr rfl) (pe_lst (pa_cons (pe_op op_rep (pe_lst (pa_cons pe_int pa_nil)) (pe_callB call_len_seq (by rfl) m_len PySem.boot_len (pa_cons (pv 0) pa_nil))) pa_nil)))
      (pss_cons (ps_for PassesOwn.never rfl (pi_range1 (by rfl) m_range (pa_cons (pv 1) pa_nil)) (pg_name (i := 3) sc_passage_lengths.nd rfl (by first | exact .inl rfl | exact .inr rfl))
        (pss_cons (ps_set (i := 4) sc_passage_lengths.nd rfl (by first | exact .inl rfl | exact .inr rfl) (pe_lst pa_nil))
      (pss_cons (ps_for PassesOwn.never rfl (pi_tup (pv 0)) (pg_name (i := 5) sc_passage_lengths.nd rfl (by first | exact .inl rfl | exact .inr rfl))
        (pss_cons (ps_setLc (i := 7) (own := [("entry", 6)]) (g := (gName 6)) (tt := tYes) (by rfl) sc_passage_lengths.nd rfl rfl (sw_true rfl rfl rfl (by decide +kernel)) (pi_tup (pv 5)) (blkOk_by (own := [("entry", 6)]) (N := N_passage_lengths) (sc := defScope s_passage_lengths) (by decide +kernel)) (fun _ _ _ _ _ => (pg_name (i := 6) sc_passage_lengths.nd rfl (by first | exact .inl rfl | exact .inr rfl))) (fun _ _ _ _ _ => pts_nil) (fun _ _ _ _ _ => (pe_ifExp (pt_cmpR op_isN (pv 6) pe_non (nomark _)) pe_non (pe_ix (ix_list_K (K := K) rfl) (pe_ix (ix_list_K (K := K) rfl) (pv 2) (pe_un un_neg pe_int) (fun _ _ => rfl)) (pv 6) (fun _ _ => rfl)))))
      (pss_cons (ps_set (i := 8) sc_passage_lengths.nd rfl (by first | exact .inl rfl | exact .inr rfl) (pe_ix ix_list (pv 7) pe_int (fun _ _ => rfl)))
      (pss_cut (ps_if (pt_cmpR op_notIn_seq pe_non (pe_slice sl_list (pv 7) po_none (po_some pe_int)) (by rfl)) (pss_cons (ps_set (i := 9) sc_passage_lengths.nd rfl (by first | exact .inl rfl | exact .inr rfl) (pe_callB (cr_sum rfl) (by rfl) m_sum (by decide +kernel) (pa_cons (pe_slice sl_list (pv 7) po_none (po_some pe_int)) pa_nil)))
      (pss_one (ps_set (i := 8) sc_passage_lengths.nd rfl (by first | exact .inl rfl | exact .inr rfl) (pe_ifExp (PW.pt (pw_or (pt_cmpR op_isN (pv 8) pe_non (nomark _)) (pw_or1 (pt_cmpR op_lt (pv 9) (pv 8) (nomark _))))) (pv 9) (pv 8))))) pss_nil)
      (pss_one (ps_expr (pe_bm PySem.F.plainAttrs_list PySem.F.slot_list_append PySem.F.type_list_append mt_append (pv 4) (pa_cons (pv 8) pa_nil))))))))
      (pss_one (ps_expr (pe_bm PySem.F.plainAttrs_list PySem.F.slot_list_append PySem.F.type_list_append mt_append (pv 2) (pa_cons (pv 4) pa_nil)))))))
      (pss_one (ps_ret (pv 2))))), ?_⟩
    have lR : (tb zr).length = zr.length := List.length_map ..
    walk_at "go"
    intro l0 nl0
    generalize eH_ : upd H l0 _ = H1
    have s1 : Same H H1 := by rw [← eH_]; exact same_new nl0
    have el0 : H1 l0 = some (.lst [.int 1]) := by rw [← eH_]; exact upd_same
    clear eH_
    walk_at "go"
    refine ⟨a, _, rfl, .inr (Z.Same.sqK s1 (b := false) hR.sq), ?_⟩
    rw [List.length_map]
    refine ⟨l0, _, _, rfl, rfl, el0, by omega, by omega, by rw [Int.toNat_natCast]; exact szl (by show 1 * zr.length ≤ 2000; omega), ?_⟩
    intro l1 n1
    have s2 := same_new (o := .lst (List.replicate (zr.length : Int).toNat [V.int 1]).flatten) n1
    have e1 : (upd H1 l1 (.lst (List.replicate (zr.length : Int).toNat [V.int 1]).flatten)) l1 = some (.lst (lns zr.length (tb zr) 0)) := by
      rw [upd_same, Int.toNat_natCast]
      congr 2
      unfold lns
      rw [show (fun s => eV (lng (tb zr) 0 s)) = fun _ => V.int 1 from rfl, List.map_const', List.length_range]
      generalize zr.length = n
      induction n with
      | zero => rfl
      | succ n ih => rw [List.replicate_succ, List.flatten_cons, ih, List.replicate_succ]; rfl
    generalize upd H1 l1 (.lst (List.replicate (zr.length : Int).toNat [V.int 1]).flatten) = H2 at s2 e1
    walk_at "go"
    intro L nL
    have s3 := same_new (o := .lst [.ref l1]) nL
    have eL : (upd H2 L (.lst [.ref l1])) L = some (.lst ([l1].map V.ref)) := upd_same
    have e13 := s3 _ _ e1
    have Ll : l1 ≠ L := ne_of_none e1 nL
    generalize upd H2 L (.lst [.ref l1]) = H3 at s3 eL e13
    have nLH := none_of (s1.trans s2) nL
    have s4 := s1.trans (s2.trans s3)
    clear s1 s2 s3 el0 e1 nL n1
    walk_at "go"
    refine for_gen (n := t) (fun k σ J => Same H J ∧ ∃ (ls : List Addr) (v3 v4 v5 v7 v8 v9 : Option V), J L = some (.lst (ls.map V.ref)) ∧ ls.length = k + 1 ∧ (∀ i l, ls[i]? = some l → J l = some (.lst (lns zr.length (tb zr) i)) ∧ l ≠ L) ∧ σ = [some (.ref a), some (.int (t : Int)), some (.ref L), v3, v4, v5, none, v7, v8, v9]) ⟨s4, [l1], none, none, none, none, none, none, eL, rfl, fun i l e => ?_, rfl⟩ ?_ ?_ ?_ ?_
    · have h1 := (List.getElem?_eq_some_iff.mp e).1
      have h1 : i < 1 := h1
      have : i = 0 := by omega
      subst this
      cases e
      exact ⟨e13, Ll⟩
    · intro k σ J hk _
      show k < ((t : Int)).toNat
      omega
    · intro σ J _
      show ((t : Int)).toNat ≤ t
      omega
    · rintro k σ J x J' hk ⟨s5, ls, v3, v4, v5, v7, v8, v9, eL, ll, hl, rfl⟩ ⟨rfl, rfl⟩
      obtain ⟨lk, hlk⟩ : ∃ lk, ls[k]? = some lk := ⟨_, List.getElem?_eq_getElem (by omega)⟩
      have elk := (hl k lk hlk).1
      have aL := last_of hlk ll
      have hR5 := hR.mono s5
      walk_at "go"
      intro D nD
      have DL : L ≠ D := ne_of_none eL nD
      have nDH := none_of s5 nD
      have s6 := same_new (o := .lst []) nD
      have eD : (upd J' D (.lst [])) D = some (.lst ((List.range 0).map fun s => eV (lng (tb zr) (k + 1) s))) := upd_same
      have eL6 := s6 _ _ eL
      have hl6 : ∀ i l, ls[i]? = some l → (upd J' D (.lst [])) l = some (.lst (lns zr.length (tb zr) i)) ∧ l ≠ L ∧ l ≠ D := fun i l e => ⟨s6 _ _ (hl i l e).1, (hl i l e).2, ne_of_none (hl i l e).1 nD⟩
      have s56 := s5.trans s6
      generalize upd J' D (.lst []) = J6 at s6 s56 eD eL6 hl6
      clear s6 hl elk eL s5 nD
      walk_at "go"
      refine ⟨⟨_, (hR.mono s56).sq⟩, ?_⟩
      refine for_sq (b := false) hR.sq (fun j σ J => Same H J ∧ ∃ v5 v7 v8 v9 : Option V, J D = some (.lst ((List.range j).map fun s => eV (lng (tb zr) (k + 1) s))) ∧ J L = some (.lst (ls.map V.ref)) ∧ (∀ i l, ls[i]? = some l → J l = some (.lst (lns zr.length (tb zr) i)) ∧ l ≠ L ∧ l ≠ D) ∧ σ = [some (.ref a), some (.int (t : Int)), some (.ref L), some (.int (0 + (k : Int))), some (.ref D), v5, none, v7, v8, v9]) ⟨s56, v5, v7, v8, v9, eD, eL6, hl6, rfl⟩ (fun j σ J h => h.1) ?_ ?_
      · rintro j x σ J7 hx ⟨s7, v5, v7, v8, v9, eD, eL, hl, rfl⟩
        obtain ⟨z, ez, rfl⟩ := of_map hx
        have hj : j < zr.length := (List.getElem?_eq_some_iff.mp ez).1
        obtain ⟨z', ez', eT⟩ := row_of (T := tb zr) rfl hj
        obtain rfl : z = z' := by rw [ez] at ez'; exact Option.some.inj ez'
        have mz : z.2 ∈ tb zr := List.mem_map.mpr ⟨z, List.mem_of_getElem? ez, rfl⟩
        have l4 := wf.row _ mz
        have hent := wf.ent _ mz
        have hz7 := Z.Same.sqK s7 (b := false) (hR.at_ z (List.mem_of_getElem? ez))
        have hln : lng (tb zr) (k + 1) j = lss ((z.2.getD 3 none).bind (lng (tb zr) k)) (add3 ((z.2.getD 0 none).bind (lng (tb zr) k)) ((z.2.getD 1 none).bind (lng (tb zr) k)) ((z.2.getD 2 none).bind (lng (tb zr) k))) := by
          rw [lng]
          unfold nx
          rw [eT]
        obtain ⟨o0, o1, o2, o3, er⟩ := four_of l4
        rw [er] at hent hz7 hln
        dsimp only [List.set]
        walk_at "go"
        refine ⟨⟨_, hz7⟩, ?_⟩
        intro B nB
        refine lc_flt (n := 4) (fun i => eV ([o0, o1, o2, o3].getD i none)) (fun _ => true) (fun i => eV (([o0, o1, o2, o3].getD i none).bind (lng (tb zr) k))) (by decide) nB (fun i J8 hi s8 => ⟨_, eV ([o0, o1, o2, o3].getD i none), Z.Same.sqK s8 (b := false) hz7, row_at (r := [o0, o1, o2, o3]) hi⟩) (fun J8 s8 => ⟨_, Z.Same.sqK s8 (b := false) hz7, Nat.le_refl _⟩) (fun i J8 x J9 hi s8 y => ?_) (fun i => rfl) (fun i J8 Q1 hi s8 q1 => q1 _ (Same.refl _)) (fun i J8 Q1 hi _ s8 q1 => ?_) (fun J8 s8 eB => ?_)
        · obtain ⟨rfl, ex⟩ := y
          have ex := ex _ (Z.Same.sqK s8 (b := false) hz7)
          rw [row_at (r := [o0, o1, o2, o3]) hi] at ex
          exact ⟨Same.refl _, (Option.some.inj ex).symm⟩
        · have he : ∀ e, [o0, o1, o2, o3].getD i none = some e → e < zr.length := fun e h => by
            rw [← lR]
            refine hent e ?_
            rw [List.getD_eq_getElem?_getD, List.getElem?_eq_getElem hi] at h
            exact h ▸ List.getElem_mem hi
          generalize [o0, o1, o2, o3].getD i none = o at he q1 ⊢
          cases o with
          | none =>
            walk_at "go"
            exact q1 _ (Same.refl _)
          | some e =>
            walk_at "go"
            refine ⟨L, _, _, _, rfl, rfl, SqL.of (s8 _ _ eL), aL, ?_⟩
            walk_at "go"
            refine ⟨lk, _, _, _, rfl, rfl, SqL.of (s8 _ _ (hl k lk hlk).1), lns_at (he e rfl), ?_⟩
            exact q1 _ (Same.refl _)
        have eB : J8 B = some (.lst [eV (o0.bind (lng (tb zr) k)), eV (o1.bind (lng (tb zr) k)), eV (o2.bind (lng (tb zr) k)), eV (o3.bind (lng (tb zr) k))]) := by
          rw [eB, fltL_all]
          rfl
        have hln : lng (tb zr) (k + 1) j = lss (o3.bind (lng (tb zr) k)) (add3 (o0.bind (lng (tb zr) k)) (o1.bind (lng (tb zr) k)) (o2.bind (lng (tb zr) k))) := hln
        generalize o0.bind (lng (tb zr) k) = p0 at eB hln
        generalize o1.bind (lng (tb zr) k) = p1 at eB hln
        generalize o2.bind (lng (tb zr) k) = p2 at eB hln
        generalize o3.bind (lng (tb zr) k) = p3 at eB hln
        walk_at "go"
        refine ⟨B, _, _, _, rfl, rfl, SqL.of eB, atI_nat (j := 3) rfl, ?_⟩
        dsimp only [List.set]
        refine ⟨fun σ J9 => Same J8 J9 ∧ ∃ v9 : Option V, σ = [some (.ref a), some (.int (t : Int)), some (.ref L), some (.int (0 + (k : Int))), some (.ref D), some (.ref z.1), none, some (.ref B), some (eV (lng (tb zr) (k + 1) j)), v9], ?_, ?_⟩
        · walk_at "go"
          refine ⟨B, _, rfl, SqL.of eB, fun c nc => ?_⟩
          have s9 := same_new (o := .lst [eV p0, eV p1, eV p2]) nc
          rw [show cutV [eV p0, eV p1, eV p2, eV p3] none (some 3) = [eV p0, eV p1, eV p2] from rfl]
          walk_at "go"
          refine ⟨c, _, rfl, .inl (SqL.of upd_same), rfl, ?_, ?_⟩
          · cases p0 <;> cases p1 <;> cases p2 <;> rfl
          refine ⟨!(inV V.non [eV p0, eV p1, eV p2]), rfl, ?_⟩
          rw [inV_non]
          cases ea : add3 p0 p1 p2 with
          | none =>
            rw [ea] at hln
            refine ite2 (fun e => absurd e (by decide)) (fun _ => ?_)
            refine ⟨s9, v9, ?_⟩
            rw [hln, show lss p3 none = p3 by cases p3 <;> rfl]
            rfl
          | some tot =>
            refine ite2 (fun _ => ?_) (fun e => absurd rfl e)
            rw [ea] at hln
            obtain ⟨x0, x1, x2, rfl, rfl, rfl, et⟩ : ∃ x0 x1 x2, p0 = some x0 ∧ p1 = some x1 ∧ p2 = some x2 ∧ tot = x0 + x1 + x2 := by
              cases p0 with
              | none => cases ea
              | some x0 => cases p1 with
                | none => cases ea
                | some x1 => cases p2 with
                  | none => cases ea
                  | some x2 => cases ea; exact ⟨_, _, _, rfl, rfl, rfl, rfl⟩
            walk_at "go"
            refine ⟨B, _, rfl, SqL.of (s9 _ _ eB), fun c2 nc2 => ?_⟩
            have s10 := same_new (o := .lst [eV (some x0), eV (some x1), eV (some x2)]) nc2
            rw [show cutV [eV (some x0), eV (some x1), eV (some x2), eV p3] none (some 3) = [eV (some x0), eV (some x1), eV (some x2)] from rfl]
            walk_at "go"
            refine ⟨c2, [(x0 : Int), x1, x2], rfl, SqL.of upd_same, ?_⟩
            have es : ([(x0 : Int), x1, x2]).sum = (tot : Int) := by rw [et]; simp; omega
            rw [es]
            dsimp only [List.set]
            have s910 := s9.trans s10
            cases p3 with
            | none =>
              walk_at "go"
              refine ⟨some (.int (tot : Int)), ?_⟩
              rw [hln]
              rfl
            | some n =>
              have hln : lng (tb zr) (k + 1) j = if tot < n then some tot else some n := hln
              walk_at "go"
              refine ite2 (fun e => ?_) (fun e => ?_)
              · have e : (tot : Int) < n := of_decide_eq_true e
                rw [if_pos (by omega)] at hln
                walk_at "go"
                refine ⟨some (.int (tot : Int)), ?_⟩
                rw [hln]
                rfl
              · have e : ¬ (tot : Int) < n := fun z => e (decide_eq_true z)
                rw [if_neg (by omega)] at hln
                walk_at "go"
                refine ⟨some (.int (tot : Int)), ?_⟩
                rw [hln]
                rfl
        · rintro σ J9 ⟨s9, v9, rfl⟩
          walk_at "go"
          refine ⟨.inl ⟨rfl, _, SqL.of (s9 _ _ (s8 _ _ eD))⟩, ?_⟩
          walk_at "go"
          refine ⟨D, _, _, rfl, rfl, s9 _ _ (s8 _ _ eD), by rw [List.length_map, List.length_range]; exact szC (by omega), ?_⟩
          have s89 := s8.trans s9
          refine ⟨Z.Same.mut (s7.trans s89) nDH, _, _, _, _, ?_, ?_, fun i l e => ?_, rfl⟩
          · rw [upd_same, List.range_succ, List.map_append]
            rfl
          · rw [upd_ne DL]
            exact s89 _ _ eL
          · obtain ⟨h1, h2, h3⟩ := hl i l e
            exact ⟨by rw [upd_ne h3]; exact s89 _ _ h1, h2, h3⟩
      · rintro σ J7 ⟨s7, v5, v7, v8, v9, eD, eL, hl, rfl⟩
        rw [List.length_map] at eD
        walk_at "go"
        refine ⟨.inl ⟨rfl, _, SqL.of eL⟩, ?_⟩
        walk_at "go"
        refine ⟨L, _, _, rfl, rfl, eL, by rw [List.length_map]; exact szC (by omega), ?_⟩
        refine ⟨Z.Same.mut s7 nLH, ls ++ [D], _, _, _, _, _, _, by rw [upd_same, List.map_append]; rfl, by rw [List.length_append, ll]; rfl, fun i l e => ?_, rfl⟩
        by_cases c : i < ls.length
        · rw [List.getElem?_append_left c] at e
          obtain ⟨h1, h2, h3⟩ := hl i l e
          exact ⟨by rw [upd_ne h2]; exact h1, h2⟩
        · rw [List.getElem?_append_right (by omega)] at e
          have h1 := (List.getElem?_eq_some_iff.mp e).1
          have h1 : i - ls.length < 1 := h1
          rw [show i - ls.length = 0 by omega] at e
          cases e
          rw [show i = k + 1 by omega]
          exact ⟨by rw [upd_ne DL.symm]; exact eD, DL.symm⟩
    · rintro σ J ⟨s5, ls, v3, v4, v5, v7, v8, v9, eL, ll, hl, rfl⟩
      walk_at "go"
      exact q L ls J s5 nLH eL ll fun i l e => (hl i l e).1
end
end Z
set_option pp.maxSteps 700
set_option Elab.async false
set_option linter.all false
set_option maxRecDepth 100000
set_option maxHeartbeats 4000000
open SX (S S_inj S_len S_cat)
namespace Z
open Mc
open PySem PySem.Spec PyProof.Rows L2
open C8 (pss_cut tCut)
local macro_rules | `(tactic| walk_at "num") => `(tactic| first | rfl | omega | decide | exact Nat.le_of_lt (small1000 (by simp)) | exact ⟨by omega, by omega⟩ | exact ⟨by omega, by omega, by omega⟩ | exact ⟨by decide, by decide, by decide⟩ | exact Or.inl ⟨by omega, by omega⟩ | exact Or.inr ⟨by omega, by omega⟩)
local macro_rules | `(tactic| walk_at "go") => `(tactic| repeat (first | refine ⟨_, rfl, ?_⟩ | refine ⟨_, _, rfl, rfl, ?_⟩ | refine ⟨_, _, rfl, ?_⟩ | (refine ⟨_, _, rfl, rfl, ?_, ?_⟩; focus walk_at "num") | refine Or.inl ⟨_, rfl, ?_⟩ | refine ⟨_, _, _, _, rfl, rfl, (by assumption), (by rfl), ?_⟩ | refine ⟨_, _, _, _, _, rfl, (by assumption), (by assumption), (by assumption), (by rfl), ?_⟩ | refine ⟨rfl, ?_⟩ | (refine And.intro ?_ ?_; focus walk_at "num")))
abbrev s_Chain_length : Stmt := inClass (topS 54) 1
abbrev N_Chain_length : List Str := ["self"]
abbrev P_Chain_length : List Str := ["self"]
theorem sc_Chain_length : FnScope N_Chain_length P_Chain_length (defScope s_Chain_length) := ⟨rfl, rfl, rfl, by decide +kernel, rfl, by decide +kernel, by decide +kernel⟩
/-! ### fates as texts -/
section
variable {P : Program} {w : World} {K : PySem.W.Frag} {mg : Str → Option Value} {base : Heap} {f C CE : Addr} {fd : FuncData}
/-! ### chains -/
structure ChAt (C : Addr) (K : PySem.W.Frag) (H : Hp) (n : Addr) (R : Tbl) (t : Nat) : Prop where
  ex : ∃ (dx r L : Addr) (zr : List (Addr × List (Option Nat))) (ls : List Addr), H n = some (.ins C dx [("kept_rows", .ref r), ("kept_lengths", .ref L)]) ∧ Tb false false K H r zr ∧ R = tb zr ∧ H L = some (.lst (ls.map V.ref)) ∧ ls.length = t + 1 ∧ ∀ i l, ls[i]? = some l → H l = some (.lst (lns zr.length (tb zr) i))
  wf : Wf R 4
  sz : R.length ≤ 100
  ne : 0 < R.length
  tm : t ≤ 100
theorem ChAt.mono {C : Addr} {K : PySem.W.Frag} {H H' : Hp} {n : Addr} {R : Tbl} {t : Nat} (s : Same H H') (h : ChAt C K H n R t) : ChAt C K H' n R t := by
  obtain ⟨dx, r, L, zr, ls, h1, h2, h3, h4, h5, h6⟩ := h.ex
  exact ⟨⟨dx, r, L, zr, ls, s _ _ h1, h2.mono s, h3, s _ _ h4, h5, fun i l e => s _ _ (h6 i l e)⟩, h.wf, h.sz, h.ne, h.tm⟩
def spLen (C : Addr) (K : PySem.W.Frag) : Sp := fun vs H Q _ => ∃ (n : Addr) (R : Tbl) (t L : Nat), vs = [.ref n] ∧ ChAt C K H n R t ∧ lng R t 0 = some L ∧ Q (.int ((L + 2 : Nat) : Int)) H
theorem ok_length (F : FnM K "length" "Chain.length" s_Chain_length f fd) (cls : Cls K C) (n_kept_lengths : NoAttr K C "kept_lengths") : FnOk P w K mg base CX0 1 f fd P_Chain_length (spLen C K) := by
  refine F.ok sc_Chain_length (fun vs H Q E h => ?_) (fun cdv A outer s H vs Q E hr h => ?_)
  · obtain ⟨n, R, t, L, rfl, _⟩ := h
    rfl
  · obtain ⟨n, R, t, L, rfl, hC, hL, q⟩ := h
    refine ⟨_, PSs.nox (pss_one (ps_ret (pe_op op_add (pe_ix ix_list (pe_ix ix_list (pe_fld (pv 0) rfl) (pe_un un_neg pe_int) (fun _ _ => rfl)) pe_int (fun _ _ => rfl)) pe_int))), ?_⟩
    obtain ⟨dx, r, La, zr, ls, en, hR, rfl, eL, ll, hl⟩ := hC.ex
    have lR : (tb zr).length = zr.length := List.length_map ..
    have h0 := hC.ne
    obtain ⟨lt, elt⟩ : ∃ lt, ls[t]? = some lt := ⟨_, List.getElem?_eq_getElem (by omega)⟩
    walk_at "go"
    refine ⟨La, _, _, _, rfl, rfl, SqL.of eL, last_of elt ll, ?_⟩
    walk_at "go"
    refine ⟨lt, _, _, _, rfl, rfl, SqL.of (hl t lt elt), lns_at (s := 0) (by omega), ?_⟩
    rw [hL]
    walk_at "go"
    exact q
end
end Z
set_option pp.maxSteps 700
set_option Elab.async false
set_option linter.all false
set_option maxRecDepth 100000
set_option maxHeartbeats 4000000
open SX (S S_inj S_len S_cat)
namespace Z
open Mc
open PySem PySem.Spec PyProof.Rows L2
open C8 (pss_cut tCut)
local macro_rules | `(tactic| walk_at "num") => `(tactic| first | rfl | omega | decide | exact Nat.le_of_lt (small1000 (by simp)) | exact ⟨by omega, by omega⟩ | exact ⟨by omega, by omega, by omega⟩ | exact ⟨by decide, by decide, by decide⟩ | exact Or.inl ⟨by omega, by omega⟩ | exact Or.inr ⟨by omega, by omega⟩)
local macro_rules | `(tactic| walk_at "go") => `(tactic| repeat (first | refine ⟨_, rfl, ?_⟩ | refine ⟨_, _, rfl, rfl, ?_⟩ | refine ⟨_, _, rfl, ?_⟩ | (refine ⟨_, _, rfl, rfl, ?_, ?_⟩; focus walk_at "num") | refine Or.inl ⟨_, rfl, ?_⟩ | refine ⟨_, _, _, _, rfl, rfl, (by assumption), (by rfl), ?_⟩ | refine ⟨_, _, _, _, _, rfl, (by assumption), (by assumption), (by assumption), (by rfl), ?_⟩ | refine ⟨rfl, ?_⟩ | (refine And.intro ?_ ?_; focus walk_at "num")))
abbrev s_Chain___init__ : Stmt := inClass (topS 54) 0
abbrev N_Chain___init__ : List Str := ["self", "rule", "rounds", "rows", "lengths"]
abbrev P_Chain___init__ : List Str := ["self", "rule", "rounds"]
theorem sc_Chain___init__ : FnScope N_Chain___init__ P_Chain___init__ (defScope s_Chain___init__) := ⟨rfl, rfl, rfl, by decide +kernel, rfl, by decide +kernel, by decide +kernel⟩
theorem sq_ins {b : Bool} {K : PySem.W.Frag} {H H' : Hp} {n C dx a : Addr} {fs : List (Str × V)} {xs : List V} (s : SB n H H') (hn : H n = some (.ins C dx fs)) (h : SqK b K H a xs) : SqK b K H' a xs := by
  have ne : ∀ {o : HO}, H a = some o → (∀ C dx fs, o ≠ .ins C dx fs) → a ≠ n := fun e z w => by
    rw [w, hn] at e
    exact z _ _ _ (Option.some.inj e).symm
  cases b
  · rcases h with (h | ⟨o, h⟩) | h
    · exact .inl (.inl (s _ _ (ne h fun _ _ _ => nofun) h))
    · exact .inl (.inr ⟨o, s _ _ (ne h fun _ _ _ => nofun) h⟩)
    · exact .inr h
  · rcases h with (h | ⟨o, h⟩) | h
    · exact .inl (.inl (s _ _ (ne h fun _ _ _ => nofun) h))
    · exact .inl (.inr ⟨o, s _ _ (ne h fun _ _ _ => nofun) h⟩)
    · exact .inr h
section
variable {P : Program} {w : World} {K : PySem.W.Frag} {mg : Str → Option Value} {base : Heap} {f C CM CE CN CB CD : Addr} {fd : FuncData}
/-! ### Chain(rule, rounds=t) -/
def spCh1 (C CM CN : Addr) (K : PySem.W.Frag) : Sp := fun vs H Q E => ∃ (n dx m : Addr) (sz : Nat) (L : Lg) (t : Nat), vs = [.ref n, .ref m, .int (t : Int)] ∧ H n = some (.ins C dx []) ∧ McL CM K H m LT sz L ∧ sz ≤ 12 ∧ t ≤ 40 ∧ (∀ R, Unf L R → 0 < R.length → ∀ x, lng R t 0 = some x → ∀ H', SB n H H' → ChAt C K H' n R t → Q .non H') ∧ (∀ R, Unf L R → R.length = 0 ∨ lng R t 0 = none → ∀ H', Same H H' → E (.ref CN) none H')
theorem ok_chain (F : FunD K "__init__" "Chain.__init__" (defArgs s_Chain___init__) (defBody s_Chain___init__) (defScope s_Chain___init__) [] [] f fd) (m_len : mg "len" = none) (cls : Cls K C) (n_kept_rows : NoAttr K C "kept_rows") (n_kept_lengths : NoAttr K C "kept_lengths") (clsM : Cls K CM) (n_rows : NoAttr K CM "rows") (x0_NoChain : Exn0 K mg "NoChain" CN) (c_check_rounds : CalX P w K mg base 3 "check_rounds" (spCkR9 CB)) (c_passage_lengths : Cal P w K mg base 1 "passage_lengths" (spPl K)) (me_unending : Met P w K mg base 6 CM "unending" (spMe UnL CM K)) : FnOk P w K mg base (L2N.CX P w) 7 f fd P_Chain___init__ (spCh1 C CM CN K) := by
  refine F.ok sc_Chain___init__ (fun vs H Q E h => ?_) (fun cdv A outer s H vs Q E hr h => ?_)
  · obtain ⟨n, dx, m, sz, L, t, rfl, _⟩ := h
    rfl
  · obtain ⟨n, dx, m, sz, L, t, rfl, hn, hM, lsz, ht, q1, q2⟩ := h
    have tk := takes_fn (P := P) (w := w) (K := K) (mg := mg) (base := base) (N := N_Chain___init__) (qual := "Chain.__init__") (scope := defScope s_Chain___init__) (f := f) (cd := cdv) (A := A) (outer := outer) (s := s) (H := H) (E := E)
    refine ⟨_, (pss_cons (ps_expr (pe_clE c_check_rounds (fun σ => L2N.passAt tk σ) hr (by decide) (by rfl) (pa_cons (pv 2) pa_nil)))
      (pss_cons (ps_set (i := 3) sc_Chain___init__.nd rfl (by first | exact .inl rfl | exact .inr rfl) (pe_fld (pe_me0 me_unending (pv 1) hr (by decide)) rfl))
      (pss_cons (ps_set (i := 4) sc_Chain___init__.nd rfl (by first | exact .inl rfl | exact .inr rfl) (pe_cl c_passage_lengths hr (by decide) (by rfl) (pa_cons (pv 3) (pa_cons (pv 2) pa_nil))))
      (pss_cons (ps_if (PW.pt (pw_or (pt_cmpR op_eq (pe_callB call_len_seq (by rfl) m_len PySem.boot_len (pa_cons (pv 3) pa_nil)) pe_int (nomark _)) (pw_or1 (pt_cmpR op_isN (pe_ix ix_list (pe_ix ix_list (pv 4) (pe_un un_neg pe_int) (fun _ _ => rfl)) pe_int (fun _ _ => rfl)) pe_non (nomark _))))) (pss_one (ps_ex0 rfl tk x0_NoChain (by rfl))) pss_nil)
      (pss_cons (ps_fld (pv 0) (pv 3) rfl)
      (pss_one (ps_fld (pv 0) (pv 4) rfl))))))), ?_⟩
    obtain ⟨dx0, r0, u0, en0⟩ := hM.ins
    have ndL : LT.Nodup := by decide
    walk_at "go"
    refine ⟨fun _ => ?_, fun h => absurd ⟨by omega, by omega⟩ h⟩
    walk_at "go"
    refine ⟨m, dx0, _, rfl, en0, by rfl, ?_⟩
    refine ⟨m, LT, sz, L, rfl, hM, ndL, by decide, by decide, by omega, fun n' H1 s1 _ hM' => ?_⟩
    obtain ⟨dx', r, u, zr, en, hR, hU', lzr⟩ := hM'.un
    have hU := hU'
    have q1 := q1 _ hU'
    have q2 := q2 _ hU'
    have lT : (tb zr).length = zr.length := List.length_map ..
    walk_at "go"
    refine ⟨r, zr, t, rfl, hR, hU.wf, by omega, by omega, fun La ls H2 s2 _ eL ll hl => ?_⟩
    obtain ⟨lt, elt⟩ : ∃ lt, ls[t]? = some lt := ⟨_, List.getElem?_eq_getElem (by omega)⟩
    have hR2 := hR.mono s2
    have s12 := s1.trans s2
    walk_at "go"
    refine ⟨r, _, rfl, .inr hR2.sq, ?_⟩
    rw [List.length_map]
    walk_at "go"
    by_cases c0 : zr.length = 0
    · have q2 := q2 (.inl (by omega)) H2 s12
      rw [decide_eq_true (show V.int (zr.length : Int) = V.int 0 by rw [c0]; rfl)]
      walk_at "go"
      exact q2
    rw [decide_eq_false (show ¬ V.int (zr.length : Int) = V.int 0 from fun z => by injection z with z; omega)]
    walk_at "go"
    refine ⟨La, _, _, _, rfl, rfl, SqL.of eL, last_of elt ll, ?_⟩
    walk_at "go"
    refine ⟨lt, _, _, _, rfl, rfl, SqL.of (hl t lt elt), lns_at (s := 0) (by omega), ?_⟩
    cases c : lng (tb zr) t 0 with
    | none =>
      have q2 := q2 (.inr c) H2 s12
      walk_at "go"
      exact q2
    | some x =>
      have q1 := q1 (by omega) x c
      have hn2 := s12 _ _ hn
      walk_at "go"
      refine ⟨n, C, dx, _, rfl, hn2, cls, n_kept_rows, by decide, ?_⟩
      walk_at "go"
      refine ⟨n, C, dx, _, rfl, upd_same, cls, n_kept_lengths, (show (1 : Nat) < 1000 by omega), ?_⟩
      refine q1 _ (SB.upd (SB.upd (Z.Same.sb s12))) ?_
      have keep : ∀ {a : Addr} {xs : List V}, H2 a = some (.lst xs) → upd (upd H2 n (.ins C dx [("kept_rows", .ref r)])) n (.ins C dx [("kept_rows", .ref r), ("kept_lengths", .ref La)]) a = some (.lst xs) := fun {a xs} e => by
        have ne : a ≠ n := fun z => by
          rw [z, hn2] at e
          cases e
        rw [upd_ne ne, upd_ne ne, e]
      have sbn : SB n H2 (upd (upd H2 n (.ins C dx [("kept_rows", .ref r)])) n (.ins C dx [("kept_rows", .ref r), ("kept_lengths", .ref La)])) := SB.upd (SB.upd (Z.Same.sb (Same.refl _)))
      refine ⟨⟨dx, r, La, zr, ls, upd_same, ⟨sq_ins sbn hn2 hR2.sq, fun z m => sq_ins sbn hn2 (hR2.at_ z m)⟩, rfl, keep eL, ll, fun i l e => keep (hl i l e)⟩, hU.wf, by omega, by omega, by omega⟩
/-! ### Decider(rule, rounds=t) -/
end
end Z
set_option pp.maxSteps 700
set_option Elab.async false
set_option linter.all false
set_option maxRecDepth 100000
set_option maxHeartbeats 4000000
open SX (S S_inj S_len S_cat)
namespace Z
open Mc
open PySem PySem.Spec PyProof.Rows L2
open C8 (pss_cut tCut)
local macro_rules | `(tactic| walk_at "num") => `(tactic| first | rfl | omega | decide | exact Nat.le_of_lt (small1000 (by simp)) | exact ⟨by omega, by omega⟩ | exact ⟨by omega, by omega, by omega⟩ | exact ⟨by decide, by decide, by decide⟩ | exact Or.inl ⟨by omega, by omega⟩ | exact Or.inr ⟨by omega, by omega⟩)
local macro_rules | `(tactic| walk_at "go") => `(tactic| repeat (first | refine ⟨_, rfl, ?_⟩ | refine ⟨_, _, rfl, rfl, ?_⟩ | refine ⟨_, _, rfl, ?_⟩ | (refine ⟨_, _, rfl, rfl, ?_, ?_⟩; focus walk_at "num") | refine Or.inl ⟨_, rfl, ?_⟩ | refine ⟨_, _, _, _, rfl, rfl, (by assumption), (by rfl), ?_⟩ | refine ⟨_, _, _, _, _, rfl, (by assumption), (by assumption), (by assumption), (by rfl), ?_⟩ | refine ⟨rfl, ?_⟩ | (refine And.intro ?_ ?_; focus walk_at "num")))
abbrev s_sure : Stmt := topS 78
abbrev N_sure : List Str := ["_law_rows", "_law_good_here", "_law_draws_here", "_law_place", "_law_turn", "_law_live", "_law_flags_here", "_law_state", "_law_inside", "_law_fate", "_law_entry"]
abbrev P_sure : List Str := ["_law_rows", "_law_good_here", "_law_draws_here", "_law_place"]
theorem sc_sure : FnScope N_sure P_sure (defScope s_sure) := ⟨rfl, rfl, rfl, by decide +kernel, rfl, by decide +kernel, by decide +kernel⟩
theorem eV_inj : ∀ {a b : Option Nat}, eV a = eV b → a = b
  | none, none, _ => rfl
  | none, some _, h => nomatch h
  | some _, none, h => nomatch h
  | some x, some y, h => by injection h with h; rw [show x = y by omega]
/-- one entry of one row is set -/
def setE (a : Addr) (k : Nat) (o : Option Nat) (zs : List (Addr × List (Option Nat))) : List (Addr × List (Option Nat)) := zs.map fun y => if y.1 = a then (y.1, y.2.set k o) else y
theorem setE_fst (a : Addr) (k : Nat) (o : Option Nat) (zs : List (Addr × List (Option Nat))) : (setE a k o zs).map (·.1) = zs.map (·.1) := by
  unfold setE
  rw [List.map_map]
  refine List.map_congr_left fun y _ => ?_
  show (if y.1 = a then (y.1, y.2.set k o) else y).1 = y.1
  split <;> rfl
theorem tbr_setRow {H : Hp} {A : Addr} {zs : List (Addr × List (Option Nat))} (h : TbR H A zs) (wf : Wf (tb zs) 4) {z : Addr × List (Option Nat)} (hz : z ∈ zs) (k : Nat) (o : Option Nat) (ho : ∀ e, o = some e → e < zs.length) : TbR (upd H z.1 (.lst ((z.2.set k o).map eV))) A (setE z.1 k o zs) ∧ Wf (tb (setE z.1 k o zs)) 4 ∧ A ≠ z.1 := by
  have l4 : ∀ y ∈ zs, y.2.length = 4 := fun y hy => wf.row _ (List.mem_map.mpr ⟨y, hy, rfl⟩)
  have hA : A ≠ z.1 := fun e => by
    have h1 := h.sq
    have h2 := h.at_ z hz
    rw [← e, h1] at h2
    obtain ⟨a, b, c, d, er⟩ := four_of (l4 z hz)
    rw [er] at h2
    cases zs with
    | nil => cases hz
    | cons y r =>
      injection h2 with h2
      injection h2 with h2
      injection h2 with h2 _
      cases a <;> cases h2
  have same : ∀ y ∈ zs, y.1 = z.1 → y.2 = z.2 := fun y hy e => by
    have h1 := h.at_ y hy
    have h2 := h.at_ z hz
    rw [e, h2] at h1
    injection h1 with h1
    injection h1 with h1
    have inj : ∀ {l m : List (Option Nat)}, l.map eV = m.map eV → l = m := by
      intro l
      induction l with
      | nil => intro m h; cases m with | nil => rfl | cons _ _ => cases h
      | cons x l ih =>
        intro m h
        cases m with
        | nil => cases h
        | cons w m =>
          injection h with h3 h4
          rw [eV_inj h3, ih h4]
    exact (inj h1).symm
  refine ⟨⟨?_, fun y hy => ?_⟩, ⟨fun r hr => ?_, fun r hr e he => ?_⟩, hA⟩
  · rw [upd_ne hA, h.sq]
    congr 2
    have := setE_fst z.1 k o zs
    have e2 : ∀ l : List (Addr × List (Option Nat)), (l.map fun z => V.ref z.1) = (l.map (·.1)).map V.ref := fun l => by rw [List.map_map]; rfl
    rw [e2, e2, this]
  · obtain ⟨x, hx, rfl⟩ := List.mem_map.mp hy
    by_cases c : x.1 = z.1
    · rw [if_pos c]
      show upd H z.1 _ x.1 = some (.lst ((x.2.set k o).map eV))
      rw [c, upd_same, same x hx c]
    · rw [if_neg c, upd_ne c]
      exact h.at_ x hx
  · obtain ⟨y, hy, rfl⟩ := List.mem_map.mp hr
    obtain ⟨x, hx, rfl⟩ := List.mem_map.mp hy
    split
    · show (x.2.set k o).length = 4
      rw [List.length_set]
      exact l4 x hx
    · exact l4 x hx
  · have lz : (tb (setE z.1 k o zs)).length = zs.length := by
      unfold tb setE
      rw [List.length_map, List.length_map]
    rw [lz]
    have lt : (tb zs).length = zs.length := List.length_map ..
    obtain ⟨y, hy, rfl⟩ := List.mem_map.mp hr
    obtain ⟨x, hx, rfl⟩ := List.mem_map.mp hy
    have base : ∀ e, some e ∈ x.2 → e < zs.length := fun e he => by
      rw [← lt]
      exact wf.ent _ (List.mem_map.mpr ⟨x, hx, rfl⟩) e he
    split at he
    · rcases List.mem_or_eq_of_mem_set he with he | he
      · exact base e he
      · exact ho e he.symm
    · exact base e he
section
variable {P : Program} {w : World} {K : PySem.W.Frag} {mg : Str → Option Value} {base : Heap} {f C CM CE CN CD CC : Addr} {fd : FuncData}
/-- all but the place and the rows stands -/
def Frm (p : Addr) (zs : List (Addr × List (Option Nat))) (H H' : Hp) : Prop := ∀ b o, b ≠ p → (∀ z ∈ zs, z.1 ≠ b) → H b = some o → H' b = some o
/-- the live table of a rule -/
def LvT (H : Hp) (U : Addr) (zs : List (Addr × List (Option Nat))) (gs : List Nat) : Prop := ∃ zu, TbR H U zu ∧ Wf (tb zu) 4 ∧ zu.length ≤ zs.length ∧ ∀ w, AccS (tb zu) (inG (List.range (tb zu).length)) w ↔ UnL (AccS (tb zs) (inG gs)) w
theorem fst_in {zs zs' : List (Addr × List (Option Nat))} (e : zs'.map (·.1) = zs.map (·.1)) {z : Addr × List (Option Nat)} (hz : z ∈ zs') : ∃ y ∈ zs, y.1 = z.1 := by
  have : z.1 ∈ zs.map (·.1) := by rw [← e]; exact List.mem_map.mpr ⟨z, hz, rfl⟩
  obtain ⟨y, hy, e2⟩ := List.mem_map.mp this
  exact ⟨y, hy, e2⟩
theorem Frm.set {p : Addr} {zs zs' : List (Addr × List (Option Nat))} {H J : Hp} {z : Addr × List (Option Nat)} {o : HO} (f : Frm p zs H J) (e : zs'.map (·.1) = zs.map (·.1)) (hz : z ∈ zs') : Frm p zs H (upd J z.1 o) := fun b u h1 h2 h3 => by
  obtain ⟨y, hy, e2⟩ := fst_in e hz
  have : b ≠ z.1 := fun w => h2 y hy (by rw [e2, w])
  rw [upd_ne this]
  exact f b u h1 h2 h3
def spSure (K : PySem.W.Frag) : Sp := fun vs H Q _ => ∃ (A a p : Addr) (gv : V) (zs : List (Addr × List (Option Nat))) (gs : List Nat) (n m : Nat) (ds : List Int), vs = [.ref A, gv, .ref a, .ref p] ∧ TbR H A zs ∧ Wf (tb zs) 4 ∧ zs.length ≤ 12 ∧ GoL H zs.length gv gs ∧ H a = some (.lst (ds.map V.int)) ∧ Dr n ds ∧ H p = some (.lst [.int (m : Int)]) ∧ a ≠ p ∧ A ≠ p ∧ (∀ z ∈ zs, z.1 ≠ p) ∧ (∀ z ∈ zs, z.1 ≠ a) ∧ (∀ g, gv = .ref g → g ≠ p ∧ ∀ z ∈ zs, z.1 ≠ g) ∧
  ∀ (U : Addr) (zs' : List (Addr × List (Option Nat))) H', Frm p zs H H' → TbR H' A zs' → Wf (tb zs') 4 → zs'.map (·.1) = zs.map (·.1) → GoL H' zs'.length gv gs → LvT H' U zs' gs → Q (.ref U) H'
theorem ok_sure (F : FnP K "_law_sure" s_sure f fd) (m_len : mg "len" = none) (m_range : mg "range" = none) (m_int : mg "int" = none) (c_take : Cal P w K mg base 1 "_law_take" (spTake K)) (c_unending : Cal P w K mg base 2 "_law_unending" (spUnd K)) (c_flags : Cal P w K mg base 2 "_law_flags" (spFlg K)) : FnOk P w K mg base CX0 3 f fd P_sure (spSure K) := by
  refine F.ok sc_sure (fun vs H Q E h => ?_) (fun cdv A outer s H vs Q E hr h => ?_)
  · obtain ⟨A, a, p, gv, zs, gs, n, m, ds, rfl, _⟩ := h
    rfl
  · obtain ⟨A, a, p, gv, zs, gs, n, m, ds, rfl, tr, wf, lz, hG, ea, dr, ep, ap, Ap, zp, za, hg, q⟩ := h
    refine ⟨_, PSs.nox (pss_cons (ps_for PassesOwn.never rfl (pi_range1 (by rfl) m_range (pa_cons pe_int pa_nil)) (pg_name (i := 4) sc_sure.nd rfl (by first | exact .inl rfl | exact .inr rfl))
        (pss_cons (ps_set (i := 5) sc_sure.nd rfl (by first | exact .inl rfl | exact .inr rfl) (pe_cl c_unending hr (by decide) (by rfl) (pa_cons (pv 0) (pa_cons (pv 1) pa_nil))))
      (pss_cons (ps_set (i := 6) sc_sure.nd rfl (by first | exact .inl rfl | exact .inr rfl) (pe_cl c_flags hr (by decide) (by rfl) (pa_cons (pv 5) (pa_cons (pe_callB call_len_seq (by rfl) m_len PySem.boot_len (pa_cons (pv 5) pa_nil)) pa_nil))))
      (pss_cons (ps_if (PW.pt (pw_or (pt_cmpR op_eq (pe_callB call_len_seq (by rfl) m_len PySem.boot_len (pa_cons (pv 5) pa_nil)) pe_int (nomark _)) (pw_or1 (pt_not (pt_val (pe_ix ix_list (pv 6) pe_int (fun _ _ => rfl))))))) (pss_one (ps_ret (pv 5))) pss_nil)
      (pss_cons (ps_setLc (i := 8) (own := [("_law_state", 7)]) (g := (gName 7)) (by rfl) sc_sure.nd rfl rfl (sw_true rfl rfl rfl (by decide +kernel)) (pi_range1 (by rfl) m_range (pa_cons (pe_callB call_len_seq (by rfl) m_len PySem.boot_len (pa_cons (pv 5) pa_nil)) pa_nil)) (blkOk_by (own := [("_law_state", 7)]) (N := N_sure) (sc := defScope s_sure) (by decide +kernel)) (fun _ _ _ _ _ => (pg_name (i := 7) sc_sure.nd rfl (by first | exact .inl rfl | exact .inr rfl))) (fun _ _ _ _ _ => (pts_one (pt_val (pe_ix (ix_list_K (K := K) rfl) (pv 6) (pv 7) (fun _ _ => rfl))))) (fun _ _ _ _ _ => (pv 7)))
      (pss_cons (ps_set (i := 7) sc_sure.nd rfl (by first | exact .inl rfl | exact .inr rfl) (pe_ix ix_list (pv 8) (pe_op op_mod (pe_callTy call_int1 (by rfl) m_int (by decide +kernel) (pa_cons (pe_cl c_take hr (by decide) (by rfl) (pa_cons (pv 2) (pa_cons (pv 3) pa_nil))) pa_nil)) (pe_callB call_len_seq (by rfl) m_len PySem.boot_len (pa_cons (pv 8) pa_nil))) (fun _ _ => rfl)))
      (pss_cons (ps_set (i := 9) sc_sure.nd rfl (by first | exact .inl rfl | exact .inr rfl) (pe_op op_mod (pe_callTy call_int1 (by rfl) m_int (by decide +kernel) (pa_cons (pe_cl c_take hr (by decide) (by rfl) (pa_cons (pv 2) (pa_cons (pv 3) pa_nil))) pa_nil)) pe_int))
      (pss_one (ps_if (PW.pt (pw_or (pt_cmpR op_isN (pe_ix ix_list (pe_ix ix_list (pv 5) (pv 7) (fun _ _ => rfl)) pe_int (fun _ _ => rfl)) pe_non (nomark _)) (pw_or1 (pt_not (pt_val (pe_ix ix_list (pv 6) (pe_ix ix_list (pe_ix ix_list (pv 5) (pv 7) (fun _ _ => rfl)) pe_int (fun _ _ => rfl)) (fun _ _ => rfl))))))) (pss_one (ps_asg pe_non (pg_sub (pe_ix ix_list (pv 0) (pv 7) (fun _ _ => rfl)) (pv 9) set_list))) (pss_cut (ps_if (pt_cmpR op_eq (pe_callB call_len_seq (by rfl) m_len PySem.boot_len (pa_cons (pe_lc (own := [("_law_entry", 10)]) (g := (gName 10)) (by rfl) sc_sure.nd (pi_list (pe_ix ix_list (pv 5) (pv 7) (fun _ _ => rfl))) (blkOk_by (own := [("_law_entry", 10)]) (N := N_sure) (sc := defScope s_sure) (by decide +kernel)) (fun _ _ _ _ _ => (pg_name (i := 10) sc_sure.nd rfl (by first | exact .inl rfl | exact .inr rfl))) (fun _ _ _ _ _ => (pts_one (pt_cmpR op_notN (pv 10) pe_non (nomark _)))) (fun _ _ _ _ _ => (pv 10))) pa_nil)) pe_int (nomark _)) (pss_one (ps_asg (pe_ix ix_list (pe_ix ix_list (pv 0) (pv 7) (fun _ _ => rfl)) pe_int (fun _ _ => rfl)) (pg_sub (pe_ix ix_list (pv 0) (pv 7) (fun _ _ => rfl)) (pv 9) set_list))) pss_nil)
      (pss_one (ps_asg pe_non (pg_sub (pe_ix ix_list (pv 0) (pv 7) (fun _ _ => rfl)) pe_int set_list)))))))))))))
      (pss_one (ps_ret (pe_cl c_unending hr (by decide) (by rfl) (pa_cons (pv 0) (pa_cons (pv 1) pa_nil)))))), ?_⟩
    have gol : ∀ {J : Hp} {zs' : List (Addr × List (Option Nat))}, Frm p zs H J → zs'.length = zs.length → GoL J zs'.length gv gs := fun {J zs'} fr e => by
      rw [e]
      obtain ⟨g1, g2⟩ := hG
      exact ⟨g1.imp id fun ⟨g, eg, h⟩ => ⟨g, eg, fr g _ (hg g eg).1 (hg g eg).2 h⟩, g2⟩
    walk_at "go"
    refine for_gen (n := 61) (fun k σ J => Frm p zs H J ∧ ∃ (zs' : List (Addr × List (Option Nat))) (m : Nat) (v4 v5 v6 v7 v8 v9 : Option V), TbR J A zs' ∧ Wf (tb zs') 4 ∧ zs'.map (·.1) = zs.map (·.1) ∧ J p = some (.lst [.int (m : Int)]) ∧ σ = [some (.ref A), some gv, some (.ref a), some (.ref p), v4, v5, v6, v7, v8, v9, none]) ⟨fun b o _ _ h => h, zs, m, none, none, none, none, none, none, tr, wf, rfl, ep, rfl⟩ ?_ ?_ ?_ ?_
    · intro i σ J hi _
      exact hi
    · intro σ J _
      exact Nat.le_refl _
    · rintro k σ J x J' hk ⟨fr, zs', m, v4, v5, v6, v7, v8, v9, tr, wf, ez, ep, rfl⟩ ⟨rfl, rfl⟩
      have lz' : zs'.length = zs.length := by
        have := congrArg List.length ez
        rw [List.length_map, List.length_map] at this
        exact this
      have hG' := gol fr lz'
      have ea' := fr a _ ap za ea
      walk_at "go"
      refine ⟨A, gv, zs', gs, rfl, tr, wf, by omega, hG', fun U zu J1 s1 nU trU wfU lzU hL => ?_⟩
      walk_at "go"
      refine ⟨U, _, rfl, .inl (SqL.of trU.sq), ?_⟩
      rw [List.length_map]
      refine ⟨U, zu, zu.length, rfl, trU, wfU, by omega, by omega, fun L J2 s2 eL => ?_⟩
      have s12 := s1.trans s2
      have fin : Q (.ref U) J2 := q U zs' J2 (fun b o h1 h2 h3 => s12 _ _ (fr b o h1 h2 h3)) (tr.mono s12) wf ez (hG'.mono s12) ⟨zu, trU.mono s2, wfU, lzU, hL⟩
      walk_at "go"
      refine ⟨U, _, rfl, .inl (SqL.of (s2 _ _ trU.sq)), ?_⟩
      rw [List.length_map]
      walk_at "go"
      by_cases c0 : zu.length = 0
      · rw [decide_eq_true (show V.int (zu.length : Int) = V.int 0 by rw [c0]; rfl)]
        walk_at "go"
        exact fin
      rw [decide_eq_false (show ¬ V.int (zu.length : Int) = V.int 0 from fun z => by injection z with z; omega)]
      walk_at "go"
      refine ⟨L, _, _, _, rfl, rfl, SqL.of eL, bls_at (i := 0) (by omega), ?_⟩
      cases hf : lvl (tb zu) zu.length 0 with
      | false =>
        walk_at "go"
        exact fin
      | true =>
        clear fin
        walk_at "go"
        refine ⟨U, _, rfl, .inl (SqL.of (s2 _ _ trU.sq)), ?_⟩
        rw [List.length_map]
        walk_at "go"
        intro B nB
        refine lc_flt (n := zu.length) (fun i => .int ((i : Nat) : Int)) (lvl (tb zu) zu.length) (fun i => .int ((i : Nat) : Int)) (by omega) nB (fun i J3 hi _ => ?_) (fun J3 _ => ?_) (fun i J3 y J4 hi _ z => ?_) (fun i => rfl) (fun i J3 Q1 hi s3 q1 => ?_) (fun i J3 Q1 _ _ s3 q1 => ?_) (fun J3 s3 eB => ?_)
        · show i < ((zu.length : Int)).toNat
          omega
        · show ((zu.length : Int)).toNat ≤ zu.length
          omega
        · obtain ⟨rfl, rfl⟩ := z
          exact ⟨Same.refl _, by rw [Int.zero_add]⟩
        · walk_at "go"
          refine ⟨L, _, _, _, rfl, rfl, SqL.of (s3 _ _ eL), bls_at hi, ?_⟩
          exact ⟨_, rfl, q1 _ (Same.refl _)⟩
        · walk_at "go"
          exact q1 _ (Same.refl _)
        rw [flt_gsq] at eB
        have h0in : 0 ∈ (List.range zu.length).filter (lvl (tb zu) zu.length) := List.mem_filter.mpr ⟨List.mem_range.mpr (by omega), hf⟩
        have hin : ∀ s ∈ (List.range zu.length).filter (lvl (tb zu) zu.length), s < zu.length := fun s hs => List.mem_range.mp (List.mem_filter.mp hs).1
        generalize (List.range zu.length).filter (lvl (tb zu) zu.length) = ins at eB h0in hin
        have hpos : 0 < ins.length := List.length_pos_of_mem h0in
        have s123 := s12.trans s3
        have Bp : B ≠ p := (ne_of_none (s12 _ _ ep) nB).symm
        have fr3 : Frm p zs H J3 := fun b o h1 h2 h3 => s123 _ _ (fr b o h1 h2 h3)
        have tr3 := tr.mono s123
        have trU3 := trU.mono (s2.trans s3)
        have eL3 := s3 _ _ eL
        have ep3 := s123 _ _ ep
        have np : ∀ b xs, J3 b = some (.lst xs) → (∀ i, xs ≠ [.int i]) → b ≠ p := fun b xs e1 e2 w => by
          rw [w, ep3] at e1
          injection e1 with e1
          injection e1 with e1
          exact e2 _ e1.symm
        have Up : U ≠ p := np U _ trU3.sq fun i w => by
          cases zu with
          | nil => exact c0 rfl
          | cons y r => injection w with w _; cases w
        have zup : ∀ z ∈ zu, z.1 ≠ p := fun z hz => np z.1 _ (trU3.at_ z hz) fun i w => by
          have l4 := wfU.row _ (List.mem_map.mpr ⟨z, hz, rfl⟩)
          have := congrArg List.length w
          rw [List.length_map, l4] at this
          cases this
        have Lp : L ≠ p := np L _ eL3 fun i w => by
          have := congrArg List.length w
          unfold bls at w this
          rw [List.length_map, List.length_range] at this
          have this : zu.length = 1 := this
          rw [this] at w
          injection w with w _
          cases w
        have zsp : ∀ z ∈ zs', z.1 ≠ p := fun z hz => by
          obtain ⟨y, hy, e⟩ := fst_in ez hz
          rw [← e]
          exact zp y hy
        walk_at "go"
        refine ⟨a, p, n, m, ds, rfl, SqL.of (s123 _ _ ea'), dr, ep3, ap, fun r1 r10 r11 => ?_⟩
        have sb4 : SB p J3 (upd J3 p (.lst [.int ((m + 1 : Nat) : Int)])) := SB.upd (Z.Same.sb (Same.refl J3))
        have ep4 : (upd J3 p (.lst [.int ((m + 1 : Nat) : Int)])) p = some (.lst [.int ((m + 1 : Nat) : Int)]) := upd_same
        generalize upd J3 p (.lst [.int ((m + 1 : Nat) : Int)]) = J4 at sb4 ep4
        have eB4 := sb4 _ _ Bp eB
        refine .inl ⟨_, rfl, ?_⟩
        walk_at "go"
        refine ⟨B, _, rfl, .inl (SqL.of eB4), ?_⟩
        rw [show (gsq ins).length = ins.length from List.length_map ..]
        have m1 : 0 ≤ r1 % (ins.length : Int) := Int.emod_nonneg _ (by omega)
        have m2 : r1 % (ins.length : Int) < ins.length := Int.emod_lt_of_pos _ (by omega)
        obtain ⟨j, ej⟩ := Int.eq_ofNat_of_zero_le m1
        rw [ej] at m2
        have hj : j < ins.length := by omega
        obtain ⟨st, est⟩ : ∃ st, ins[j]? = some st := ⟨_, List.getElem?_eq_getElem hj⟩
        have hst := hin st (List.mem_of_getElem? est)
        have atj : atI (gsq ins) (r1 % (ins.length : Int)) = some (.int (st : Int)) := by
          rw [ej]
          exact atI_nat (by rw [gsq_get, est]; rfl)
        walk_at "go"
        refine ⟨B, _, _, _, rfl, rfl, SqL.of eB4, atj, ?_⟩
        walk_at "go"
        refine ⟨a, p, n, m + 1, ds, rfl, SqL.of (sb4 _ _ ap (s123 _ _ ea')), dr, ep4, ap, fun r2 r20 r21 => ?_⟩
        have sb5 : SB p J3 (upd J4 p (.lst [.int ((m + 1 + 1 : Nat) : Int)])) := SB.upd sb4
        have ep5 : (upd J4 p (.lst [.int ((m + 1 + 1 : Nat) : Int)])) p = some (.lst [.int ((m + 1 + 1 : Nat) : Int)]) := upd_same
        generalize upd J4 p (.lst [.int ((m + 1 + 1 : Nat) : Int)]) = J5 at sb5 ep5
        clear sb4 ep4 eB4
        walk_at "go"
        have tr5 : TbR J5 A zs' := ⟨sb5 _ _ Ap tr3.sq, fun z hz => sb5 _ _ (zsp z hz) (tr3.at_ z hz)⟩
        have trU5 : TbR J5 U zu := ⟨sb5 _ _ Up trU3.sq, fun z hz => sb5 _ _ (zup z hz) (trU3.at_ z hz)⟩
        have eL5 := sb5 _ _ Lp eL3
        have fr5 : Frm p zs H J5 := fun b o h1 h2 h3 => sb5 _ _ h1 (fr3 b o h1 h2 h3)
        obtain ⟨fa, efa⟩ := Int.eq_ofNat_of_zero_le (show 0 ≤ r2 % 3 by omega)
        have hfa : fa < 3 := by omega
        rw [show (fun i j : Int => V.int (i % j)) r2 3 = V.int (fa : Int) from congrArg V.int efa]
        obtain ⟨y, ey⟩ : ∃ y, zu[st]? = some y := ⟨_, List.getElem?_eq_getElem hst⟩
        obtain ⟨z, ezz⟩ : ∃ z, zs'[st]? = some z := ⟨_, List.getElem?_eq_getElem (by omega)⟩
        have hy := List.mem_of_getElem? ey
        have hz := List.mem_of_getElem? ezz
        have aU : atI (zu.map fun z => V.ref z.1) (st : Int) = some (.ref y.1) := at_map ey
        have aA : atI (zs'.map fun z => V.ref z.1) (st : Int) = some (.ref z.1) := at_map ezz
        have ly : y.2.length = 4 := wfU.row _ (List.mem_map.mpr ⟨y, hy, rfl⟩)
        have lzr : z.2.length = 4 := wf.row _ (List.mem_map.mpr ⟨z, hz, rfl⟩)
        have lT : (tb zs').length = zs'.length := List.length_map ..
        have lTu : (tb zu).length = zu.length := List.length_map ..
        have r4 : ∀ (i : Nat) (l : List (Option Nat)), l.length = 4 → i < 4 → atI (l.map eV) (i : Int) = some (eV (l.getD i none)) := fun i l hl hi => atI_nat (row_at (by omega))
        have hyent : ∀ e, y.2.getD 3 none = some e → e < zu.length := fun e he => by
          rw [← lTu]
          refine wfU.ent _ (List.mem_map.mpr ⟨y, hy, rfl⟩) e ?_
          rw [List.getD_eq_getElem?_getD] at he
          cases hk : y.2[3]? with
          | none => rw [hk] at he; cases he
          | some x => rw [hk] at he; cases he; exact List.mem_of_getElem? hk
        have hzent : ∀ e, z.2.getD 3 none = some e → e < zs'.length := fun e he => by
          rw [← lT]
          refine wf.ent _ (List.mem_map.mpr ⟨z, hz, rfl⟩) e ?_
          rw [List.getD_eq_getElem?_getD] at he
          cases hk : z.2[3]? with
          | none => rw [hk] at he; cases he
          | some x => rw [hk] at he; cases he; exact List.mem_of_getElem? hk
        walk_at "go"
        refine ⟨U, _, _, _, rfl, rfl, SqL.of trU5.sq, aU, ?_⟩
        walk_at "go"
        refine ⟨y.1, _, _, _, rfl, rfl, SqL.of (trU5.at_ y hy), r4 3 y.2 ly (by decide), ?_⟩
        have sv : ∀ (l : List (Option Nat)) (i : Nat) (o : Option Nat), (l.map eV).set i (eV o) = (l.set i o).map eV := fun l i o => List.map_set.symm
        obtain ⟨tr6, wf6, _⟩ := tbr_setRow tr5 wf hz fa none nofun
        have fr6 := fr5.set (o := .lst ((z.2.set fa none).map eV)) ez hz
        have ep6 : (upd J5 z.1 (.lst ((z.2.set fa none).map eV))) p = some (.lst [.int ((m + 1 + 1 : Nat) : Int)]) := by
          rw [upd_ne (zsp z hz).symm]
          exact ep5
        cases e3 : y.2.getD 3 none with
        | none =>
          walk_at "go"
          refine ⟨A, _, _, _, rfl, rfl, SqL.of tr5.sq, aA, ?_⟩
          walk_at "go"
          refine ⟨z.1, _, _, _, rfl, rfl, tr5.at_ z hz, ixN_nat (by rw [List.length_map, lzr]; omega), ?_⟩
          rw [show V.non = eV none from rfl, sv]
          exact ⟨fr6, setE z.1 fa none zs', _, _, _, _, _, _, _, tr6, wf6, (setE_fst ..).trans ez, ep6, rfl⟩
        | some e =>
          have he := hyent e e3
          walk_at "go"
          refine ⟨U, _, _, _, rfl, rfl, SqL.of trU5.sq, aU, ?_⟩
          walk_at "go"
          refine ⟨y.1, _, _, _, rfl, rfl, SqL.of (trU5.at_ y hy), r4 3 y.2 ly (by decide), ?_⟩
          rw [e3]
          refine ⟨L, _, _, _, rfl, rfl, SqL.of eL5, bls_at he, ?_⟩
          cases hb : lvl (tb zu) zu.length e with
          | false =>
            walk_at "go"
            refine ⟨A, _, _, _, rfl, rfl, SqL.of tr5.sq, aA, ?_⟩
            walk_at "go"
            refine ⟨z.1, _, _, _, rfl, rfl, tr5.at_ z hz, ixN_nat (by rw [List.length_map, lzr]; omega), ?_⟩
            rw [show V.non = eV none from rfl, sv]
            exact ⟨fr6, setE z.1 fa none zs', _, _, _, _, _, _, _, tr6, wf6, (setE_fst ..).trans ez, ep6, rfl⟩
          | true =>
            clear tr6 wf6 fr6 ep6
            walk_at "go"
            refine ite2 (fun e => absurd e (by decide)) (fun _ => ?_)
            dsimp only [List.set]
            refine ⟨fun σ J6 => Frm p zs H J6 ∧ ∃ zs2 : List (Addr × List (Option Nat)), TbR J6 A zs2 ∧ Wf (tb zs2) 4 ∧ zs2.map (·.1) = zs.map (·.1) ∧ J6 p = some (.lst [.int ((m + 1 + 1 : Nat) : Int)]) ∧ σ = [some (.ref A), some gv, some (.ref a), some (.ref p), some (.int (0 + (k : Int))), some (.ref U), some (.ref L), some (.int (st : Int)), some (.ref B), some (.int (fa : Int)), none], ?_, ?_⟩
            · walk_at "go"
              refine ⟨U, _, _, _, rfl, rfl, SqL.of trU5.sq, aU, ?_⟩
              have ey5 := trU5.at_ y hy
              refine ⟨y.1, rfl, ⟨_, SqL.of ey5⟩, ?_⟩
              intro B2 nB2
              refine lc_flt (n := 4) (fun i => eV (y.2.getD i none)) (fun i => (y.2.getD i none).isSome) (fun i => eV (y.2.getD i none)) (by decide) nB2 (fun i J8 hi s8 => ⟨_, eV (y.2.getD i none), s8.seq (SqL.of ey5), row_at (by omega)⟩) (fun J8 s8 => ⟨_, s8.seq (SqL.of ey5), by rw [List.length_map, ly]; exact Nat.le_refl _⟩) (fun i J8 x J9 hi s8 yy => ?_) (fun i => rfl) (fun i J8 Q1 hi s8 q1 => ?_) (fun i J8 Q1 hi _ s8 q1 => ?_) (fun J8 s8 eB2 => ?_)
              · obtain ⟨rfl, ex⟩ := yy
                have ex := ex _ (s8.seq (SqL.of ey5))
                rw [row_at (by omega)] at ex
                exact ⟨Same.refl _, (Option.some.inj ex).symm⟩
              · cases c : y.2.getD i none with
                | none =>
                  rw [c] at q1
                  walk_at "go"
                  exact q1 _ (Same.refl _)
                | some x =>
                  rw [c] at q1
                  walk_at "go"
                  exact q1 _ (Same.refl _)
              · walk_at "go"
                exact q1 _ (Same.refl _)
              have fr8 : Frm p zs H J8 := fun b o h1 h2 h3 => s8 _ _ (fr5 b o h1 h2 h3)
              have tr8 := tr5.mono s8
              have ep8 := s8 _ _ ep5
              walk_at "go"
              refine ⟨B2, _, rfl, .inl (SqL.of eB2), ?_⟩
              walk_at "go"
              refine ite2 (fun _ => ?_) (fun _ => ?_)
              · walk_at "go"
                refine ⟨A, _, _, _, rfl, rfl, SqL.of tr8.sq, aA, ?_⟩
                walk_at "go"
                refine ⟨z.1, _, _, _, rfl, rfl, SqL.of (tr8.at_ z hz), r4 3 z.2 lzr (by decide), ?_⟩
                walk_at "go"
                refine ⟨A, _, _, _, rfl, rfl, SqL.of tr8.sq, aA, ?_⟩
                walk_at "go"
                refine ⟨z.1, _, _, _, rfl, rfl, tr8.at_ z hz, ixN_nat (by rw [List.length_map, lzr]; omega), ?_⟩
                rw [sv]
                obtain ⟨tr9, wf9, _⟩ := tbr_setRow tr8 wf hz fa (z.2.getD 3 none) hzent
                exact ⟨fr8.set ez hz, setE z.1 fa (z.2.getD 3 none) zs', tr9, wf9, (setE_fst ..).trans ez, by rw [upd_ne (zsp z hz).symm]; exact ep8, rfl⟩
              · exact ⟨fr8, zs', tr8, wf, ez, ep8, rfl⟩
            · rintro σ J6 ⟨fr6, zs2, tr6, wf6, ez2, ep6, rfl⟩
              have lz2 : zs2.length = zs.length := by
                have := congrArg List.length ez2
                rw [List.length_map, List.length_map] at this
                exact this
              obtain ⟨z2, ezz2⟩ : ∃ z2, zs2[st]? = some z2 := ⟨_, List.getElem?_eq_getElem (by omega)⟩
              have hz2 := List.mem_of_getElem? ezz2
              have aA2 : atI (zs2.map fun z => V.ref z.1) (st : Int) = some (.ref z2.1) := at_map ezz2
              have lzr2 : z2.2.length = 4 := wf6.row _ (List.mem_map.mpr ⟨z2, hz2, rfl⟩)
              have z2p : z2.1 ≠ p := by
                obtain ⟨y, hy, e⟩ := fst_in ez2 hz2
                rw [← e]
                exact zp y hy
              obtain ⟨tr9, wf9, _⟩ := tbr_setRow tr6 wf6 hz2 3 none nofun
              walk_at "go"
              refine ⟨A, _, _, _, rfl, rfl, SqL.of tr6.sq, aA2, ?_⟩
              walk_at "go"
              refine ⟨z2.1, _, _, 3, rfl, rfl, tr6.at_ z2 hz2, ixN_nat (j := 3) (by rw [List.length_map, lzr2]; omega), ?_⟩
              rw [show V.non = eV none from rfl, sv]
              exact ⟨fr6.set ez2 hz2, setE z2.1 3 none zs2, _, _, _, _, _, _, _, tr9, wf9, (setE_fst ..).trans ez2, by rw [upd_ne z2p.symm]; exact ep6, rfl⟩
    · rintro σ J ⟨fr, zs', m, v4, v5, v6, v7, v8, v9, tr, wf, ez, ep, rfl⟩
      have lz' : zs'.length = zs.length := by
        have := congrArg List.length ez
        rw [List.length_map, List.length_map] at this
        exact this
      have hG' := gol fr lz'
      walk_at "go"
      refine ⟨A, gv, zs', gs, rfl, tr, wf, by omega, hG', fun U zu J1 s1 nU trU wfU lzU hL => ?_⟩
      exact q U zs' J1 (fun b o h1 h2 h3 => s1 _ _ (fr b o h1 h2 h3)) (tr.mono s1) wf ez (hG'.mono s1) ⟨zu, trU, wfU, lzU, hL⟩
end
end Z
set_option Elab.async false
set_option linter.all false
set_option maxRecDepth 100000
set_option maxHeartbeats 4000000
namespace Z
open PySem PySem.Spec PyProof.Rows L2
open SX (S S_inj S_len S_cat)
/-! ### draws and their place -/
section
variable {K : PySem.W.Frag} {a p : Addr} {ds : List Int} {n m : Nat} {H0 H1 H2 : Hp}
end
/-! ### fates -/
def isF (c : Nat) : Bool := decide (c = 98) || (decide (c = 102) || (decide (c = 115) || decide (c = 110)))
def Fts (l : List Nat) : Prop := ∀ c ∈ l, isF c = true
/-- the ends: first (false), second (true) -/
def eS (e : Bool) : Str := if e then "second" else "first"
def hrd (e : Bool) (c : Nat) : Bool := decide (c = 98) || decide (c = if e then 115 else 102)
/-- the last place below n of which P says yes -/
def lst (P : Nat → Bool) (l : List Nat) : Nat → Option Nat
  | 0 => none
  | n + 1 => if P (l.getD n 0) then some n else lst P l n
theorem lst_succ {P : Nat → Bool} {l : List Nat} {k : Nat} : lst P l (k + 1) = if P (l.getD k 0) then some k else lst P l k := rfl
theorem lst_lt {P : Nat → Bool} {l : List Nat} : ∀ {n i : Nat}, lst P l n = some i → i < n
  | 0, _, h => by cases h
  | n + 1, i, h => by
    unfold lst at h
    split at h
    · cases h
      omega
    · have := lst_lt h
      omega
structure Vw where
  own : Int
  oth : Option Int
  kn : List Nat
  si : Int
deriving DecidableEq
def vw (a b : Int) (l : List Nat) (e : Bool) : Vw :=
  match lst (hrd e) l l.length with
  | none => ⟨if e then b else a, none, [], l.length⟩
  | some i => ⟨if e then b else a, some (if e then a else b), l.take i, (l.length : Int) - 1 - i⟩
theorem vw_none {a b : Int} {l : List Nat} {e : Bool} (h : lst (hrd e) l l.length = none) : vw a b l e = ⟨if e then b else a, none, [], l.length⟩ := by
  unfold vw
  rw [h]
theorem vw_some {a b : Int} {l : List Nat} {e : Bool} {i : Nat} (h : lst (hrd e) l l.length = some i) : vw a b l e = ⟨if e then b else a, some (if e then a else b), l.take i, (l.length : Int) - 1 - i⟩ := by
  unfold vw
  rw [h]
def oV : Option Int → V
  | none => .non
  | some x => .int x
def oD : Option Int → PyData
  | none => .none
  | some x => .int x
def vwL (v : Vw) : List V := [.int v.own, oV v.oth, .str (S v.kn), .int v.si]
def vwD (v : Vw) : PyData := .tuple [.int v.own, oD v.oth, .str (S v.kn), .int v.si]
def VwOk (v : Vw) : Prop := v.kn.length ≤ 1000 ∧ ∀ c ∈ v.kn, c < 1000
theorem Fts.lt {l : List Nat} (h : Fts l) : ∀ c ∈ l, c < 1000 := fun c hc => by
  have := h c hc
  unfold isF at this
  simp only [Bool.or_eq_true, decide_eq_true_eq] at this
  omega
theorem vw_kn (a b : Int) (l : List Nat) (e : Bool) : ∃ i, (vw a b l e).kn = l.take i := by
  cases h : lst (hrd e) l l.length with
  | none =>
    rw [vw_none h]
    exact ⟨0, rfl⟩
  | some i =>
    rw [vw_some h]
    exact ⟨i, rfl⟩
theorem vw_ok {a b : Int} {l : List Nat} {e : Bool} (h : Fts l) (hl : l.length ≤ 1000) : VwOk (vw a b l e) := by
  obtain ⟨i, ek⟩ := vw_kn a b l e
  unfold VwOk
  rw [ek]
  exact ⟨by rw [List.length_take]; omega, fun c hc => h.lt c (List.mem_of_mem_take hc)⟩
theorem dp_oV {K : PySem.W.Frag} {H : Hp} : ∀ o : Option Int, Dp K H (oV o) (oD o)
  | none => .non
  | some x => .int x
theorem dp_vw {K : PySem.W.Frag} {H : Hp} {p : Addr} {v : Vw} (h : H p = some (.tup (vwL v))) : Dp K H (.ref p) (vwD v) := .tup (SqT.of h) (.cons (.int _) (.cons (dp_oV _) (.cons (.str _) (.cons (.int _) .nil))))
theorem strOk_of {l : List Nat} (h : ∀ c ∈ l, c < 1000) : PyData.strOk (S l) = true := by
  show (S l).cps.all (· < 0x110000) = true
  rw [Array.all_eq_true']
  intro c hc
  have := h c (by simpa using hc)
  simp
  omega
theorem shaped_vw {v : Vw} (h : VwOk v) : SeqAt.shaped (vwD v) = true := by
  have z := strOk_of h.2
  unfold SeqAt.shaped vwD
  cases v.oth <;> simp [oD, PyData.canLay0, PyData.canLayAll0, PyData.depth, PyData.depthAll, z]
theorem eqv_vw (u v : Vw) : PyData.eqv (vwD u) (vwD v) = decide (u = v) := by
  obtain ⟨a, o, k, s⟩ := u
  obtain ⟨a', o', k', s'⟩ := v
  have e1 : (S k == S k') = decide (k = k') := SX.S_beq_eq
  unfold vwD
  by_cases h : (⟨a, o, k, s⟩ : Vw) = ⟨a', o', k', s'⟩
  · rw [decide_eq_true h]
    cases h
    cases o <;> simp [oD, PyData.eqv, PyData.eqvAll]
  · rw [decide_eq_false h]
    cases o <;> cases o' <;> simp [oD, PyData.eqv, PyData.eqvAll, e1] <;> intro h1 <;> simp_all
/-- an exchange as a tuple -/
def exL (a b : Int) (l : List Nat) : List V := [.int a, .int b, .str (S l)]
def exD (a b : Int) (l : List Nat) : PyData := .tuple [.int a, .int b, .str (S l)]
theorem dp_ex {K : PySem.W.Frag} {H : Hp} {p : Addr} {a b : Int} {l : List Nat} (h : H p = some (.tup (exL a b l))) : Dp K H (.ref p) (exD a b l) := .tup (SqT.of h) (.cons (.int _) (.cons (.int _) (.cons (.str _) .nil)))
theorem shaped_ex {a b : Int} {l : List Nat} (h : Fts l) : SeqAt.shaped (exD a b l) = true := by
  have z := strOk_of h.lt
  unfold SeqAt.shaped exD
  simp [PyData.canLay0, PyData.canLayAll0, PyData.depth, PyData.depthAll, z]
theorem eqv_ex (a b : Int) (l : List Nat) (a' b' : Int) (l' : List Nat) : PyData.eqv (exD a b l) (exD a' b' l') = decide (a = a' ∧ b = b' ∧ l = l') := by
  have e1 : (S l == S l') = decide (l = l') := SX.S_beq_eq
  unfold exD
  by_cases h : a = a' ∧ b = b' ∧ l = l'
  · rw [decide_eq_true h]
    obtain ⟨rfl, rfl, rfl⟩ := h
    simp [PyData.eqv, PyData.eqvAll]
  · rw [decide_eq_false h]
    simp [PyData.eqv, PyData.eqvAll, e1]
    intro h1 h2
    exact fun h3 => h ⟨h1, h2, h3⟩
/-! ### refusals -/
inductive Bad where
  | bit (x : Int)
  | fate (i : Nat)
def isBit (x : Int) : Bool := decide (x = 0 ∨ x = 1)
/-- the first place that is no fate -/
def badF : List Nat → Nat → Option Nat
  | [], _ => none
  | c :: r, i => if isF c then badF r (i + 1) else some i
def bad (a b : Int) (l : List Nat) : Option Bad :=
  if isBit a then (if isBit b then (badF l 0).map Bad.fate else some (.bit b)) else some (.bit a)
theorem badF_fts : ∀ {l : List Nat} {i : Nat}, Fts l → badF l i = none
  | [], _, _ => rfl
  | c :: r, i, h => by
    unfold badF
    rw [if_pos (h c List.mem_cons_self)]
    exact badF_fts fun x hx => h x (List.mem_cons_of_mem _ hx)
theorem bad_ok {a b : Int} {l : List Nat} (ha : a = 0 ∨ a = 1) (hb : b = 0 ∨ b = 1) (h : Fts l) : bad a b l = none := by
  unfold bad isBit
  rw [if_pos (decide_eq_true ha), if_pos (decide_eq_true hb), badF_fts h]
  rfl
/-- all places below n are fates -/
def Up (l : List Nat) (n : Nat) : Prop := ∀ i, i < n → ∀ c, l[i]? = some c → isF c = true
theorem badF_at : ∀ {l : List Nat} {i j : Nat}, (∀ k, k < j → ∀ c, l[k]? = some c → isF c = true) → (∃ c, l[j]? = some c ∧ isF c = false) → badF l i = some (i + j)
  | [], _, _, _, h => by
    obtain ⟨c, e, _⟩ := h
    simp at e
  | x :: r, i, 0, _, h => by
    obtain ⟨c, e, f⟩ := h
    cases e
    unfold badF
    rw [f, if_neg (by decide)]
    rfl
  | x :: r, i, j + 1, u, h => by
    unfold badF
    rw [if_pos (u 0 (by omega) x rfl), badF_at (j := j) (fun k hk c e => u (k + 1) (by omega) c e) h]
    congr 1
    omega
theorem badF_up : ∀ {l : List Nat} {i : Nat}, (∀ (k c : Nat), l[k]? = some c → isF c = true) → badF l i = none := fun {l i} h => badF_fts fun c hc => by
  obtain ⟨k, hk, rfl⟩ := List.getElem_of_mem hc
  exact h k _ (List.getElem?_eq_getElem hk)
end Z
set_option pp.maxSteps 700
set_option Elab.async false
set_option linter.all false
set_option maxRecDepth 100000
set_option maxHeartbeats 4000000
open SX (S S_inj S_len S_cat)
namespace Z
open PySem PySem.Spec PyProof.Rows L2
open C8 (pss_cut tCut)
local macro_rules | `(tactic| walk_at "num") => `(tactic| first | rfl | omega | decide | exact Nat.le_of_lt (small1000 (by simp)) | exact ⟨by omega, by omega⟩ | exact ⟨by omega, by omega, by omega⟩ | exact ⟨by decide, by decide, by decide⟩ | exact Or.inl ⟨by omega, by omega⟩ | exact Or.inr ⟨by omega, by omega⟩)
local macro_rules | `(tactic| walk_at "go") => `(tactic| repeat (first | refine ⟨_, rfl, ?_⟩ | refine ⟨_, _, rfl, rfl, ?_⟩ | refine ⟨_, _, rfl, ?_⟩ | (refine ⟨_, _, rfl, rfl, ?_, ?_⟩; focus walk_at "num") | refine Or.inl ⟨_, rfl, ?_⟩ | refine ⟨_, _, _, _, rfl, rfl, (by assumption), (by rfl), ?_⟩ | refine ⟨_, _, _, _, _, rfl, (by assumption), (by assumption), (by assumption), (by rfl), ?_⟩ | refine ⟨rfl, ?_⟩ | (refine And.intro ?_ ?_; focus walk_at "num")))
abbrev s_check_fates : Stmt := topS 19
abbrev N_check_fates : List Str := ["fates", "at", "fate"]
abbrev P_check_fates : List Str := ["fates"]
theorem sc_check_fates : FnScope N_check_fates P_check_fates (defScope s_check_fates) := ⟨rfl, rfl, rfl, by decide +kernel, rfl, by decide +kernel, by decide +kernel⟩
abbrev s_check_end : Stmt := topS 20
abbrev N_check_end : List Str := ["end"]
abbrev P_check_end : List Str := ["end"]
theorem sc_check_end : FnScope N_check_end P_check_end (defScope s_check_end) := ⟨rfl, rfl, rfl, by decide +kernel, rfl, by decide +kernel, by decide +kernel⟩
abbrev s_check_bit : Stmt := topS 21
abbrev N_check_bit : List Str := ["bit"]
abbrev P_check_bit : List Str := ["bit"]
theorem sc_check_bit : FnScope N_check_bit P_check_bit (defScope s_check_bit) := ⟨rfl, rfl, rfl, by decide +kernel, rfl, by decide +kernel, by decide +kernel⟩
abbrev s_arrives : Stmt := topS 23
abbrev N_arrives : List Str := ["fate", "end"]
abbrev P_arrives : List Str := ["fate", "end"]
theorem sc_arrives : FnScope N_arrives P_arrives (defScope s_arrives) := ⟨rfl, rfl, rfl, by decide +kernel, rfl, by decide +kernel, by decide +kernel⟩
/-- the module's tuple of the two ends -/
def EndsA (K : PySem.W.Frag) (a : Addr) : Prop := SqT K (fun _ => none) a [.str "first", .str "second"]
theorem EndsA.sq {K : PySem.W.Frag} {a : Addr} (h : EndsA K a) (H : Hp) : SqT K H a [.str "first", .str "second"] := by
  rcases h with h | h
  · rcases h with h | ⟨_, h⟩ <;> cases h
  · exact .inr h
theorem inV_ends (z : Str) : inV (.str z) [.str "first", .str "second"] = decide (z = eS false ∨ z = eS true) := by
  show (("first" : Str) == z || (("second" : Str) == z || false)) = _
  by_cases h1 : z = eS false
  · subst h1
    decide +kernel
  · by_cases h2 : z = eS true
    · subst h2
      decide +kernel
    · rw [decide_eq_false (by simp [h1, h2])]
      have e1 : (("first" : Str) == z) = false := beq_eq_false_iff_ne.mpr fun e => h1 e.symm
      have e2 : (("second" : Str) == z) = false := beq_eq_false_iff_ne.mpr fun e => h2 e.symm
      rw [e1, e2]
      rfl
section
variable {P : Program} {w : World} {K : PySem.W.Frag} {mg : Str → Option Value} {base : Heap} {f CB CE CF aE : Addr} {fd : FuncData}
def spCkF (CF : Addr) : Sp := fun vs H Q E => ∃ l, vs = [.str (S l)] ∧ (badF l 0 = none → ∀ H', Same H H' → Q .non H') ∧ ∀ i, badF l 0 = some i → ∀ H' d, Same H H' → H' d = none → E (.ref CF) (some d) (upd H' d (.xd [("at", .int (i : Int))]))
theorem bfsn_in (c : Nat) : decide (c ∈ (Str.ofString "bfsn").cps.toList) = isF c := by
  have e : (Str.ofString "bfsn").cps.toList = [98, 102, 115, 110] := by decide +kernel
  rw [e]
  unfold isF
  simp only [List.mem_cons, List.not_mem_nil, or_false, Bool.decide_or]
theorem ok_check_fates (F : FnP K "check_fates" s_check_fates f fd) (m_enumerate : mg "enumerate" = none) (tok_FATES : Tok) (g_FATES : mg "FATES" = some (.str "bfsn" tok_FATES)) (x_BadFate : Exn P w K mg base "BadFate" CF "at") : FnOk P w K mg base (L2N.CX P w) 3 f fd P_check_fates (spCkF CF) := by
  refine F.ok sc_check_fates (fun vs H Q E h => ?_) (fun cdv A outer s H vs Q E hr h => ?_)
  · obtain ⟨l, rfl, _⟩ := h
    rfl
  · obtain ⟨l, rfl, q1, q2⟩ := h
    have tk := takes_fn (P := P) (w := w) (K := K) (mg := mg) (base := base) (N := N_check_fates) (qual := "check_fates") (scope := defScope s_check_fates) (f := f) (cd := cdv) (A := A) (outer := outer) (s := s) (H := H) (E := E)
    refine ⟨_, (pss_one (ps_for (passes_of rfl) rfl (pi_enumS (by rfl) m_enumerate (pa_cons (pv 0) pa_nil)) (pg_tup rfl (pgs_cons (pg_name (i := 1) sc_check_fates.nd rfl (by first | exact .inl rfl | exact .inr rfl)) (pgs_cons (pg_name (i := 2) sc_check_fates.nd rfl (by first | exact .inl rfl | exact .inr rfl)) pgs_nil)))
        (pss_one (ps_if (pt_cmpR op_notIn_sign (pv 2) (pe_glob (by rfl) g_FATES (relv_str (x := "bfsn"))) (by rfl)) (pss_one (ps_exn rfl tk x_BadFate hr (by decide) (by rfl) (pa_cons (pv 1) pa_nil))) pss_nil)))), ?_⟩
    walk_at "go"
    refine for_enumS (K := K) (fun k σ H1 => Same H H1 ∧ (∀ j, j < k → ∀ c, l[j]? = some c → isF c = true) ∧ ∃ v1 v2 : Option V, σ = [some (.str (S l)), v1, v2]) ⟨Same.refl _, fun j h => absurd h (by omega), none, none, rfl⟩ ?_ ?_
    · rintro k c σ H1 H2 ec ⟨s1, up, v1, v2, rfl⟩ s2
      have ec : l[k]? = some c := by simpa using ec
      walk_at "go"
      refine ite2 (fun e => ?_) (fun e => ?_)
      · have e : isF c = false := by
          rw [← bfsn_in]
          simpa using e
        walk_at "go"
        refine mkx_of fun d nd => q2 k ?_ H2 d (s1.trans s2) nd
        have z := badF_at (i := 0) up ⟨c, ec, e⟩
        rw [Nat.zero_add] at z
        exact z
      · have e : isF c = true := by
          rw [← bfsn_in]
          simpa using e
        refine ⟨s1.trans s2, fun j hj c' ej => ?_, _, _, rfl⟩
        by_cases c2 : j = k
        · subst c2
          rw [ec] at ej
          cases ej
          exact e
        · exact up j (by omega) c' ej
    · rintro σ H1 ⟨s1, up, v1, v2, rfl⟩
      refine q1 (badF_up fun k c e => up k ?_ c e) H1 s1
      have := (List.getElem?_eq_some_iff.mp e).1
      simpa using this
def spCkE (CE : Addr) : Sp := fun vs H Q E => ∃ z : Str, vs = [.str z] ∧ (z = eS false ∨ z = eS true → Q .non H) ∧ (¬ (z = eS false ∨ z = eS true) → ∀ d, H d = none → E (.ref CE) (some d) (upd H d (.xd [("end", .str z)])))
theorem ok_check_end (F : FnP K "check_end" s_check_end f fd) (g_ENDS : mg "ENDS" = some (.ref aE)) (hE : EndsA K aE) (x_BadEnd : Exn P w K mg base "BadEnd" CE "end") : FnOk P w K mg base (L2N.CX P w) 3 f fd P_check_end (spCkE CE) := by
  refine F.ok sc_check_end (fun vs H Q E h => ?_) (fun cdv A outer s H vs Q E hr h => ?_)
  · obtain ⟨z, rfl, _⟩ := h
    rfl
  · obtain ⟨z, rfl, q1, q2⟩ := h
    have tk := takes_fn (P := P) (w := w) (K := K) (mg := mg) (base := base) (N := N_check_end) (qual := "check_end") (scope := defScope s_check_end) (f := f) (cd := cdv) (A := A) (outer := outer) (s := s) (H := H) (E := E)
    refine ⟨_, (pss_one (ps_if (pt_cmpR op_notIn_seq (pv 0) (pe_glob (by rfl) g_ENDS relv_ref) (by rfl)) (pss_one (ps_exn rfl tk x_BadEnd hr (by decide) (by rfl) (pa_cons (pv 0) pa_nil))) pss_nil)), ?_⟩
    walk_at "go"
    refine ⟨aE, _, rfl, .inr (hE.sq H), rfl, rfl, ?_⟩
    rw [inV_ends]
    walk_at "go"
    refine ite2 (fun e => ?_) (fun e => ?_)
    · have e : ¬ (z = eS false ∨ z = eS true) := by simpa using e
      walk_at "go"
      exact mkx_of (fun d nd => q2 e d nd)
    · have e : z = eS false ∨ z = eS true := Decidable.byContradiction fun c => e (by rw [decide_eq_false c]; rfl)
      exact q1 e
def spCkB (CB : Addr) : Sp := fun vs H Q E => ∃ x : Int, vs = [.int x] ∧ (isBit x = true → ∀ H', Same H H' → Q .non H') ∧ (isBit x = false → ∀ H' d, Same H H' → H' d = none → E (.ref CB) (some d) (upd H' d (.xd [("bit", .int x)])))
theorem inV_bit (x : Int) : inV (.int x) [.int 0, .int 1] = isBit x := by
  show ((0 : Int) == x || ((1 : Int) == x || false)) = _
  unfold isBit
  by_cases h0 : x = 0
  · subst h0
    rfl
  · by_cases h1 : x = 1
    · subst h1
      rfl
    · rw [decide_eq_false (by simp [h0, h1]), beq_eq_false_iff_ne.mpr (Ne.symm h0), beq_eq_false_iff_ne.mpr (Ne.symm h1)]
      rfl
theorem ok_check_bit (F : FnP K "check_bit" s_check_bit f fd) (x_BadBit : Exn P w K mg base "BadBit" CB "bit") : FnOk P w K mg base (L2N.CX P w) 3 f fd P_check_bit (spCkB CB) := by
  refine F.ok sc_check_bit (fun vs H Q E h => ?_) (fun cdv A outer s H vs Q E hr h => ?_)
  · obtain ⟨x, rfl, _⟩ := h
    rfl
  · obtain ⟨x, rfl, q1, q2⟩ := h
    have tk := takes_fn (P := P) (w := w) (K := K) (mg := mg) (base := base) (N := N_check_bit) (qual := "check_bit") (scope := defScope s_check_bit) (f := f) (cd := cdv) (A := A) (outer := outer) (s := s) (H := H) (E := E)
    refine ⟨_, (pss_one (ps_if (pt_cmpR op_notIn_seq (pv 0) (pe_tup (pa_cons pe_int (pa_cons pe_int pa_nil))) (by rfl)) (pss_one (ps_exn rfl tk x_BadBit hr (by decide) (by rfl) (pa_cons (pv 0) pa_nil))) pss_nil)), ?_⟩
    walk_at "go"
    intro t nt
    generalize eH_ : upd H t _ = H1
    have s1 : Same H H1 := by rw [← eH_]; exact same_new nt
    have et : H1 t = some (.tup [.int 0, .int 1]) := by rw [← eH_]; exact upd_same
    clear eH_
    walk_at "go"
    refine ⟨t, _, rfl, .inr (SqT.of et), rfl, rfl, ?_⟩
    rw [inV_bit]
    walk_at "go"
    refine ite2 (fun e => ?_) (fun e => ?_)
    · have e : isBit x = false := by simpa using e
      walk_at "go"
      exact mkx_of fun d nd => q2 e H1 d s1 nd
    · have e : isBit x = true := by simpa using e
      exact q1 e _ s1
def spArr : Sp := fun vs H Q _ => ∃ (c : Nat) (e : Bool), vs = [.str ⟨#[c]⟩, .str (eS e)] ∧ Q (.bl (hrd e c)) H
theorem one_eq (c d : Nat) : decide (V.str ⟨#[c]⟩ = V.str ⟨#[d]⟩) = decide (c = d) := by
  by_cases h : c = d
  · subst h
    simp
  · have h2 : ¬ (V.str ⟨#[c]⟩ = V.str ⟨#[d]⟩) := fun z => h (by injection z with z; injection z with z; simpa using z)
    rw [decide_eq_false h, decide_eq_false h2]
theorem b_str : Str.ofString "b" = ⟨#[98]⟩ := by decide +kernel
theorem f_str : Str.ofString "f" = ⟨#[102]⟩ := by decide +kernel
theorem s_str : Str.ofString "s" = ⟨#[115]⟩ := by decide +kernel
theorem n_str : Str.ofString "n" = ⟨#[110]⟩ := by decide +kernel
theorem ok_arrives (F : FnP K "arrives" s_arrives f fd) : FnOk P w K mg base CX0 1 f fd P_arrives spArr := by
  refine F.ok sc_arrives (fun vs H Q E h => ?_) (fun cdv A outer s H vs Q E hr h => ?_)
  · obtain ⟨c, e, rfl, _⟩ := h
    rfl
  · obtain ⟨c, e, rfl, q⟩ := h
    refine ⟨_, PSs.nox (pss_one (ps_ret (pe_or (pe_cmpR op_eq (pv 0) pe_str (nomark _)) (pe_one (pe_cmpR op_eq (pv 0) (pe_ifExp (pt_cmpR op_eq (pv 1) pe_str (nomark _)) pe_str pe_str) (nomark _)))))), ?_⟩
    unfold hrd at q
    walk_at "go"
    rw [b_str, one_eq]
    by_cases h1 : c = 98
    · rw [decide_eq_true h1, if_pos rfl]
      rw [decide_eq_true h1, Bool.true_or] at q
      exact q
    rw [decide_eq_false h1, if_neg (by decide)]
    rw [decide_eq_false h1, Bool.false_or] at q
    walk_at "go"
    cases e
    · rw [show decide (V.str (eS false) = V.str (Str.ofString "first")) = true from rfl, if_pos rfl]
      walk_at "go"
      rw [f_str, one_eq]
      exact q
    · rw [show decide (V.str (eS true) = V.str (Str.ofString "first")) = false by decide +kernel, if_neg (by decide)]
      walk_at "go"
      rw [s_str, one_eq]
      exact q
end
end Z
set_option pp.maxSteps 700
set_option Elab.async false
set_option linter.all false
set_option maxRecDepth 100000
set_option maxHeartbeats 4000000
open SX (S S_inj S_len S_cat)
namespace Z
open PySem PySem.Spec PyProof.Rows L2
open C8 (pss_cut tCut)
local macro_rules | `(tactic| walk_at "num") => `(tactic| first | rfl | omega | decide | exact Nat.le_of_lt (small1000 (by simp)) | exact ⟨by omega, by omega⟩ | exact ⟨by omega, by omega, by omega⟩ | exact ⟨by decide, by decide, by decide⟩ | exact Or.inl ⟨by omega, by omega⟩ | exact Or.inr ⟨by omega, by omega⟩)
local macro_rules | `(tactic| walk_at "go") => `(tactic| repeat (first | refine ⟨_, rfl, ?_⟩ | refine ⟨_, _, rfl, rfl, ?_⟩ | refine ⟨_, _, rfl, ?_⟩ | (refine ⟨_, _, rfl, rfl, ?_, ?_⟩; focus walk_at "num") | refine Or.inl ⟨_, rfl, ?_⟩ | refine ⟨_, _, _, _, rfl, rfl, (by assumption), (by rfl), ?_⟩ | refine ⟨_, _, _, _, _, rfl, (by assumption), (by assumption), (by assumption), (by rfl), ?_⟩ | refine ⟨rfl, ?_⟩ | (refine And.intro ?_ ?_; focus walk_at "num")))
abbrev s_Exchange___init__ : Stmt := inClass (topS 51) 0
abbrev N_Exchange___init__ : List Str := ["self", "first_bit", "second_bit", "fates"]
abbrev P_Exchange___init__ : List Str := ["self", "first_bit", "second_bit", "fates"]
theorem sc_Exchange___init__ : FnScope N_Exchange___init__ P_Exchange___init__ (defScope s_Exchange___init__) := ⟨rfl, rfl, rfl, by decide +kernel, rfl, by decide +kernel, by decide +kernel⟩
abbrev s_Exchange_seen : Stmt := inClass (topS 51) 3
abbrev N_Exchange_seen : List Str := ["self", "end", "own", "other", "at"]
abbrev P_Exchange_seen : List Str := ["self", "end"]
theorem sc_Exchange_seen : FnScope N_Exchange_seen P_Exchange_seen (defScope s_Exchange_seen) := ⟨rfl, rfl, rfl, by decide +kernel, rfl, by decide +kernel, by decide +kernel⟩
abbrev exF (a b : Int) (l : List Nat) : List (Str × V) := [("first_bit", .int a), ("second_bit", .int b), ("fates", .str (S l))]
/-- an exchange -/
def ExA (C : Addr) (H : Hp) (n : Addr) (a b : Int) (l : List Nat) : Prop := ∃ dx, H n = some (.ins C dx (exF a b l))
theorem ExA.mono {C : Addr} {H H' : Hp} {n : Addr} {a b : Int} {l : List Nat} (s : Same H H') (h : ExA C H n a b l) : ExA C H' n a b l := h.imp fun _ e => s _ _ e
/-- what Exchange(a, b, l) raises -/
def badE (CB CF : Addr) (E : XK) (H : Hp) : Bad → Prop
  | .bit x => ∀ H' d, Same H H' → H' d = none → E (.ref CB) (some d) (upd H' d (.xd [("bit", .int x)]))
  | .fate i => ∀ H' d, Same H H' → H' d = none → E (.ref CF) (some d) (upd H' d (.xd [("at", .int (i : Int))]))
section
variable {P : Program} {w : World} {K : PySem.W.Frag} {mg : Str → Option Value} {base : Heap} {f C CB CE CF aE : Addr} {fd : FuncData}
def spEx1 (C CB CF : Addr) : Sp := fun vs H Q E => ∃ (n dx : Addr) (a b : Int) (l : List Nat), vs = [.ref n, .int a, .int b, .str (S l)] ∧ H n = some (.ins C dx []) ∧ l.length ≤ 1000 ∧
  (bad a b l = none → ∀ H', SB n H H' → H' n = some (.ins C dx (exF a b l)) → Q .non H') ∧ ∀ r, bad a b l = some r → badE CB CF E H r
theorem ok_init (F : FnM K "__init__" "Exchange.__init__" s_Exchange___init__ f fd) (cls : Cls K C) (n_first_bit : NoAttr K C "first_bit") (n_second_bit : NoAttr K C "second_bit") (n_fates : NoAttr K C "fates") (c_check_bit : CalX P w K mg base 3 "check_bit" (spCkB CB)) (c_check_fates : CalX P w K mg base 3 "check_fates" (spCkF CF)) : FnOk P w K mg base (L2N.CX P w) 4 f fd P_Exchange___init__ (spEx1 C CB CF) := by
  refine F.ok sc_Exchange___init__ (fun vs H Q E h => ?_) (fun cdv A outer s H vs Q E hr h => ?_)
  · obtain ⟨n, dx, a, b, l, rfl, _⟩ := h
    rfl
  · obtain ⟨n, dx, a, b, l, rfl, hn, ll, q1, q2⟩ := h
    have tk := takes_fn (P := P) (w := w) (K := K) (mg := mg) (base := base) (N := N_Exchange___init__) (qual := "Exchange.__init__") (scope := defScope s_Exchange___init__) (f := f) (cd := cdv) (A := A) (outer := outer) (s := s) (H := H) (E := E)
    refine ⟨_, (pss_cons (ps_expr (pe_clE c_check_bit (fun σ => L2N.passAt tk σ) hr (by decide) (by rfl) (pa_cons (pv 1) pa_nil)))
      (pss_cons (ps_expr (pe_clE c_check_bit (fun σ => L2N.passAt tk σ) hr (by decide) (by rfl) (pa_cons (pv 2) pa_nil)))
      (pss_cons (ps_expr (pe_clE c_check_fates (fun σ => L2N.passAt tk σ) hr (by decide) (by rfl) (pa_cons (pv 3) pa_nil)))
      (pss_cons (ps_fld (pv 0) (pv 1) rfl)
      (pss_cons (ps_fld (pv 0) (pv 2) rfl)
      (pss_one (ps_fld (pv 0) (pv 3) rfl))))))), ?_⟩
    unfold bad at q1 q2
    walk_at "go"
    refine ⟨fun e H1 s1 => ?_, fun e H1 d s1 nd => ?_⟩
    · rw [if_pos e] at q1 q2
      walk_at "go"
      refine ⟨fun e2 H2 s2 => ?_, fun e2 H2 d s2 nd => ?_⟩
      · rw [if_pos e2] at q1 q2
        walk_at "go"
        refine ⟨fun e3 H3 s3 => ?_, fun i e3 H3 d s3 nd => ?_⟩
        · have q1 := q1 (by rw [e3]; rfl)
          have s03 := s1.trans (s2.trans s3)
          have hn3 := s03 _ _ hn
          clear q2
          walk_at "go"
          refine ⟨n, C, dx, _, rfl, hn3, cls, n_first_bit, by decide, ?_⟩
          walk_at "go"
          refine ⟨n, C, dx, _, rfl, upd_same, cls, n_second_bit, (show (1 : Nat) < 1000 by omega), ?_⟩
          walk_at "go"
          refine ⟨n, C, dx, _, rfl, upd_same, cls, n_fates, (show (2 : Nat) < 1000 by omega), ?_⟩
          refine q1 _ (SB.upd (SB.upd (SB.upd (Z.Same.sb s03)))) ?_
          exact upd_same
        · exact q2 (.fate i) (by rw [e3]; rfl) H3 d (s1.trans (s2.trans s3)) nd
      · rw [e2] at q2
        exact q2 (.bit b) rfl H2 d (s1.trans s2) nd
    · rw [e] at q2
      exact q2 (.bit a) rfl H1 d s1 nd
def spSeen (C CE : Addr) : Sp := fun vs H Q E => ∃ (n : Addr) (z : Str) (a b : Int) (l : List Nat), vs = [.ref n, .str z] ∧ ExA C H n a b l ∧ l.length ≤ 1000 ∧ (∀ e, z = eS e → ∀ p H', Same H H' → H p = none → H' p = some (.tup (vwL (vw a b l e))) → Q (.ref p) H') ∧
  (¬ (z = eS false ∨ z = eS true) → ∀ d, H d = none → E (.ref CE) (some d) (upd H d (.xd [("end", .str z)])))
theorem ok_seen (F : FnM K "seen" "Exchange.seen" s_Exchange_seen f fd) (m_range : mg "range" = none) (m_len : mg "len" = none) (cls : Cls K C) (n_first_bit : NoAttr K C "first_bit") (n_second_bit : NoAttr K C "second_bit") (n_fates : NoAttr K C "fates") (c_check_end : CalX P w K mg base 3 "check_end" (spCkE CE)) (c_arrives : Cal P w K mg base 1 "arrives" spArr) : FnOk P w K mg base (L2N.CX P w) 4 f fd P_Exchange_seen (spSeen C CE) := by
  refine F.ok sc_Exchange_seen (fun vs H Q E h => ?_) (fun cdv A outer s H vs Q E hr h => ?_)
  · obtain ⟨n, z, a, b, l, rfl, _⟩ := h
    rfl
  · obtain ⟨n, z, a, b, l, rfl, ⟨dx, hn⟩, ll, q1, q2⟩ := h
    have tk := takes_fn (P := P) (w := w) (K := K) (mg := mg) (base := base) (N := N_Exchange_seen) (qual := "Exchange.seen") (scope := defScope s_Exchange_seen) (f := f) (cd := cdv) (A := A) (outer := outer) (s := s) (H := H) (E := E)
    refine ⟨_, (pss_cons (ps_expr (pe_clE c_check_end (fun σ => L2N.passAt tk σ) hr (by decide) (by rfl) (pa_cons (pv 1) pa_nil)))
      (pss_cut (ps_asg (pe_ifExp (pt_cmpR op_eq (pv 1) pe_str (nomark _)) (pe_tup (pa_cons (pe_fld (pv 0) rfl) (pa_cons (pe_fld (pv 0) rfl) pa_nil))) (pe_tup (pa_cons (pe_fld (pv 0) rfl) (pa_cons (pe_fld (pv 0) rfl) pa_nil)))) (pg_tup rfl (pgs_cons (pg_name (i := 2) sc_Exchange_seen.nd rfl (by first | exact .inl rfl | exact .inr rfl)) (pgs_cons (pg_name (i := 3) sc_Exchange_seen.nd rfl (by first | exact .inl rfl | exact .inr rfl)) pgs_nil))))
      (pss_cons (ps_for (passes_of rfl) rfl (pi_range3 (by rfl) m_range (pa_cons (pe_op op_sub (pe_callB call_len_str (by rfl) m_len PySem.boot_len (pa_cons (pe_fld (pv 0) rfl) pa_nil)) pe_int) (pa_cons (pe_un un_neg pe_int) (pa_cons (pe_un un_neg pe_int) pa_nil)))) (pg_name (i := 4) sc_Exchange_seen.nd rfl (by first | exact .inl rfl | exact .inr rfl))
        (pss_one (ps_if (pt_val (pe_cl c_arrives hr (by decide) (by rfl) (pa_cons (pe_ix ix_str (pe_fld (pv 0) rfl) (pv 4) (fun _ _ => rfl)) (pa_cons (pv 1) pa_nil)))) (pss_one (ps_ret (pe_tup (pa_cons (pv 2) (pa_cons (pv 3) (pa_cons (pe_slice C8.sl_txt (pe_fld (pv 0) rfl) po_none (po_some (pv 4))) (pa_cons (pe_op op_sub (pe_op op_sub (pe_callB call_len_str (by rfl) m_len PySem.boot_len (pa_cons (pe_fld (pv 0) rfl) pa_nil)) pe_int) (pv 4)) pa_nil))))))) pss_nil)))
      (pss_one (ps_ret (pe_tup (pa_cons (pv 2) (pa_cons pe_non (pa_cons pe_str (pa_cons (pe_callB call_len_str (by rfl) m_len PySem.boot_len (pa_cons (pe_fld (pv 0) rfl) pa_nil)) pa_nil)))))))))), ?_⟩
    have hlen : (S l).length ≤ sizeLine := by rw [S_len]; exact szl (by omega)
    walk_at "go"
    refine ⟨fun hz => ?_, fun h => q2 h⟩
    obtain ⟨e, rfl⟩ : ∃ e, z = eS e := hz.elim (fun h => ⟨false, h⟩) (fun h => ⟨true, h⟩)
    have q1 := q1 e rfl
    clear q2 hz
    have k0 : (fun e => if e then b else a) e = if e then b else a := rfl
    refine ⟨fun σ J => Same H J ∧ ∃ ow ot, (ow = if e then b else a) ∧ (ot = if e then a else b) ∧ σ = [some (.ref n), some (.str (eS e)), some (.int ow), some (.int ot), none], ?_, ?_⟩
    · cases e
      · walk_at "go"
        intro t nt
        generalize eH_ : upd H t _ = H1
        have s1 : Same H H1 := by rw [← eH_]; exact same_new nt
        have et : H1 t = some (.tup [.int a, .int b]) := by rw [← eH_]; exact upd_same
        clear eH_
        walk_at "go"
        refine ⟨t, _, rfl, SqT.of et, rfl, ?_⟩
        walk_at "go"
        rfl
      · walk_at "go"
        intro t nt
        generalize eH_ : upd H t _ = H1
        have s1 : Same H H1 := by rw [← eH_]; exact same_new nt
        have et : H1 t = some (.tup [.int b, .int a]) := by rw [← eH_]; exact upd_same
        clear eH_
        walk_at "go"
        refine ⟨t, _, rfl, SqT.of et, rfl, ?_⟩
        walk_at "go"
        rfl
    · rintro σ J ⟨s1, ow, ot, eo, eu, rfl⟩
      have hn1 := s1 _ _ hn
      walk_at "go"
      rw [S_len]
      refine ⟨_, _, _, _, rfl, RgC.neg (by omega) (by omega) (by omega) (by omega), ?_⟩
      have en : ((l.length : Int) - 1 - -1).toNat = l.length := by omega
      refine for_gen (n := l.length) (fun i σ J1 => J1 = J ∧ lst (hrd e) l l.length = lst (hrd e) l (l.length - i) ∧ ∃ v4, σ = [some (.ref n), some (.str (eS e)), some (.int ow), some (.int ot), v4]) ⟨rfl, rfl, _, rfl⟩ ?_ ?_ ?_ ?_
      · intro i σ J1 hi _
        show i < ((l.length : Int) - 1 - -1).toNat
        omega
      · intro σ J1 _
        show ((l.length : Int) - 1 - -1).toNat ≤ l.length
        omega
      · rintro i σ J1 x J2 hi ⟨rfl, el, v4, rfl⟩ ⟨rfl, rfl⟩
        have hk : l.length - 1 - i < l.length := by omega
        have ek : (l.length : Int) - 1 + (i : Int) * -1 = ((l.length - 1 - i : Nat) : Int) := by omega
        have e1 : l.length - i = (l.length - 1 - i) + 1 := by omega
        have e2 : l.length - (i + 1) = l.length - 1 - i := by omega
        rw [e1] at el
        rw [e2]
        rw [lst_succ] at el
        have ec : l.getD (l.length - 1 - i) 0 = l[l.length - 1 - i] := by rw [List.getD_eq_getElem?_getD, List.getElem?_eq_getElem hk]; rfl
        rw [ec] at el
        have ea : atI (S l).cps.toList ((l.length - 1 - i : Nat) : Int) = some l[l.length - 1 - i] := atI_nat (by show l[l.length - 1 - i]? = _; exact List.getElem?_eq_getElem hk)
        generalize l[l.length - 1 - i] = c at ea el
        generalize l.length - 1 - i = k at ek ea el hk
        walk_at "go"
        rw [ek]
        refine ⟨S l, _, c, rfl, rfl, hlen, ea, ?_⟩
        walk_at "go"
        by_cases hc : hrd e c = true
        · rw [if_pos hc] at el
          rw [hc, if_pos rfl]
          walk_at "go"
          rw [SX.slice_to (by omega), Int.toNat_natCast, S_len]
          walk_at "go"
          intro p np
          refine q1 p _ (s1.trans (same_new np)) (none_of s1 np) ?_
          rw [upd_same, vw_some el, eo, eu]
          rfl
        · rw [if_neg hc] at el
          rw [Bool.eq_false_iff.mpr hc, if_neg (by decide)]
          exact ⟨rfl, el, _, rfl⟩
      · rintro σ J1 ⟨rfl, el, v4, rfl⟩
        rw [Nat.sub_self] at el
        have el : lst (hrd e) l l.length = none := el
        walk_at "go"
        intro p np
        rw [S_len]
        refine q1 p _ (s1.trans (same_new np)) (none_of s1 np) ?_
        rw [upd_same, vw_none el, eo]
        rfl
def gAl (vs zs : List V) : List V := vs ++ zs
end
end Z
set_option pp.maxSteps 700
set_option Elab.async false
set_option linter.all false
set_option maxRecDepth 100000
set_option maxHeartbeats 4000000
open SX (S S_inj S_len S_cat)
namespace Z
open PySem PySem.Spec PyProof.Rows L2
open C8 (pss_cut tCut)
local macro_rules | `(tactic| walk_at "num") => `(tactic| first | rfl | omega | decide | exact Nat.le_of_lt (small1000 (by simp)) | exact ⟨by omega, by omega⟩ | exact ⟨by omega, by omega, by omega⟩ | exact ⟨by decide, by decide, by decide⟩ | exact Or.inl ⟨by omega, by omega⟩ | exact Or.inr ⟨by omega, by omega⟩)
local macro_rules | `(tactic| walk_at "go") => `(tactic| repeat (first | refine ⟨_, rfl, ?_⟩ | refine ⟨_, _, rfl, rfl, ?_⟩ | refine ⟨_, _, rfl, ?_⟩ | (refine ⟨_, _, rfl, rfl, ?_, ?_⟩; focus walk_at "num") | refine Or.inl ⟨_, rfl, ?_⟩ | refine ⟨_, _, _, _, rfl, rfl, (by assumption), (by rfl), ?_⟩ | refine ⟨_, _, _, _, _, rfl, (by assumption), (by assumption), (by assumption), (by rfl), ?_⟩ | refine ⟨rfl, ?_⟩ | (refine And.intro ?_ ?_; focus walk_at "num")))
abbrev s_exchange : Stmt := topS 66
abbrev N_exchange : List Str := ["_law_draws_here", "_law_place", "_law_most", "_law_shape", "_law_bits", "_law_menu", "_law_size", "_law_k", "_law_fates"]
abbrev P_exchange : List Str := ["_law_draws_here", "_law_place", "_law_most"]
theorem sc_exchange : FnScope N_exchange P_exchange (defScope s_exchange) := ⟨rfl, rfl, rfl, by decide +kernel, rfl, by decide +kernel, by decide +kernel⟩
def menu8 : List V := [.str "bfsn", .str "bfsn", .str "bfsn", .str "sn", .str "fn", .str "n", .str "bfsnnnn", .str "bbbfs"]
def menus : List (List Nat) := [[98, 102, 115, 110], [98, 102, 115, 110], [98, 102, 115, 110], [115, 110], [102, 110], [110], [98, 102, 115, 110, 110, 110, 110], [98, 98, 98, 102, 115]]
theorem menu8_at : ∀ i, i < 8 → atI menu8 ((i : Nat) : Int) = some (.str (S (menus.getD i []))) := by decide +kernel
theorem menus_ok : ∀ i, i < 8 → 0 < (menus.getD i []).length ∧ (menus.getD i []).length ≤ 7 ∧ (menus.getD i []).all isF = true := by decide +kernel
section
variable {P : Program} {w : World} {K : PySem.W.Frag} {mg : Str → Option Value} {base : Heap} {f : Addr} {fd : FuncData}
/-- a drawn exchange -/
def Drawn (x y : Int) (l : List Nat) : Prop := (x = 0 ∨ x = 1) ∧ (y = 0 ∨ y = 1) ∧ Fts l ∧ l.length ≤ 60
def spLex (K : PySem.W.Frag) : Sp := fun vs H Q _ => ∃ (a p : Addr) (n : Nat) (ds : List Int) (mo : Int), vs = [.ref a, .ref p, .int mo] ∧ Tk K a p ds n H H ∧ 6 ≤ mo ∧ mo ≤ 60 ∧ ∀ (t : Addr) (x y : Int) (l : List Nat) H', Tk K a p ds n H H' → H t = none → H' t = some (.tup (exL x y l)) → Drawn x y l → Q (.ref t) H'
theorem ok_exchange (F : FnP K "_law_exchange" s_exchange f fd) (m_int : mg "int" = none) (m_len : mg "len" = none) (m_range : mg "range" = none) (c_take : Cal P w K mg base 1 "_law_take" (spTake K)) : FnOk P w K mg base CX0 2 f fd P_exchange (spLex K) := by
  refine F.ok sc_exchange (fun vs H Q E h => ?_) (fun cdv A outer s H vs Q E hr h => ?_)
  · obtain ⟨a, p, n, ds, mo, rfl, _⟩ := h
    rfl
  · obtain ⟨a, p, n, ds, mo, rfl, hT, m0, m1, q⟩ := h
    refine ⟨_, PSs.nox (pss_cons (ps_set (i := 3) sc_exchange.nd rfl (by first | exact .inl rfl | exact .inr rfl) (pe_cl c_take hr (by decide) (by rfl) (pa_cons (pv 0) (pa_cons (pv 1) pa_nil))))
      (pss_cons (ps_set (i := 4) sc_exchange.nd rfl (by first | exact .inl rfl | exact .inr rfl) (pe_cl c_take hr (by decide) (by rfl) (pa_cons (pv 0) (pa_cons (pv 1) pa_nil))))
      (pss_cons (ps_set (i := 5) sc_exchange.nd rfl (by first | exact .inl rfl | exact .inr rfl) (pe_ix ix_list (pe_lst (pa_cons pe_str (pa_cons pe_str (pa_cons pe_str (pa_cons pe_str (pa_cons pe_str (pa_cons pe_str (pa_cons pe_str (pa_cons pe_str pa_nil))))))))) (pe_op op_mod (pe_callTy call_int1 (by rfl) m_int (by decide +kernel) (pa_cons (pe_cl c_take hr (by decide) (by rfl) (pa_cons (pv 0) (pa_cons (pv 1) pa_nil))) pa_nil)) pe_int) (fun _ _ => rfl)))
      (pss_cons (ps_set (i := 6) sc_exchange.nd rfl (by first | exact .inl rfl | exact .inr rfl) (pe_op op_mod (pe_callTy call_int1 (by rfl) m_int (by decide +kernel) (pa_cons (pv 3) pa_nil)) pe_int))
      (pss_cut (ps_if (pt_cmpR op_eq (pe_op op_mod (pe_callTy call_int1 (by rfl) m_int (by decide +kernel) (pa_cons (pe_op op_fdiv (pv 3) pe_int) pa_nil)) pe_int) pe_int (nomark _)) (pss_one (ps_set (i := 6) sc_exchange.nd rfl (by first | exact .inl rfl | exact .inr rfl) (pe_op op_mod (pe_callTy call_int1 (by rfl) m_int (by decide +kernel) (pa_cons (pe_op op_fdiv (pv 3) pe_int) pa_nil)) (pe_op op_add (pv 2) pe_int)))) pss_nil)
      (pss_cons (ps_set (i := 8) sc_exchange.nd rfl (by first | exact .inl rfl | exact .inr rfl) (pe_join pe_str (pe_lc (own := [("_law_k", 7)]) (g := (gName 7)) (tt := tYes) (by rfl) sc_exchange.nd (pi_range1 (by rfl) m_range (pa_cons (pv 6) pa_nil)) (blkOk_by (own := [("_law_k", 7)]) (N := N_exchange) (sc := defScope s_exchange) (by decide +kernel)) (fun _ _ _ _ _ => (pg_name (i := 7) sc_exchange.nd rfl (by first | exact .inl rfl | exact .inr rfl))) (fun _ _ _ _ _ => pts_nil) (fun _ _ _ _ _ => (pe_ix ix_str (pv 5) (pe_op op_mod (pe_callTy call_int1 (by rfl) m_int (by decide +kernel) (pa_cons (pe_cl c_take hr (by decide) (by rfl) (pa_cons (pv 0) (pa_cons (pv 1) pa_nil))) pa_nil)) (pe_callB call_len_str (by rfl) m_len PySem.boot_len (pa_cons (pv 5) pa_nil))) (fun _ _ => rfl))))))
      (pss_one (ps_ret (pe_tup (pa_cons (pe_op op_mod (pe_callTy call_int1 (by rfl) m_int (by decide +kernel) (pa_cons (pv 4) pa_nil)) pe_int) (pa_cons (pe_op op_mod (pe_callTy call_int1 (by rfl) m_int (by decide +kernel) (pa_cons (pe_op op_fdiv (pv 4) pe_int) pa_nil)) pe_int) (pa_cons (pv 8) pa_nil)))))))))))), ?_⟩
    obtain ⟨mm, em⟩ := hT.pl
    walk_at "go"
    refine ⟨a, p, n, mm, ds, rfl, SqL.of hT.hA, hT.hd, em, hT.ne, fun r r0 r1 => ?_⟩
    obtain ⟨hT1, _⟩ := hT.next em
    generalize upd H p (.lst [.int ((mm + 1 : Nat) : Int)]) = H1 at hT1
    obtain ⟨m1, em1⟩ := hT1.pl
    walk_at "go"
    refine ⟨a, p, n, m1, ds, rfl, SqL.of hT1.hA, hT1.hd, em1, hT1.ne, fun r2 r20 r21 => ?_⟩
    obtain ⟨hT2, _⟩ := hT1.next em1
    generalize upd H1 p (.lst [.int ((m1 + 1 : Nat) : Int)]) = H2 at hT2
    walk_at "go"
    intro L8 nL8
    generalize eH_ : upd H2 L8 _ = H3
    have s3 : Same H2 H3 := by rw [← eH_]; exact same_new nL8
    have eL8 : H3 L8 = some (.lst menu8) := by rw [← eH_]; exact upd_same
    clear eH_
    have hT3 := hT2.more s3
    obtain ⟨m3, em3⟩ := hT3.pl
    walk_at "go"
    refine ⟨a, p, n, m3, ds, rfl, SqL.of hT3.hA, hT3.hd, em3, hT3.ne, fun r3 r30 r31 => ?_⟩
    obtain ⟨hT4, sb4⟩ := hT3.next em3
    have pL : L8 ≠ p := fun z => by rw [z, em3] at eL8; cases eL8
    have eL4 := sb4 _ _ pL eL8
    generalize upd H3 p (.lst [.int ((m3 + 1 : Nat) : Int)]) = H4 at hT4 eL4
    walk_at "go"
    obtain ⟨i, ei, hi⟩ : ∃ i : Nat, r3 % 8 = (i : Int) ∧ i < 8 := ⟨(r3 % 8).toNat, by omega, by omega⟩
    refine ⟨L8, menu8, r3 % 8, _, rfl, rfl, SqL.of eL4, by rw [ei]; exact menu8_at i hi, ?_⟩
    obtain ⟨mo1, mo2, mo3⟩ := menus_ok i hi
    generalize menus.getD i [] = ml at mo1 mo2 mo3
    have mo3 : Fts ml := fun c hc => List.all_eq_true.mp mo3 c hc
    dsimp only [List.set]
    walk_at "go"
    refine ⟨fun σ J => J = H4 ∧ ∃ sz : Nat, sz ≤ 60 ∧ σ = [some (.ref a), some (.ref p), some (.int mo), some (.int r), some (.int r2), some (.str (S ml)), some (.int sz), none, none], ?_, ?_⟩
    · walk_at "go"
      refine ite2 (fun e => ?_) (fun e => ?_)
      · walk_at "go"
        have z0 := Int.emod_nonneg (r / 28) (show mo + 1 ≠ 0 by omega)
        have z1 := Int.emod_lt_of_pos (r / 28) (show 0 < mo + 1 by omega)
        exact ⟨(r / 28 % (mo + 1)).toNat, by omega, by rw [Int.toNat_of_nonneg z0]; rfl⟩
      · walk_at "go"
        exact ⟨(r % 7).toNat, by omega, by rw [Int.toNat_of_nonneg (by omega)]; rfl⟩
    rintro σ J ⟨rfl, sz, hsz, rfl⟩
    have hlen : (S ml).length ≤ sizeLine := by rw [S_len]; exact szl (by omega)
    walk_at "go"
    refine ⟨⟨_, rfl⟩, ?_⟩
    walk_at "go"
    intro D nD
    refine lc_gen (n := sz) (fun i J1 => Tk K a p ds n H J1 ∧ ∃ l : List Nat, J1 D = some (.lst (l.map fun c => V.str (S [c]))) ∧ l.length = i ∧ Fts l) ⟨hT4.more (same_new nD), [], upd_same, rfl, fun c h => nomatch h⟩ ?_ ?_ ?_ ?_
    · intro i J1 hi _
      show i < (sz : Int).toNat
      omega
    · intro J1 _
      show (sz : Int).toNat ≤ sz
      omega
    · rintro i J1 x J2 hi ⟨hT5, l, eD, ll, hf⟩ ⟨rfl, rfl⟩
      obtain ⟨m5, em5⟩ := hT5.pl
      have pD : p ≠ D := fun z => by
        obtain ⟨m4, em4⟩ := hT4.pl
        rw [z, nD] at em4
        cases em4
      have aD : a ≠ D := fun z => by
        have := hT4.hA
        rw [z, nD] at this
        cases this
      walk_at "go"
      refine ⟨a, p, n, m5, ds, rfl, SqL.of hT5.hA, hT5.hd, em5, hT5.ne, fun r5 r50 r51 => ?_⟩
      obtain ⟨hT6, sb6⟩ := hT5.next em5
      have eD6 := sb6 _ _ pD.symm eD
      generalize upd J2 p (.lst [.int ((m5 + 1 : Nat) : Int)]) = J3 at hT6 eD6
      walk_at "go"
      rw [S_len]
      refine ⟨by show (0 : Int) < (ml.length : Int); omega, ?_⟩
      obtain ⟨j, ej, hj⟩ : ∃ j : Nat, r5 % (ml.length : Int) = (j : Int) ∧ j < ml.length := by
        have z0 := Int.emod_nonneg r5 (show (ml.length : Int) ≠ 0 by omega)
        have z1 := Int.emod_lt_of_pos r5 (show (0 : Int) < ml.length by omega)
        exact ⟨(r5 % (ml.length : Int)).toNat, by omega, by omega⟩
      have ea : atI (S ml).cps.toList (r5 % (ml.length : Int)) = some ml[j] := by
        rw [ej]
        exact atI_nat (by show ml[j]? = _; exact List.getElem?_eq_getElem hj)
      have hc := mo3 _ (List.getElem_mem hj)
      generalize ml[j] = c at ea hc
      refine ⟨S ml, _, c, rfl, rfl, hlen, ea, ?_⟩
      refine ⟨_, eD6, by rw [List.length_map]; exact szlt (by omega), hT6.at_ (hT4.nn nD) pD aD, l ++ [c], by rw [upd_same, List.map_append]; rfl, by rw [List.length_append, ll]; rfl, fun x hx => ?_⟩
      rcases List.mem_append.mp hx with h | h
      · exact hf x h
      · rw [List.mem_singleton.mp h]
        exact hc
    rintro J1 ⟨hT5, l, eD, ll, hf⟩
    walk_at "go"
    refine ⟨S [], D, l.map fun c => S [c], rfl, rfl, .inl (SqL.of (by rw [List.map_map]; exact eD)), ?_, ?_⟩
    · rw [List.map_map]
      have e : (l.map ((fun x : Str => x.length) ∘ fun c => S [c])) = l.map fun _ => 1 := List.map_congr_left fun c _ => S_len _
      rw [e, sum_one, List.length_map, S_len]
      simp
      omega
    rw [show (l.map fun c => S [c]) = (l.map fun c => [c]).map S by rw [List.map_map]; rfl, SX.join_S, join_one]
    walk_at "go"
    intro t nt
    refine q t (r2 % 2) (r2 / 2 % 2) l _ (hT5.more (same_new nt)) (hT5.nn nt) upd_same ⟨?_, ?_, hf, by omega⟩
    · omega
    · omega
theorem bfsn4_at : ∀ i, i < 4 → ∃ c, atI (Str.ofString "bfsn").cps.toList ((i : Nat) : Int) = some c ∧ isF c = true := by
  intro i hi
  match i, hi with
  | 0, _ => exact ⟨98, by decide +kernel, rfl⟩
  | 1, _ => exact ⟨102, by decide +kernel, rfl⟩
  | 2, _ => exact ⟨115, by decide +kernel, rfl⟩
  | 3, _ => exact ⟨110, by decide +kernel, rfl⟩
  | n + 4, h => exact absurd h (by omega)
theorem Fts.app {l r : List Nat} (h : Fts l) (k : Fts r) : Fts (l ++ r) := fun c hc => (List.mem_append.mp hc).elim (h c) (k c)
theorem Fts.take {l : List Nat} (i : Nat) (h : Fts l) : Fts (l.take i) := fun c hc => h c (List.mem_of_mem_take hc)
theorem Fts.drop {l : List Nat} (i : Nat) (h : Fts l) : Fts (l.drop i) := fun c hc => h c (List.mem_of_mem_drop hc)
theorem Fts.one {c : Nat} (h : isF c = true) : Fts [c] := fun x hx => by rw [List.mem_singleton.mp hx]; exact h
end
end Z
set_option Elab.async false
set_option linter.all false
set_option maxRecDepth 100000
namespace Mc
/-! ### f and s exchanged -/
def sw (k : Nat) : Nat := if k = 1 then 2 else if k = 2 then 1 else k
theorem sw_sw (k : Nat) : sw (sw k) = k := by
  unfold sw
  by_cases h1 : k = 1
  · subst h1
    rfl
  · by_cases h2 : k = 2
    · subst h2
      rfl
    · rw [if_neg h1, if_neg h2, if_neg h1, if_neg h2]
theorem sw_map : ∀ w : List Nat, (w.map sw).map sw = w
  | [] => rfl
  | k :: w => by
    rw [List.map_cons, List.map_cons, sw_sw, sw_map w]
def Bs (X X' : Nat → List Nat → Prop) (i j : Nat) : Prop := ∀ w, X' j w ↔ X i (w.map sw)
theorem Bs.symm {X X' : Nat → List Nat → Prop} {i j : Nat} (h : Bs X X' i j) : Bs X' X j i := fun w => by
  have := h (w.map sw)
  rw [sw_map] at this
  exact this.symm
theorem Bs.step {m : Nat} {R R' : Tbl} {X X' : Nat → List Nat → Prop} (h : Ab m R X) (h' : Ab m R' X') {i j k i' : Nat} (hj : j < R'.length) (b : Bs X X' i j) (e : nx R i k = some i') : ∃ j', nx R' j (sw k) = some j' ∧ Bs X X' i' j' := by
  obtain ⟨li, ei⟩ := h.yes i k i' e
  cases c : nx R' j (sw k) with
  | none =>
    obtain ⟨w, xw⟩ := h.live i' li
    have := (b (sw k :: w.map sw)).mpr (by rw [List.map_cons, sw_sw, sw_map]; exact (ei w).mp xw)
    exact absurd this (h'.no j (sw k) hj c _)
  | some j' =>
    refine ⟨j', rfl, fun w => ?_⟩
    rw [(h'.yes j (sw k) j' c).2 w, b, List.map_cons, sw_sw]
    exact (ei _).symm
theorem Bs.none {m : Nat} {R R' : Tbl} {X X' : Nat → List Nat → Prop} (h : Ab m R X) (h' : Ab m R' X') {i j k : Nat} (hi : i < R.length) (b : Bs X X' i j) (e : nx R i k = none) : nx R' j (sw k) = none := by
  cases c : nx R' j (sw k) with
  | none => rfl
  | some j' =>
    obtain ⟨i', e2, _⟩ := Bs.step h' h hi b.symm c
    rw [sw_sw, e] at e2
    cases e2
theorem Bs.tot {m : Nat} {R R' : Tbl} {X X' : Nat → List Nat → Prop} (h : Ab m R X) (h' : Ab m R' X') (b0 : Bs X X' 0 0) : ∀ n i, i < n → i < R.length → ∃ j, j < R'.length ∧ Bs X X' i j
  | 0, i, hn, _ => absurd hn (Nat.not_lt_zero _)
  | n + 1, i, hn, hi => by
    by_cases c : i = 0
    · subst c
      exact ⟨0, h'.zero, b0⟩
    · obtain ⟨i0, k, l, e, _⟩ := h.ord i (by omega) hi
      obtain ⟨j0, lj, b⟩ := Bs.tot h h' b0 n i0 (by omega) (by omega)
      obtain ⟨j, ej, bj⟩ := Bs.step h h' lj b e
      exact ⟨j, (h'.yes j0 (sw k) j ej).1, bj⟩
theorem nd_sub : ∀ {l l' : List Nat}, l.Nodup → (∀ x ∈ l, x ∈ l') → l.length ≤ l'.length
  | [], _, _, _ => Nat.zero_le _
  | a :: l, l', nd, h => by
    obtain ⟨n1, n2⟩ := List.nodup_cons.mp nd
    have ha : a ∈ l' := h a List.mem_cons_self
    have := nd_sub (l' := l'.erase a) n2 fun x hx => by
      have ne : x ≠ a := fun e => n1 (by rw [← e]; exact hx)
      exact (List.mem_erase_of_ne ne).mpr (h x (List.mem_cons_of_mem _ hx))
    rw [List.length_erase_of_mem ha] at this
    have : 0 < l'.length := List.length_pos_of_mem ha
    rw [List.length_cons]
    omega
theorem nd_map {f : Nat → Nat} : ∀ {l : List Nat}, l.Nodup → (∀ x ∈ l, ∀ y ∈ l, f x = f y → x = y) → (l.map f).Nodup
  | [], _, _ => List.nodup_nil
  | a :: l, nd, h => by
    obtain ⟨n1, n2⟩ := List.nodup_cons.mp nd
    rw [List.map_cons]
    refine List.nodup_cons.mpr ⟨fun hm => ?_, nd_map n2 fun x hx y hy e => h x (List.mem_cons_of_mem _ hx) y (List.mem_cons_of_mem _ hy) e⟩
    obtain ⟨x, hx, e⟩ := List.mem_map.mp hm
    exact n1 (by rw [← h x (List.mem_cons_of_mem _ hx) a List.mem_cons_self e]; exact hx)
theorem Bs.le {m : Nat} {R R' : Tbl} {X X' : Nat → List Nat → Prop} (h : Ab m R X) (h' : Ab m R' X') (b0 : Bs X X' 0 0) {p p' : Nat → Bool} (hp : ∀ i j, i < R.length → j < R'.length → Bs X X' i j → p i = p' j) : ((List.range R.length).filter p).length ≤ ((List.range R'.length).filter p').length := by
  have ex : ∀ i : Nat, ∃ j, i < R.length → j < R'.length ∧ Bs X X' i j := fun i => by
    by_cases c : i < R.length
    · obtain ⟨j, a, b⟩ := Bs.tot h h' b0 (i + 1) i (by omega) c
      exact ⟨j, fun _ => ⟨a, b⟩⟩
    · exact ⟨0, fun z => absurd z c⟩
  obtain ⟨f, hf⟩ := Classical.axiomOfChoice ex
  have := nd_sub (l := ((List.range R.length).filter p).map f) (l' := (List.range R'.length).filter p') (nd_map (List.nodup_range.sublist List.filter_sublist) fun x hx y hy e => by
    have lx := List.mem_range.mp (List.mem_filter.mp hx).1
    have ly := List.mem_range.mp (List.mem_filter.mp hy).1
    refine h.inj x y lx ly fun w => ?_
    have b1 := (hf x lx).2 (w.map sw)
    have b2 := (hf y ly).2 (w.map sw)
    rw [sw_map] at b1 b2
    rw [← b1, ← b2, e]) fun y hy => by
      obtain ⟨x, hx, rfl⟩ := List.mem_map.mp hy
      obtain ⟨h1, h2⟩ := List.mem_filter.mp hx
      have lx := List.mem_range.mp h1
      obtain ⟨a, b⟩ := hf x lx
      exact List.mem_filter.mpr ⟨List.mem_range.mpr a, by rw [← hp x _ lx a b]; exact h2⟩
  rw [List.length_map] at this
  exact this
theorem Bs.len {m : Nat} {R R' : Tbl} {X X' : Nat → List Nat → Prop} (h : Ab m R X) (h' : Ab m R' X') (b0 : Bs X X' 0 0) {p p' : Nat → Bool} (hp : ∀ i j, i < R.length → j < R'.length → Bs X X' i j → p i = p' j) : ((List.range R.length).filter p).length = ((List.range R'.length).filter p').length :=
  Nat.le_antisymm (Bs.le h h' b0 hp) (Bs.le h' h b0.symm fun i j hi hj b => (hp j i hj hi b.symm).symm)
theorem add3_sw (a b c : Option Nat) : add3 a b c = add3 a c b := by
  cases a <;> cases b <;> cases c <;> try rfl
  show some _ = some _
  congr 1
  omega
theorem Bs.lng {m : Nat} {R R' : Tbl} {X X' : Nat → List Nat → Prop} (h : Ab m R X) (h' : Ab m R' X') : ∀ (t i j : Nat), i < R.length → j < R'.length → Bs X X' i j → Mc.lng R t i = Mc.lng R' t j
  | 0, _, _, _, _, _ => rfl
  | t + 1, i, j, hi, hj, b => by
    have e : ∀ k, (nx R i k).bind (Mc.lng R t) = (nx R' j (sw k)).bind (Mc.lng R' t) := fun k => by
      cases c : nx R i k with
      | none => rw [Bs.none h h' hi b c]; rfl
      | some i' =>
        obtain ⟨j', e2, b2⟩ := Bs.step h h' hj b c
        rw [e2]
        exact Bs.lng h h' t i' j' (h.yes i k i' c).1 (h'.yes j (sw k) j' e2).1 b2
    rw [Mc.lng, Mc.lng, e 3, e 0, e 1, e 2]
    show lss ((nx R' j 3).bind (Mc.lng R' t)) (add3 ((nx R' j 0).bind (Mc.lng R' t)) ((nx R' j 2).bind (Mc.lng R' t)) ((nx R' j 1).bind (Mc.lng R' t))) = _
    rw [add3_sw]
/-! ### languages -/
theorem unl_sw1 {M : Lg} {w : List Nat} (h : UnL (fun v => M (v.map sw)) w) : UnL M (w.map sw) := fun u hu => by
  have hp : u.map sw <+: w := by
    have := hu.map sw
    rw [sw_map] at this
    exact this
  obtain ⟨B, b0, hB⟩ := h _ hp
  refine ⟨fun v => B (v.map sw), b0, fun v hv => ?_⟩
  obtain ⟨h1, k, h2⟩ := hB _ hv
  refine ⟨?_, sw k, ?_⟩
  · have h1 : M ((u.map sw ++ v.map sw).map sw) := h1
    rw [← List.map_append, sw_map] at h1
    exact h1
  · show B ((v ++ [sw k]).map sw)
    rw [List.map_append, List.map_cons, sw_sw]
    exact h2
theorem unl_sw {M : Lg} {w : List Nat} : UnL (fun v => M (v.map sw)) w ↔ UnL M (w.map sw) := by
  refine ⟨unl_sw1, fun h => ?_⟩
  have := unl_sw1 (M := fun v => M (v.map sw)) (w := w.map sw) ((UnL.congr (fun v => by rw [sw_map]) _).mpr h)
  rw [sw_map] at this
  exact this
theorem unl_sw2 {L L2 : Lg} (e : ∀ w, L2 w ↔ UnL L (w.map sw)) (w : List Nat) : UnL L2 w ↔ UnL L (w.map sw) := by
  rw [UnL.congr e w, unl_sw (M := UnL L)]
  exact unl_unl
/-- both normal forms are empty, or they are the same but for f and s -/
theorem nf_sw {T T' : Tbl} {G G' : Nat → Prop} {m : Nat} {R R' : Tbl} {g g' : List Nat} (h : Nf T G m R g) (h' : Nf T' G' m R' g') (e : ∀ w, AccS T' G' w ↔ AccS T G (w.map sw)) : (R = [] ∧ R' = []) ∨ ∃ X X', Ab m R X ∧ Ab m R' X' ∧ Bs X X' 0 0 := by
  have no : ∀ {T : Tbl} {G : Nat → Prop}, (T = [] ∨ ¬ Liv T G 0) → ∀ w, ¬ AccS T G w := by
    rintro T G h w ⟨t, h1, h2⟩
    rcases h with rfl | h
    · rw [show st [] = none from rfl, rn_none] at h1
      cases h1
    · unfold st at h1
      split at h1
      · rw [rn_none] at h1; cases h1
      · exact h ⟨w, t, h1, h2⟩
  have ex : ∀ {T : Tbl} {G : Nat → Prop} {R : Tbl} {g met : List Nat}, NfOf T G m R g met → ∃ w, AccS T G w := fun n => by
    obtain ⟨w, a⟩ := (n.live 0 (List.mem_of_getElem? n.zero)).2
    exact ⟨w, (n.accS w).mp ⟨0, n.zero, a⟩⟩
  rcases h with ⟨r1, r2, h⟩ | ⟨met, h⟩
  · rcases h' with ⟨r3, r4, h'⟩ | ⟨met', h'⟩
    · exact .inl ⟨r1, r3⟩
    · obtain ⟨w, a⟩ := ex h'
      exact absurd ((e w).mp a) (no h _)
  · rcases h' with ⟨r3, r4, h'⟩ | ⟨met', h'⟩
    · obtain ⟨w, a⟩ := ex h
      have := e (w.map sw)
      rw [sw_map] at this
      exact absurd (this.mpr a) (no h' _)
    · exact .inr ⟨_, _, h.ab, h'.ab, fun w => (h'.accS w).trans ((e w).trans (h.accS _).symm)⟩
/-- the table with the columns of f and s exchanged -/
def swR (r : List (Option Nat)) : List (Option Nat) := [r.getD 0 none, r.getD 2 none, r.getD 1 none, r.getD 3 none]
def swT (T : Tbl) : Tbl := T.map swR
theorem nx_swT {T : Tbl} (wf : Wf T 4) (s k : Nat) : nx (swT T) s k = nx T s (sw k) := by
  unfold nx swT
  cases e : T[s]? with
  | none => simp [e]
  | some r =>
    have lr := wf.row r (List.mem_of_getElem? e)
    match r, lr with
    | [a, b, c, d], _ =>
      simp only [List.getD_eq_getElem?_getD, List.getElem?_map, e, Option.map_some, Option.getD_some]
      match k with
      | 0 => rfl
      | 1 => rfl
      | 2 => rfl
      | 3 => rfl
      | k + 4 =>
        have : sw (k + 4) = k + 4 := by unfold sw; rw [if_neg (by omega), if_neg (by omega)]
        rw [this]
        rfl
theorem rn_swT {T : Tbl} (wf : Wf T 4) : ∀ (w : List Nat) (o : Option Nat), rn (swT T) o w = rn T o (w.map sw)
  | [], none => rfl
  | [], some _ => rfl
  | _ :: _, none => by rw [rn_none, rn_none]
  | k :: w, some s => by
    show rn (swT T) (nx (swT T) s k) w = rn T (nx T s (sw k)) (w.map sw)
    rw [nx_swT wf, rn_swT wf w]
theorem acc_swT {T : Tbl} (wf : Wf T 4) (G : Nat → Prop) (w : List Nat) : AccS (swT T) G w ↔ AccS T G (w.map sw) := by
  unfold AccS
  have : st (swT T) = st T := by unfold st swT; rw [List.length_map]
  rw [this, rn_swT wf]
theorem wf_swT {T : Tbl} (wf : Wf T 4) : Wf (swT T) 4 where
  row := fun r hr => by
    obtain ⟨r0, _, rfl⟩ := List.mem_map.mp hr
    rfl
  ent := fun r hr => by
    obtain ⟨r0, h0, rfl⟩ := List.mem_map.mp hr
    intro e he
    have lr := wf.row r0 h0
    have := wf.ent r0 h0
    unfold swT
    rw [List.length_map]
    match r0, lr, this, he with
    | [a, b, c, d], _, this, he =>
      have he : some e ∈ [a, c, b, d] := he
      refine this e ?_
      simp only [List.mem_cons, List.not_mem_nil, or_false] at he ⊢
      rcases he with h | h | h | h
      · exact .inl h
      · exact .inr (.inr (.inl h))
      · exact .inr (.inl h)
      · exact .inr (.inr (.inr h))
theorem ab_reach {m : Nat} {R : Tbl} {X : Nat → List Nat → Prop} (h : Ab m R X) : ∀ n i, i < n → i < R.length → ∃ w, rn R (some 0) w = some i
  | 0, i, hn, _ => absurd hn (Nat.not_lt_zero _)
  | n + 1, i, hn, hi => by
    by_cases c : i = 0
    · exact ⟨[], by rw [c]; rfl⟩
    · obtain ⟨i0, k, l, e, _⟩ := h.ord i (by omega) hi
      obtain ⟨w, hw⟩ := ab_reach h n i0 (by omega) (by omega)
      exact ⟨w ++ [k], by rw [rn_snoc hw]; exact e⟩
/-- the normal form of a language closed under beginnings: all states are good -/
theorem nf_all {T : Tbl} {G : Nat → Prop} {m : Nat} {R : Tbl} {g : List Nat} (h : Nf T G m R g) (pc : ∀ u v, AccS T G (u ++ v) → AccS T G u) : g = List.range R.length := by
  refine asc_ext ?_ List.pairwise_lt_range fun i => ?_
  · rcases h with ⟨_, e, _⟩ | ⟨met, h⟩
    · rw [e]
      exact List.Pairwise.nil
    · exact h.asc
  · refine ⟨fun hi => List.mem_range.mpr (h.wf.2 i hi), fun hi => ?_⟩
    have hi := List.mem_range.mp hi
    have hst : st R = some 0 := if_neg (by omega)
    obtain ⟨w, hw⟩ : ∃ w, rn R (some 0) w = some i := by
      rcases h with ⟨e, _⟩ | ⟨met, h⟩
      · rw [e] at hi
        exact absurd hi (Nat.not_lt_zero _)
      · exact ab_reach h.ab (i + 1) i (by omega) hi
    obtain ⟨v, t, hv, gt⟩ := h.live hi
    have a : AccS R (fun j => j ∈ g) (w ++ v) := ⟨t, by rw [hst, rn_app, hw]; exact hv, gt⟩
    obtain ⟨t', e1, e2⟩ := (h.lang w).mpr (pc w v ((h.lang _).mp a))
    rw [hst, hw] at e1
    cases e1
    exact e2
theorem unl_pre {L : Lg} {u v : List Nat} (h : UnL L (u ++ v)) : UnL L u := fun x hx => h x (hx.trans (List.prefix_append u v))
end Mc
set_option pp.maxSteps 700
set_option Elab.async false
set_option linter.all false
set_option maxRecDepth 100000
set_option maxHeartbeats 4000000
open SX (S S_inj S_len S_cat)
namespace Z
open Mc
open PySem PySem.Spec PyProof.Rows L2
open C8 (pss_cut tCut)
local macro_rules | `(tactic| walk_at "num") => `(tactic| first | rfl | omega | decide | exact Nat.le_of_lt (small1000 (by simp)) | exact ⟨by omega, by omega⟩ | exact ⟨by omega, by omega, by omega⟩ | exact ⟨by decide, by decide, by decide⟩ | exact Or.inl ⟨by omega, by omega⟩ | exact Or.inr ⟨by omega, by omega⟩)
local macro_rules | `(tactic| walk_at "go") => `(tactic| repeat (first | refine ⟨_, rfl, ?_⟩ | refine ⟨_, _, rfl, rfl, ?_⟩ | refine ⟨_, _, rfl, ?_⟩ | (refine ⟨_, _, rfl, rfl, ?_, ?_⟩; focus walk_at "num") | refine Or.inl ⟨_, rfl, ?_⟩ | refine ⟨_, _, _, _, rfl, rfl, (by assumption), (by rfl), ?_⟩ | refine ⟨_, _, _, _, _, rfl, (by assumption), (by assumption), (by assumption), (by rfl), ?_⟩ | refine ⟨rfl, ?_⟩ | (refine And.intro ?_ ?_; focus walk_at "num")))
abbrev s_swapped : Stmt := topS 43
abbrev N_swapped : List Str := ["rule", "both", "first", "second", "neither"]
abbrev P_swapped : List Str := ["rule"]
theorem sc_swapped : FnScope N_swapped P_swapped (defScope s_swapped) := ⟨rfl, rfl, rfl, by decide +kernel, rfl, by decide +kernel, by decide +kernel⟩
theorem lvl_lng {R : Tbl} : ∀ (t s : Nat), lvl R t s = (lng R t s).isSome
  | 0, _ => rfl
  | t + 1, s => by
    have e : ∀ k, elB (lvl R t) ((R.getD s []).getD k none) = ((nx R s k).bind (lng R t)).isSome := fun k => by
      show elB (lvl R t) (nx R s k) = _
      cases nx R s k with
      | none => rfl
      | some y => exact lvl_lng t y
    rw [lng]
    show ldr (lvl R t) (R.getD s []) = _
    unfold ldr
    rw [e 0, e 1, e 2, e 3]
    generalize (nx R s 0).bind (lng R t) = x0
    generalize (nx R s 1).bind (lng R t) = x1
    generalize (nx R s 2).bind (lng R t) = x2
    generalize (nx R s 3).bind (lng R t) = x3
    cases x3 with
    | none => cases x0 <;> cases x1 <;> cases x2 <;> rfl
    | some n =>
      cases ea : add3 x0 x1 x2 with
      | none => cases x0 <;> cases x1 <;> cases x2 <;> first | rfl | cases ea
      | some y =>
        show true = (if y < n then some y else some n).isSome
        split <;> rfl
/-- the two rules have the same sizes -/
structure Sam (R R' : Tbl) : Prop where
  len : R.length = R'.length
  lng : ∀ t, Mc.lng R t 0 = Mc.lng R' t 0
  flg : ∀ t, (Z.flg R.length (lvl R t)).length = (Z.flg R'.length (lvl R' t)).length
theorem Sam.need {R R' : Tbl} (h : Sam R R') : Z.need R R.length = Z.need R' R'.length := by
  unfold Z.need
  rw [h.len]
  congr 1
  funext t
  rw [lvl_lng, lvl_lng, h.lng]
theorem sam_of {L L2 : Lg} {R R' : Tbl} (hU : Unf L R) (hU' : Unf L2 R') (e : ∀ w, L2 w ↔ UnL L (w.map sw)) : Sam R R' := by
  obtain ⟨T, G, g, nf, a⟩ := hU
  obtain ⟨T', G', g', nf', a'⟩ := hU'
  rcases nf_sw nf nf' (fun w => (a' w).trans ((unl_sw2 e w).trans (a _).symm)) with ⟨rfl, rfl⟩ | ⟨X, X', h, h', b⟩
  · exact ⟨rfl, fun _ => rfl, fun _ => rfl⟩
  · have hp : ∀ t i j, i < R.length → j < R'.length → Bs X X' i j → lvl R t i = lvl R' t j := fun t i j hi hj b => by rw [lvl_lng, lvl_lng, Bs.lng h h' t i j hi hj b]
    refine ⟨?_, fun t => Bs.lng h h' t 0 0 h.zero h'.zero b, fun t => Bs.len h h' b (hp t)⟩
    have := Bs.len h h' b (p := fun _ => true) (p' := fun _ => true) fun _ _ _ _ _ => rfl
    rw [List.filter_eq_self.mpr fun _ _ => rfl, List.filter_eq_self.mpr fun _ _ => rfl, List.length_range, List.length_range] at this
    exact this
theorem unf_all {L : Lg} {R : Tbl} (hU : Unf L R) (w : List Nat) : AccS R (inG (List.range R.length)) w ↔ UnL L w := by
  obtain ⟨T, G, g, nf, a⟩ := hU
  have := nf_all nf fun u v h => (a u).mpr (unl_pre ((a _).mp h))
  rw [← a, ← nf.lang, this]
  rfl
/-- a new table: each row made from a row of another one -/
theorem lc_tbl (c : Bool) (fr : List (Option Nat) → List (Option Nat)) {J : It} {g : TG} {te : TE} {zr : List (Addr × List (Option Nat))} {D : Addr} {H0 : Hp} {vs : List Nat} {σ : L2.St} {Qd : Hp → Prop} (hn : zr.length ≤ 1000000) (nD : H0 D = none)
    (hgo : ∀ k J', k < zr.length → Same H0 J' → J.go k J') (hst : ∀ J', Same H0 J' → J.stop zr.length J') (hy : ∀ k x J1 J2 (hk : k < zr.length), Same H0 J1 → J.yld k J1 x J2 → J2 = J1 ∧ x = V.ref (zr[k]).1)
    (ht : ∀ k (hk : k < zr.length) J1 (Q : VK), Same H0 J1 → (∀ l, J1 l = none → Q (.ref l) (upd J1 l (rwO c (fr (zr[k]).2)))) → g (.ref (zr[k]).1) (wipe σ vs) J1 fun σ2 H2 => wipe σ2 vs = wipe σ vs ∧ te σ2 H2 Q)
    (hd : ∀ J1 (hs : List (Addr × List (Option Nat))), Same H0 J1 → J1 D = some (.lst (hs.map fun z => V.ref z.1)) → (∀ z ∈ hs, J1 z.1 = some (rwO c z.2)) → (∀ z ∈ hs, H0 z.1 = none) → tb hs = (tb zr).map fr → Qd J1) : lcW J g tYes te vs σ D Qd H0 := by
  refine lc_gen (n := zr.length) (fun k J => Same H0 J ∧ ∃ hs : List (Addr × List (Option Nat)), J D = some (.lst (hs.map fun z => V.ref z.1)) ∧ (∀ z ∈ hs, J z.1 = some (rwO c z.2)) ∧ (∀ z ∈ hs, H0 z.1 = none) ∧ hs.length = k ∧ tb hs = ((tb zr).map fr).take k ∧ ∀ z ∈ hs, z.1 ≠ D) ⟨same_new nD, [], upd_same, fun z m => absurd m (by simp), fun z m => absurd m (by simp), rfl, rfl, fun z h => absurd h (by simp)⟩ (fun k J hk p => hgo k J hk p.1) (fun J p => hst J p.1) ?_ ?_
  · rintro k J1 x J2 hk ⟨s1, hs, eD, at_, nn, ll, et, fr'⟩ y
    obtain ⟨rfl, rfl⟩ := hy k x J1 _ hk s1 y
    refine ht k hk J2 (fun y H4 => ∃ acc, H4 D = some (.lst acc) ∧ acc.length < sizeLine ∧ ((fun k J => Same H0 J ∧ ∃ hs : List (Addr × List (Option Nat)), J D = some (.lst (hs.map fun z => V.ref z.1)) ∧ (∀ z ∈ hs, J z.1 = some (rwO c z.2)) ∧ (∀ z ∈ hs, H0 z.1 = none) ∧ hs.length = k ∧ tb hs = ((tb zr).map fr).take k ∧ ∀ z ∈ hs, z.1 ≠ D) (k + 1) (upd H4 D (.lst (acc ++ [y]))))) s1 fun l nl => ?_
    have lD : D ≠ l := ne_of_none eD nl
    refine ⟨_, by rw [upd_ne lD]; exact eD, by rw [List.length_map, ll]; exact Nat.lt_of_lt_of_le (show k < 2000000 by omega) (by decide), Z.Same.mut (s1.trans (same_new nl)) nD, hs ++ [(l, fr (zr[k]).2)], by rw [upd_same, List.map_append]; rfl, fun z h => ?_, fun z h => ?_, by rw [List.length_append, ll]; rfl, ?_, fun z h => ?_⟩
    · rcases List.mem_append.mp h with h | h
      · rw [upd_ne (fr' z h), upd_ne (ne_of_none (at_ z h) nl)]
        exact at_ z h
      · rw [List.mem_singleton.mp h, upd_ne lD.symm, upd_same]
    · rcases List.mem_append.mp h with h | h
      · exact nn z h
      · rw [List.mem_singleton.mp h]
        exact none_of s1 nl
    · unfold tb at et ⊢
      rw [List.map_append, et, List.take_succ, List.getElem?_map, List.getElem?_map, List.getElem?_eq_getElem hk]
      rfl
    · rcases List.mem_append.mp h with h | h
      · exact fr' z h
      · rw [List.mem_singleton.mp h]
        exact lD.symm
  · rintro J ⟨s1, hs, eD, at_, nn, ll, et, fr'⟩
    refine hd J hs s1 eD at_ nn ?_
    rw [et, List.take_of_length_le]
    unfold tb
    rw [List.length_map, List.length_map]
    omega
section
variable {P : Program} {w : World} {K : PySem.W.Frag} {mg : Str → Option Value} {base : Heap} {f C : Addr} {fd : FuncData}
def spSwp (C : Addr) (K : PySem.W.Frag) : Sp := fun vs H Q _ => ∃ (m : Addr) (sz : Nat) (L : Lg), vs = [.ref m] ∧ McL C K H m LT sz L ∧ sz ≤ 12 ∧ ∀ (n : Addr) (R : Tbl) H', Same H H' → H n = none → Unf L R → McL C K H' n LT 12 (fun w => UnL L (w.map sw)) → Q (.ref n) H'
theorem ok_swapped (F : FnP K "swapped" s_swapped f fd) (tok_FATES : Tok) (g_FATES : mg "FATES" = some (.str "bfsn" tok_FATES)) (cls : Cls K C) (n_rows : NoAttr K C "rows") (me_unending : Met P w K mg base 6 C "unending" (spMe UnL C K)) (kd_Machine : MakD P w K mg base 4 "Machine" [.non] (spL2 C K)) : FnOk P w K mg base CX0 7 f fd P_swapped (spSwp C K) := by
  refine F.ok sc_swapped (fun vs H Q E h => ?_) (fun cdv A outer s H vs Q E hr h => ?_)
  · obtain ⟨m, sz, L, rfl, _⟩ := h
    rfl
  · obtain ⟨m, sz, L, rfl, hM, lsz, q⟩ := h
    refine ⟨_, PSs.nox (pss_one (ps_ret (pe_mkD kd_Machine hr (by decide) (by rfl) (pa_cons (pe_glob (by rfl) g_FATES (relv_str (x := "bfsn"))) (pa_cons (pe_lc (own := [("both", 1), ("first", 2), ("second", 3), ("neither", 4)]) (g := (gTup K 4 (gCons (gName 1) (gCons (gName 2) (gCons (gName 3) (gCons (gName 4) gNil)))))) (tt := tYes) (by rfl) sc_swapped.nd (pi_tup (pe_fld (pe_me0 me_unending (pv 0) hr (by decide)) rfl)) (blkOk_by (own := [("both", 1), ("first", 2), ("second", 3), ("neither", 4)]) (N := N_swapped) (sc := defScope s_swapped) (by decide +kernel)) (fun _ _ _ _ _ => (pg_tup rfl (pgs_cons (pg_name (i := 1) sc_swapped.nd rfl (by first | exact .inl rfl | exact .inr rfl)) (pgs_cons (pg_name (i := 2) sc_swapped.nd rfl (by first | exact .inl rfl | exact .inr rfl)) (pgs_cons (pg_name (i := 3) sc_swapped.nd rfl (by first | exact .inl rfl | exact .inr rfl)) (pgs_cons (pg_name (i := 4) sc_swapped.nd rfl (by first | exact .inl rfl | exact .inr rfl)) pgs_nil)))))) (fun _ _ _ _ _ => pts_nil) (fun _ _ _ _ _ => (pe_tup (pa_cons (pv 1) (pa_cons (pv 3) (pa_cons (pv 2) (pa_cons (pv 4) pa_nil))))))) pa_nil))))), ?_⟩
    obtain ⟨dx0, r0, u0, en0⟩ := hM.ins
    have ndL : LT.Nodup := by decide
    walk_at "go"
    refine ⟨m, dx0, _, rfl, en0, by rfl, ?_⟩
    refine ⟨m, LT, sz, L, rfl, hM, ndL, by decide, by decide, by omega, fun n' H1 s1 nn' hM' => ?_⟩
    obtain ⟨dx', r, u, zr, en, hR, hU, lzr⟩ := hM'.un
    walk_at "go"
    refine ⟨⟨_, hR.sq⟩, ?_⟩
    intro D nD
    refine lc_tbl false swR (zr := zr) (by omega) nD (fun k J hk s5 => ⟨_, _, Z.Same.sqK s5 (b := false) hR.sq, by rw [List.getElem?_map, List.getElem?_eq_getElem hk]; rfl⟩) (fun J s5 => ⟨_, Z.Same.sqK s5 (b := false) hR.sq, by rw [List.length_map]; exact Nat.le_refl _⟩) (fun k x J1 J2 hk s5 y => ?_) (fun k hk J1 Q1 s5 q1 => ?_) (fun J1 hs s5 eD hat hnn et => ?_)
    · obtain ⟨rfl, y⟩ := y
      have y := y _ (Z.Same.sqK s5 (b := false) hR.sq)
      rw [List.getElem?_map, List.getElem?_eq_getElem hk] at y
      cases y
      exact ⟨rfl, rfl⟩
    · have lr := hU.wf.row (zr[k]).2 (List.mem_map.mpr ⟨_, List.getElem_mem hk, rfl⟩)
      have hz := Z.Same.sqK s5 (b := false) (hR.at_ _ (List.getElem_mem hk))
      obtain ⟨o0, o1, o2, o3, e4⟩ := four_of lr
      rw [e4] at hz q1
      refine ⟨_, _, rfl, hz, rfl, ?_⟩
      walk_at "go"
      exact q1
    · walk_at "go"
      have et : tb hs = swT (tb zr) := et
      have lh : hs.length ≤ 12 := by
        have := congrArg List.length et
        unfold tb swT at this
        rw [List.length_map, List.length_map, List.length_map] at this
        omega
      refine ⟨true, false, D, LT, hs, by rfl, ndL, by decide, by decide, ⟨SqL.of eD, fun z m => SqT.of (hat z m)⟩, by rw [et]; exact wf_swT hU.wf, by omega, fun n H2 s6 nn hM2 => ?_⟩
      refine q n (tb zr) H2 (s1.trans (s5.trans s6)) (none_of (s1.trans s5) nn) hU ?_
      refine (hM2.le lh).congr fun w => ?_
      rw [et, acc_swT hU.wf, ← unf_all hU]
      have : hs.length = (tb zr).length := by
        have := congrArg List.length et
        unfold tb swT at this
        unfold tb
        rw [List.length_map, List.length_map] at this
        exact this
      rw [this]
end
end Z
set_option pp.maxSteps 700
set_option Elab.async false
set_option linter.all false
set_option maxRecDepth 100000
set_option maxHeartbeats 4000000
open SX (S S_inj S_len S_cat)
namespace Z
open Mc
open PySem PySem.Spec PyProof.Rows L2
open C8 (pss_cut tCut)
local macro_rules | `(tactic| walk_at "num") => `(tactic| first | rfl | omega | decide | exact Nat.le_of_lt (small1000 (by simp)) | exact ⟨by omega, by omega⟩ | exact ⟨by omega, by omega, by omega⟩ | exact ⟨by decide, by decide, by decide⟩ | exact Or.inl ⟨by omega, by omega⟩ | exact Or.inr ⟨by omega, by omega⟩)
local macro_rules | `(tactic| walk_at "go") => `(tactic| repeat (first | refine ⟨_, rfl, ?_⟩ | refine ⟨_, _, rfl, rfl, ?_⟩ | refine ⟨_, _, rfl, ?_⟩ | (refine ⟨_, _, rfl, rfl, ?_, ?_⟩; focus walk_at "num") | refine Or.inl ⟨_, rfl, ?_⟩ | refine ⟨_, _, _, _, rfl, rfl, (by assumption), (by rfl), ?_⟩ | refine ⟨_, _, _, _, _, rfl, (by assumption), (by assumption), (by assumption), (by rfl), ?_⟩ | refine ⟨rfl, ?_⟩ | (refine And.intro ?_ ?_; focus walk_at "num")))
abbrev s_swapped_fates : Stmt := topS 80
abbrev N_swapped_fates : List Str := ["_law_fates", "_law_fate"]
abbrev P_swapped_fates : List Str := ["_law_fates"]
theorem sc_swapped_fates : FnScope N_swapped_fates P_swapped_fates (defScope s_swapped_fates) := ⟨rfl, rfl, rfl, by decide +kernel, rfl, by decide +kernel, by decide +kernel⟩
abbrev s_allows : Stmt := topS 81
abbrev N_allows : List Str := ["_law_live", "_law_fates", "_law_state", "_law_fate"]
abbrev P_allows : List Str := ["_law_live", "_law_fates"]
theorem sc_allows : FnScope N_allows P_allows (defScope s_allows) := ⟨rfl, rfl, rfl, by decide +kernel, rfl, by decide +kernel, by decide +kernel⟩
/-! ### fates as texts -/
def cd (k : Nat) : Nat := LT.getD k 0
def ftx (X : List Nat) : List Nat := X.map cd
abbrev F4 (X : List Nat) : Prop := ∀ k ∈ X, k < 4
theorem idx_cd {k : Nat} (h : k < 4) : ∃ rest, Builtin.Str.occurrences (Str.ofString "bfsn") ⟨#[cd k]⟩ 0 (Str.ofString "bfsn").length 1 = k :: rest := by
  match k, h with
  | 0, _ => exact ⟨[], by decide +kernel⟩
  | 1, _ => exact ⟨[], by decide +kernel⟩
  | 2, _ => exact ⟨[], by decide +kernel⟩
  | 3, _ => exact ⟨[], by decide +kernel⟩
theorem ftx_snoc (pre : List Nat) (k : Nat) : S (ftx pre) ++ (⟨#[cd k]⟩ : Str) = S (ftx (pre ++ [k])) := by
  unfold ftx
  rw [List.map_append]
  exact S_cat _ [cd k]
theorem ftx_len (X : List Nat) : (ftx X).length = X.length := List.length_map ..
theorem cd_isF {k : Nat} (h : k < 4) : isF (cd k) = true := by
  match k, h with
  | 0, _ => rfl
  | 1, _ => rfl
  | 2, _ => rfl
  | 3, _ => rfl
theorem ftx_fts {X : List Nat} (h : F4 X) : Fts (ftx X) := fun c hc => by
  obtain ⟨k, hk, rfl⟩ := List.mem_map.mp hc
  exact cd_isF (h k hk)
theorem cd_ex {c : Nat} (h : isF c = true) : ∃ k, k < 4 ∧ cd k = c := by
  unfold isF at h
  simp only [Bool.or_eq_true, decide_eq_true_eq] at h
  rcases h with h | h | h | h
  · exact ⟨0, by decide, h.symm⟩
  · exact ⟨1, by decide, h.symm⟩
  · exact ⟨2, by decide, h.symm⟩
  · exact ⟨3, by decide, h.symm⟩
theorem ftx_ex : ∀ {l : List Nat}, Fts l → ∃ X, l = ftx X ∧ F4 X
  | [], _ => ⟨[], rfl, fun _ h => nomatch h⟩
  | c :: l, h => by
    obtain ⟨k, hk, e⟩ := cd_ex (h c List.mem_cons_self)
    obtain ⟨X, e2, hX⟩ := ftx_ex fun d hd => h d (List.mem_cons_of_mem _ hd)
    refine ⟨k :: X, by rw [e2]; show _ = cd k :: _; rw [e]; rfl, fun j hj => ?_⟩
    rcases List.mem_cons.mp hj with rfl | hj
    · exact hk
    · exact hX j hj
theorem sw_lt {k : Nat} (h : k < 4) : sw k < 4 := by
  unfold sw
  split
  · decide
  · split
    · decide
    · exact h
theorem F4.sw {X : List Nat} (h : F4 X) : F4 (X.map sw) := fun k hk => by
  obtain ⟨j, hj, rfl⟩ := List.mem_map.mp hk
  exact sw_lt (h j hj)
theorem ixOf_cd {k : Nat} (h : k < 4) : ixOf LT (cd k) = some k := by
  match k, h with
  | 0, _ => rfl
  | 1, _ => rfl
  | 2, _ => rfl
  | 3, _ => rfl
theorem idx_ftx : ∀ {X : List Nat}, F4 X → idx (ixOf LT) (ftx X) = some X
  | [], _ => rfl
  | k :: X, h => by
    show idx (ixOf LT) (cd k :: ftx X) = _
    unfold idx
    rw [ixOf_cd (h k List.mem_cons_self), idx_ftx fun j hj => h j (List.mem_cons_of_mem _ hj)]
theorem txl_ftx {X : List Nat} (h : F4 X) {L : Lg} : Txl (ixOf LT) L (ftx X) ↔ L X := by
  unfold Txl
  rw [idx_ftx h]
  exact ⟨fun ⟨v, e, hv⟩ => by cases e; exact hv, fun hv => ⟨X, rfl, hv⟩⟩
theorem ftx_at {X : List Nat} {i c : Nat} (hX : F4 X) (h : (ftx X)[i]? = some c) : ∃ k, k < 4 ∧ c = cd k ∧ X[i]? = some k := by
  unfold ftx at h
  rw [List.getElem?_map] at h
  cases e : X[i]? with
  | none => rw [e] at h; cases h
  | some k =>
    rw [e] at h
    cases h
    exact ⟨k, hX k (List.mem_of_getElem? e), rfl, rfl⟩
theorem rn_len {T : Tbl} {X : List Nat} {i k : Nat} {o : Option Nat} {s : Nat} (hk : X[i]? = some k) (h : rn T o (X.take i) = some s) : rn T o (X.take (i + 1)) = nx T s k := by
  rw [List.take_succ, hk]
  exact rn_snoc h
theorem bsfn_at {k : Nat} (h : k < 4) : atI (Str.ofString "bsfn").cps.toList (k : Int) = some (cd (sw k)) := by
  match k, h with
  | 0, _ => decide +kernel
  | 1, _ => decide +kernel
  | 2, _ => decide +kernel
  | 3, _ => decide +kernel
section
variable {P : Program} {w : World} {K : PySem.W.Frag} {mg : Str → Option Value} {base : Heap} {f C : Addr} {fd : FuncData}
def spSwf : Sp := fun vs H Q _ => ∃ X : List Nat, vs = [.str (S (ftx X))] ∧ F4 X ∧ X.length ≤ 1000 ∧ ∀ H', Same H H' → Q (.str (S (ftx (X.map sw)))) H'
theorem ok_swapped_fates (F : FnP K "_law_swapped_fates" s_swapped_fates f fd) : FnOk P w K mg base CX0 1 f fd P_swapped_fates spSwf := by
  refine F.ok sc_swapped_fates (fun vs H Q E h => ?_) (fun cdv A outer s H vs Q E hr h => ?_)
  · obtain ⟨X, rfl, _⟩ := h
    rfl
  · obtain ⟨X, rfl, hX, lX, q⟩ := h
    refine ⟨_, PSs.nox (pss_one (ps_ret (pe_join pe_str (pe_lc (own := [("_law_fate", 1)]) (g := (gName 1)) (tt := tYes) (by rfl) sc_swapped_fates.nd (pi_str (pv 0)) (blkOk_by (own := [("_law_fate", 1)]) (N := N_swapped_fates) (sc := defScope s_swapped_fates) (by decide +kernel)) (fun _ _ _ _ _ => (pg_name (i := 1) sc_swapped_fates.nd rfl (by first | exact .inl rfl | exact .inr rfl))) (fun _ _ _ _ _ => pts_nil) (fun _ _ _ _ _ => (pe_ix ix_str pe_str (pe_bmK K rfl PySem.F.plainAttrs_str PySem.F.slot_str_index PySem.F.type_str_index mt_sindex pe_str (pa_cons (pv 1) pa_nil)) (fun _ _ => rfl))))))), ?_⟩
    refine ⟨⟨_, rfl⟩, ?_⟩
    walk_at "go"
    intro D nD
    refine lc_gen (n := (ftx X).length) (fun i J1 => Same H J1 ∧ J1 D = some (.lst ((X.take i).map fun k => V.str (S [cd (sw k)])))) ⟨same_new nD, upd_same⟩ ?_ ?_ ?_ ?_
    · rintro i J hi _
      show i < (S (ftx X)).cps.size
      simpa using hi
    · rintro J _
      show (S (ftx X)).cps.size ≤ (ftx X).length
      simp
    · rintro i J x J2 hi ⟨s1, eD⟩ ⟨rfl, c, ec, rfl⟩
      have ec : (ftx X)[i]? = some c := by simpa using ec
      obtain ⟨k, hk, rfl, ek⟩ := ftx_at hX ec
      obtain ⟨rest, hid⟩ := idx_cd hk
      have hi' : i < X.length := by rw [ftx_len] at hi; exact hi
      walk_at "go"
      refine ⟨_, _, k, rest, rfl, rfl, hid, ?_⟩
      refine ⟨_, _, _, rfl, rfl, by decide +kernel, bsfn_at hk, ?_⟩
      refine ⟨_, eD, by rw [List.length_map, List.length_take]; exact szlt (by omega), Z.Same.mut s1 nD, ?_⟩
      rw [upd_same, List.take_succ, ek, List.map_append]
      rfl
    rintro J ⟨s1, eD⟩
    rw [ftx_len, List.take_length] at eD
    walk_at "go"
    refine ⟨S [], D, X.map fun k => S [cd (sw k)], rfl, rfl, .inl (SqL.of (by rw [List.map_map]; exact eD)), ?_, ?_⟩
    · rw [List.map_map]
      have e : (X.map ((fun x : Str => x.length) ∘ fun k => S [cd (sw k)])) = X.map fun _ => 1 := List.map_congr_left fun c _ => S_len _
      rw [e, sum_one, List.length_map, S_len]
      simp
      omega
    rw [show (X.map fun k => S [cd (sw k)]) = ((ftx (X.map sw)).map fun c => [c]).map S by unfold ftx; rw [List.map_map, List.map_map, List.map_map]; rfl, SX.join_S, join_one]
    exact q _ s1
def spAlw (K : PySem.W.Frag) : Sp := fun vs H Q _ => ∃ (U : Addr) (zu : List (Addr × List (Option Nat))) (X : List Nat), vs = [.ref U, .str (S (ftx X))] ∧ TbR H U zu ∧ Wf (tb zu) 4 ∧ zu.length ≤ 100 ∧ F4 X ∧ X.length ≤ 1000 ∧ ∀ b : Bool, (b = true ↔ ∃ t, rn (tb zu) (st (tb zu)) X = some t) → Q (.bl b) H
theorem ok_allows (F : FnP K "_law_allows" s_allows f fd) (m_len : mg "len" = none) : FnOk P w K mg base CX0 1 f fd P_allows (spAlw K) := by
  refine F.ok sc_allows (fun vs H Q E h => ?_) (fun cdv A outer s H vs Q E hr h => ?_)
  · obtain ⟨U, zu, X, rfl, _⟩ := h
    rfl
  · obtain ⟨U, zu, X, rfl, tr, wf, lz, hX, lX, q⟩ := h
    refine ⟨_, PSs.nox (pss_cons (ps_if (pt_cmpR op_eq (pe_callB call_len_seq (by rfl) m_len PySem.boot_len (pa_cons (pv 0) pa_nil)) pe_int (nomark _)) (pss_one (ps_ret pe_bl)) pss_nil)
      (pss_cons (ps_set (i := 2) sc_allows.nd rfl (by first | exact .inl rfl | exact .inr rfl) pe_int)
      (pss_cons (ps_for PassesOwn.never rfl (pi_str (pv 1)) (pg_name (i := 3) sc_allows.nd rfl (by first | exact .inl rfl | exact .inr rfl))
        (pss_cons (ps_set (i := 2) sc_allows.nd rfl (by first | exact .inl rfl | exact .inr rfl) (pe_ix ix_list (pe_ix ix_list (pv 0) (pv 2) (fun _ _ => rfl)) (pe_bm PySem.F.plainAttrs_str PySem.F.slot_str_index PySem.F.type_str_index mt_sindex pe_str (pa_cons (pv 3) pa_nil)) (fun _ _ => rfl)))
      (pss_one (ps_if (pt_cmpR op_isN (pv 2) pe_non (nomark _)) (pss_one (ps_ret pe_bl)) pss_nil))))
      (pss_one (ps_ret pe_bl))))), ?_⟩
    walk_at "go"
    refine ⟨U, _, rfl, .inl (SqL.of tr.sq), ?_⟩
    rw [List.length_map]
    have lT : (tb zu).length = zu.length := List.length_map ..
    walk_at "go"
    by_cases c0 : zu.length = 0
    · have e0 : st (tb zu) = none := if_pos (by rw [lT]; exact c0)
      refine ite2 (fun _ => ?_) (fun e => absurd (decide_eq_true (show V.int (zu.length : Int) = V.int 0 by rw [c0]; rfl)) e)
      walk_at "go"
      refine q false ⟨fun e => (by cases e), fun ⟨t, e⟩ => ?_⟩
      rw [e0, rn_none] at e
      cases e
    have e0 : st (tb zu) = some 0 := if_neg (by rw [lT]; exact c0)
    refine ite2 (fun e => absurd (of_decide_eq_true e) (fun z => c0 (by injection z with z; omega))) (fun _ => ?_)
    rw [e0] at q
    walk_at "go"
    refine for_gen (n := (ftx X).length) (fun i σ J => J = H ∧ ∃ (s : Nat) (v3 : Option V), s < zu.length ∧ rn (tb zu) (some 0) (X.take i) = some s ∧ σ = [some (.ref U), some (.str (S (ftx X))), some (.int (s : Int)), v3]) ⟨rfl, 0, none, by omega, rfl, rfl⟩ ?_ ?_ ?_ ?_
    · rintro i σ J hi _
      show i < (S (ftx X)).cps.size
      simpa using hi
    · rintro σ J _
      show (S (ftx X)).cps.size ≤ (ftx X).length
      simp
    · rintro i σ J x J2 hi ⟨rfl, s, v3, hs, er, rfl⟩ ⟨rfl, c, ec, rfl⟩
      have ec : (ftx X)[i]? = some c := by simpa using ec
      obtain ⟨k, hk, rfl, ek⟩ := ftx_at hX ec
      obtain ⟨rest, hid⟩ := idx_cd hk
      obtain ⟨z, ez, eT⟩ := row_of (T := tb zu) rfl hs
      have hz := tr.at_ z (List.mem_of_getElem? ez)
      have mz : z.2 ∈ tb zu := List.mem_map.mpr ⟨z, List.mem_of_getElem? ez, rfl⟩
      have l4 := wf.row _ mz
      have en : rn (tb zu) (some 0) (X.take (i + 1)) = z.2.getD k none := by
        rw [rn_len ek er]
        unfold nx
        rw [eT]
      walk_at "go"
      refine ⟨U, _, _, _, rfl, rfl, SqL.of tr.sq, at_map ez, ?_⟩
      walk_at "go"
      refine ⟨_, _, k, rest, rfl, rfl, hid, ?_⟩
      refine ⟨z.1, _, _, _, rfl, rfl, SqL.of hz, atI_nat (row_at (by omega)), ?_⟩
      cases eo : z.2.getD k none with
      | none =>
        rw [eo] at en
        walk_at "go"
        refine q false ⟨fun e => (by cases e), fun ⟨t, e⟩ => ?_⟩
        have hi' : i + 1 ≤ X.length := by rw [ftx_len] at hi; exact hi
        have e2 : X = X.take (i + 1) ++ X.drop (i + 1) := (List.take_append_drop ..).symm
        rw [e2, rn_app, en, rn_none] at e
        cases e
      | some e =>
        rw [eo] at en
        walk_at "go"
        have : e < (tb zu).length := by
          refine wf.ent _ mz e ?_
          rw [List.getD_eq_getElem?_getD, List.getElem?_eq_getElem (by omega)] at eo
          exact eo ▸ List.getElem_mem _
        first | exact ⟨e, _, by omega, en, rfl⟩ | exact ⟨_, by omega, en, rfl⟩
    · rintro σ J ⟨rfl, s, v3, hs, er, rfl⟩
      rw [ftx_len, List.take_length] at er
      walk_at "go"
      exact q true ⟨fun _ => ⟨s, er⟩, fun _ => rfl⟩
end
end Z
set_option pp.maxSteps 700
set_option Elab.async false
set_option linter.all false
set_option maxRecDepth 100000
set_option maxHeartbeats 4000000
open SX (S S_inj S_len S_cat)
namespace Z
open Mc
open PySem PySem.Spec PyProof.Rows L2
open C8 (pss_cut tCut)
local macro_rules | `(tactic| walk_at "num") => `(tactic| first | rfl | omega | decide | exact Nat.le_of_lt (small1000 (by simp)) | exact ⟨by omega, by omega⟩ | exact ⟨by omega, by omega, by omega⟩ | exact ⟨by decide, by decide, by decide⟩ | exact Or.inl ⟨by omega, by omega⟩ | exact Or.inr ⟨by omega, by omega⟩)
local macro_rules | `(tactic| walk_at "go") => `(tactic| repeat (first | refine ⟨_, rfl, ?_⟩ | refine ⟨_, _, rfl, rfl, ?_⟩ | refine ⟨_, _, rfl, ?_⟩ | (refine ⟨_, _, rfl, rfl, ?_, ?_⟩; focus walk_at "num") | refine Or.inl ⟨_, rfl, ?_⟩ | refine ⟨_, _, _, _, rfl, rfl, (by assumption), (by rfl), ?_⟩ | refine ⟨_, _, _, _, _, rfl, (by assumption), (by assumption), (by assumption), (by rfl), ?_⟩ | refine ⟨rfl, ?_⟩ | (refine And.intro ?_ ?_; focus walk_at "num")))
abbrev s_every_text : Stmt := topS 82
abbrev N_every_text : List Str := ["_law_own_rounds", "_law_found", "_law_lately", "_law_turn", "_law_longer", "_law_text", "_law_fate"]
abbrev P_every_text : List Str := ["_law_own_rounds"]
theorem sc_every_text : FnScope N_every_text P_every_text (defScope s_every_text) := ⟨rfl, rfl, rfl, by decide +kernel, rfl, by decide +kernel, by decide +kernel⟩
abbrev s_drawn_text : Stmt := topS 79
abbrev N_drawn_text : List Str := ["_law_rows", "_law_own_rounds", "_law_draws_here", "_law_place", "_law_state", "_law_text", "_law_turn", "_law_at", "_law_ways"]
abbrev P_drawn_text : List Str := ["_law_rows", "_law_own_rounds", "_law_draws_here", "_law_place"]
theorem sc_drawn_text : FnScope N_drawn_text P_drawn_text (defScope s_drawn_text) := ⟨rfl, rfl, rfl, by decide +kernel, rfl, by decide +kernel, by decide +kernel⟩
abbrev tv (X : List Nat) : V := .str (S (ftx X))
def TxL (n : Nat) (fs : List (List Nat)) : Prop := ∀ X ∈ fs, F4 X ∧ X.length ≤ n
theorem TxL.app {n : Nat} {a b : List (List Nat)} (h : TxL n a) (k : TxL n b) : TxL n (a ++ b) := fun X hX => (List.mem_append.mp hX).elim (h X) (k X)
theorem TxL.le {n m : Nat} {a : List (List Nat)} (e : n ≤ m) (h : TxL n a) : TxL m a := fun X hX => ⟨(h X hX).1, Nat.le_trans (h X hX).2 e⟩
theorem txl_one : TxL 0 [[]] := fun X hX => by
  rw [List.mem_singleton.mp hX]
  exact ⟨fun k h => (by cases h), Nat.le_refl _⟩
theorem bf_at {j : Nat} {c : Nat} (h : (LT)[j]? = some c) : ∃ k, k < 4 ∧ c = cd k := by
  match j, h with
  | 0, h => cases h; exact ⟨0, by decide, rfl⟩
  | 1, h => cases h; exact ⟨1, by decide, rfl⟩
  | 2, h => cases h; exact ⟨2, by decide, rfl⟩
  | 3, h => cases h; exact ⟨3, by decide, rfl⟩
theorem bf_ix {k : Nat} (h : k < 4) : atI (Str.ofString "bfsn").cps.toList (k : Int) = some (cd k) := by
  match k, h with
  | 0, _ => decide +kernel
  | 1, _ => decide +kernel
  | 2, _ => decide +kernel
  | 3, _ => decide +kernel
section
variable {P : Program} {w : World} {K : PySem.W.Frag} {mg : Str → Option Value} {base : Heap} {f C : Addr} {fd : FuncData}
def spEvt : Sp := fun vs H Q _ => vs = [.int 3] ∧ ∀ (F : Addr) (fs : List (List Nat)) H', Same H H' → H F = none → H' F = some (.lst (fs.map tv)) → TxL 3 fs → fs.length ≤ 200 → Q (.ref F) H'
theorem ok_every_text (F : FnP K "_law_every_text" s_every_text f fd) (m_list : mg "list" = none) (m_range : mg "range" = none) : FnOk P w K mg base CX0 1 f fd P_every_text spEvt := by
  refine F.ok sc_every_text (fun vs H Q E h => ?_) (fun cdv A outer s H vs Q E hr h => ?_)
  · obtain ⟨rfl, _⟩ := h
    rfl
  · obtain ⟨rfl, q⟩ := h
    refine ⟨_, PSs.nox (pss_cons (ps_set (i := 1) sc_every_text.nd rfl (by first | exact .inl rfl | exact .inr rfl) (pe_lst (pa_cons pe_str pa_nil)))
      (pss_cons (ps_set (i := 2) sc_every_text.nd rfl (by first | exact .inl rfl | exact .inr rfl) (pe_lst (pa_cons pe_str pa_nil)))
      (pss_cons (ps_for PassesOwn.never rfl (pi_range1 (by rfl) m_range (pa_cons (pv 0) pa_nil)) (pg_name (i := 3) sc_every_text.nd rfl (by first | exact .inl rfl | exact .inr rfl))
        (pss_cons (ps_set (i := 4) sc_every_text.nd rfl (by first | exact .inl rfl | exact .inr rfl) (pe_lst pa_nil))
      (pss_cons (ps_for PassesOwn.never rfl (pi_list (pv 2)) (pg_name (i := 5) sc_every_text.nd rfl (by first | exact .inl rfl | exact .inr rfl))
        (pss_one (ps_for PassesOwn.never rfl (pi_str pe_str) (pg_name (i := 6) sc_every_text.nd rfl (by first | exact .inl rfl | exact .inr rfl))
        (pss_one (ps_expr (pe_bm PySem.F.plainAttrs_list PySem.F.slot_list_append PySem.F.type_list_append mt_append (pv 4) (pa_cons (pe_op op_add_str (pv 5) (pv 6)) pa_nil)))))))
      (pss_cons (ps_set (i := 2) sc_every_text.nd rfl (by first | exact .inl rfl | exact .inr rfl) (pe_callTy call_list_of (by rfl) m_list (by decide +kernel) (pa_cons (pv 4) pa_nil)))
      (pss_one (ps_set (i := 1) sc_every_text.nd rfl (by first | exact .inl rfl | exact .inr rfl) (pe_op op_cat (pv 1) (pv 2))))))))
      (pss_one (ps_ret (pv 1)))))), ?_⟩
    walk_at "go"
    intro F nF
    generalize eH_ : upd H F _ = J1
    have s1 : Same H J1 := by rw [← eH_]; exact same_new nF
    have eF : J1 F = some (.lst [tv []]) := by rw [← eH_]; exact upd_same
    clear eH_
    have nFH := nF
    walk_at "go"
    intro B nB
    generalize eH_ : upd J1 B _ = J2
    have s2 : Same J1 J2 := by rw [← eH_]; exact same_new nB
    have eB : J2 B = some (.lst [tv []]) := by rw [← eH_]; exact upd_same
    clear eH_
    have eF := s2 _ _ eF
    have s12 := s1.trans s2
    walk_at "go"
    refine for_gen (n := 3) (fun k σ J => Same H J ∧ ∃ (F B : Addr) (fs ls : List (List Nat)) (v3 v4 v5 v6 : Option V), H F = none ∧ J F = some (.lst (fs.map tv)) ∧ J B = some (.lst (ls.map tv)) ∧ TxL k fs ∧ TxL k ls ∧ fs.length ≤ 1 + 64 * k ∧ ls.length = 4 ^ k ∧ σ = [some (.int 3), some (.ref F), some (.ref B), v3, v4, v5, v6]) ⟨s12, F, B, [[]], [[]], none, none, none, none, nF, eF, eB, txl_one, txl_one, by decide, rfl, rfl⟩ ?_ ?_ ?_ ?_
    · intro i σ J hi _
      show i < 3
      exact hi
    · intro σ J _
      exact Nat.le_refl _
    · rintro k σ J x J1 hk ⟨s0, F, B, fs, ls, v3, v4, v5, v6, nF, eF, eB, tf, tl, lf, ll, rfl⟩ ⟨rfl, rfl⟩
      have l16 : ls.length ≤ 16 := by
        rw [ll]
        exact Nat.pow_le_pow_right (by decide) (show k ≤ 2 by omega)
      walk_at "go"
      intro G nG
      generalize eH_ : upd J1 G _ = J2
      have s2 : Same J1 J2 := by rw [← eH_]; exact same_new nG
      have eG : J2 G = some (.lst []) := by rw [← eH_]; exact upd_same
      clear eH_
      have nGH := none_of s0 nG
      walk_at "go"
      refine ⟨⟨_, SqL.of (s2 _ _ eB)⟩, ?_⟩
      refine for_gen (n := ls.length) (fun i σ J => Same J1 J ∧ ∃ (gs : List (List Nat)) (v5 v6 : Option V), J G = some (.lst (gs.map tv)) ∧ TxL (k + 1) gs ∧ gs.length = 4 * i ∧ σ = [some (.int 3), some (.ref F), some (.ref B), some (.int (0 + (k : Int))), some (.ref G), v5, v6]) ⟨s2, [], v5, v6, eG, (fun X hX => by cases hX), rfl, rfl⟩ ?_ ?_ ?_ ?_
      · rintro i σ J hi ⟨s3, _⟩
        exact ⟨_, tv ls[i], SqL.of (s3 _ _ eB), by rw [List.getElem?_map, List.getElem?_eq_getElem hi]; rfl⟩
      · rintro σ J ⟨s3, _⟩
        exact ⟨_, SqL.of (s3 _ _ eB), by rw [List.length_map]; exact Nat.le_refl _⟩
      · clear v5 v6 eG s2
        rintro i σ J x J3 hi ⟨s3, gs, v5, v6, eG, tg, lg, rfl⟩ ⟨rfl, ex⟩
        have ex := ex _ (SqL.of (s3 _ _ eB))
        rw [List.getElem?_map, List.getElem?_eq_getElem hi] at ex
        cases ex
        obtain ⟨fX, lX⟩ := tl _ (List.getElem_mem hi)
        generalize ls[i] = X at fX lX
        walk_at "go"
        refine for_gen (n := 4) (fun j σ J => Same J1 J ∧ ∃ (gs : List (List Nat)) (v6 : Option V), J G = some (.lst (gs.map tv)) ∧ TxL (k + 1) gs ∧ gs.length = 4 * i + j ∧ σ = [some (.int 3), some (.ref F), some (.ref B), some (.int (0 + (k : Int))), some (.ref G), some (tv X), v6]) ⟨s3, gs, v6, eG, tg, lg, rfl⟩ ?_ ?_ ?_ ?_
        · rintro j σ J hj _
          exact hj
        · rintro σ J _
          exact Nat.le_refl _
        · clear gs v6 eG tg lg s3
          rintro j σ J x J4 hj ⟨s3, gs, v6, eG, tg, lg, rfl⟩ ⟨rfl, c, ec, rfl⟩
          rw [bfsn] at ec
          obtain ⟨m, hm, rfl⟩ := bf_at (j := j) (c := c) (by simpa using ec)
          walk_at "go"
          refine ⟨.inl ⟨rfl, _, SqL.of eG⟩, ?_⟩
          walk_at "go"
          refine ⟨?_, ?_⟩
          · rw [S_len, ftx_len]
            show X.length + 1 ≤ _
            exact szl (by omega)
          rw [ftx_snoc]
          refine ⟨G, _, _, rfl, rfl, eG, szl (by rw [List.length_map]; show gs.length + 1 ≤ 2000; omega), ?_⟩
          refine ⟨Z.Same.mut s3 nG, gs ++ [X ++ [m]], _, by rw [upd_same, List.map_append]; rfl, tg.app fun Y hY => ?_, by rw [List.length_append]; show gs.length + 1 = _; omega, rfl⟩
          rw [List.mem_singleton.mp hY]
          refine ⟨fun y hy => ?_, by rw [List.length_append]; show X.length + 1 ≤ _; omega⟩
          rcases List.mem_append.mp hy with hy | hy
          · exact fX y hy
          · rw [List.mem_singleton.mp hy]
            exact hm
        · rintro σ J ⟨s4, gs, v6, eG, tg, lg, rfl⟩
          exact ⟨s4, gs, _, _, eG, tg, by omega, rfl⟩
      · rintro σ J ⟨s3, gs, v5, v6, eG, tg, lg, rfl⟩
        walk_at "go"
        refine ⟨G, _, rfl, .inl (SqL.of eG), fun B' nB' => ?_⟩
        have s4 := same_new (o := .lst (gs.map tv)) nB'
        have eB' : (upd J B' (.lst (gs.map tv))) B' = some (.lst (gs.map tv)) := upd_same
        generalize upd J B' (.lst (gs.map tv)) = J5 at s4 eB'
        have s15 := s3.trans s4
        walk_at "go"
        refine ⟨F, B', _, _, rfl, rfl, s15 _ _ eF, eB', szl (by rw [List.length_map, List.length_map]; omega), fun F' nF' => ?_⟩
        have s6 := same_new (o := .lst (fs.map tv ++ gs.map tv)) nF'
        have s16 := s15.trans s6
        refine ⟨s0.trans s16, F', B', fs ++ gs, gs, _, _, _, _, none_of (s0.trans s15) nF', by rw [upd_same, List.map_append], s6 _ _ eB', (tf.le (Nat.le_succ k)).app tg, tg, by rw [List.length_append]; omega, ?_, rfl⟩
        rw [lg, ll, Nat.pow_succ]
        omega
    · rintro σ J ⟨s0, F, B, fs, ls, v3, v4, v5, v6, nF, eF, eB, tf, tl, lf, ll, rfl⟩
      walk_at "go"
      exact q F fs J s0 nF eF tf (by omega)
def Nxt (T : Tbl) : Prop := ∀ w s, rn T (some 0) w = some s → ∃ k e, nx T s k = some e
def spDwt (K : PySem.W.Frag) : Sp := fun vs H Q _ => ∃ (T a p : Addr) (zt : List (Addr × List (Option Nat))) (n m : Nat) (ds : List Int), vs = [.ref T, .int (n : Int), .ref a, .ref p] ∧ TbR H T zt ∧ Wf (tb zt) 4 ∧ 0 < zt.length ∧ zt.length ≤ 100 ∧ Nxt (tb zt) ∧ n ≤ 100 ∧ Tk K a p ds m H H ∧ T ≠ p ∧ (∀ z ∈ zt, z.1 ≠ p) ∧ ∀ (X : List Nat) H', Tk K a p ds m H H' → F4 X → X.length ≤ n → Q (.str (S (ftx X))) H'
theorem ok_drawn_text (F : FnP K "_law_drawn_text" s_drawn_text f fd) (m_range : mg "range" = none) (m_int : mg "int" = none) (m_len : mg "len" = none) (c_take : Cal P w K mg base 1 "_law_take" (spTake K)) : FnOk P w K mg base CX0 2 f fd P_drawn_text (spDwt K) := by
  refine F.ok sc_drawn_text (fun vs H Q E h => ?_) (fun cdv A outer s H vs Q E hr h => ?_)
  · obtain ⟨T, a, p, zt, n, m, ds, rfl, _⟩ := h
    rfl
  · obtain ⟨T, a, p, zt, n, mm, ds, rfl, tr, wf, z0, lz, nxt, ln, hT0, Tp, zp, q⟩ := h
    refine ⟨_, PSs.nox (pss_cons (ps_set (i := 4) sc_drawn_text.nd rfl (by first | exact .inl rfl | exact .inr rfl) pe_int)
      (pss_cons (ps_set (i := 5) sc_drawn_text.nd rfl (by first | exact .inl rfl | exact .inr rfl) pe_str)
      (pss_cons (ps_for PassesOwn.never rfl (pi_range1 (by rfl) m_range (pa_cons (pv 1) pa_nil)) (pg_name (i := 6) sc_drawn_text.nd rfl (by first | exact .inl rfl | exact .inr rfl))
        (pss_cons (ps_setLc (i := 8) (own := [("_law_at", 7)]) (g := (gName 7)) (by rfl) sc_drawn_text.nd rfl rfl (sw_true rfl rfl rfl (by decide +kernel)) (pi_range1 (by rfl) m_range (pa_cons pe_int pa_nil)) (blkOk_by (own := [("_law_at", 7)]) (N := N_drawn_text) (sc := defScope s_drawn_text) (by decide +kernel)) (fun _ _ _ _ _ => (pg_name (i := 7) sc_drawn_text.nd rfl (by first | exact .inl rfl | exact .inr rfl))) (fun _ _ _ _ _ => (pts_one (pt_cmpR op_notN (pe_ix (ix_list_K (K := K) rfl) (pe_ix (ix_list_K (K := K) rfl) (pv 0) (pv 4) (fun _ _ => rfl)) (pv 7) (fun _ _ => rfl)) pe_non (nomark _)))) (fun _ _ _ _ _ => (pv 7)))
      (pss_cons (ps_set (i := 7) sc_drawn_text.nd rfl (by first | exact .inl rfl | exact .inr rfl) (pe_ix ix_list (pv 8) (pe_op op_mod (pe_callTy call_int1 (by rfl) m_int (by decide +kernel) (pa_cons (pe_cl c_take hr (by decide) (by rfl) (pa_cons (pv 2) (pa_cons (pv 3) pa_nil))) pa_nil)) (pe_callB call_len_seq (by rfl) m_len PySem.boot_len (pa_cons (pv 8) pa_nil))) (fun _ _ => rfl)))
      (pss_cons (ps_set (i := 5) sc_drawn_text.nd rfl (by first | exact .inl rfl | exact .inr rfl) (pe_op op_add_str (pv 5) (pe_ix ix_str pe_str (pv 7) (fun _ _ => rfl))))
      (pss_one (ps_set (i := 4) sc_drawn_text.nd rfl (by first | exact .inl rfl | exact .inr rfl) (pe_ix ix_list (pe_ix ix_list (pv 0) (pv 4) (fun _ _ => rfl)) (pv 7) (fun _ _ => rfl))))))))
      (pss_one (ps_ret (pv 5)))))), ?_⟩
    have lT : (tb zt).length = zt.length := List.length_map ..
    walk_at "go"
    refine for_gen (n := n) (fun i σ J => Tk K a p ds mm H J ∧ ∃ (X : List Nat) (s : Nat) (v6 v7 v8 : Option V), X.length = i ∧ F4 X ∧ s < zt.length ∧ rn (tb zt) (some 0) X = some s ∧ σ = [some (.ref T), some (.int (n : Int)), some (.ref a), some (.ref p), some (.int (s : Int)), some (tv X), v6, v7, v8]) ⟨hT0, [], 0, none, none, none, rfl, fun k h => (by cases h), z0, rfl, rfl⟩ ?_ ?_ ?_ ?_
    · intro i σ J hi _
      show i < ((n : Int)).toNat
      omega
    · intro σ J _
      show ((n : Int)).toNat ≤ n
      omega
    · rintro i σ J x J1 hi ⟨hT1, X, s, v6, v7, v8, lX, fX, hs, er, rfl⟩ ⟨rfl, rfl⟩
      have tr1 : TbR J1 T zt := ⟨hT1.up tr.sq Tp, fun z m => hT1.up (tr.at_ z m) (zp z m)⟩
      obtain ⟨z, ez, eT⟩ := row_of (T := tb zt) rfl hs
      have hz := tr1.at_ z (List.mem_of_getElem? ez)
      have mz : z.2 ∈ tb zt := List.mem_map.mpr ⟨z, List.mem_of_getElem? ez, rfl⟩
      have l4 := wf.row _ mz
      have enx : ∀ k, nx (tb zt) s k = z.2.getD k none := fun k => by
        unfold nx
        rw [eT]
      obtain ⟨k0, e0, h0⟩ := nxt X s er
      obtain ⟨el, kl, _⟩ := nx_lt wf h0
      walk_at "go"
      intro B nB
      refine lc_flt (n := 4) (fun i => .int ((i : Nat) : Int)) (fun k => (z.2.getD k none).isSome) (fun i => .int ((i : Nat) : Int)) (by omega) nB (fun i J3 hi _ => ?_) (fun J3 _ => ?_) (fun i J3 y J4 hi _ z => ?_) (fun i => rfl) (fun k J3 Q1 hk s3 q1 => ?_) (fun i J3 Q1 _ _ s3 q1 => ?_) (fun J3 s3 eB => ?_)
      · show i < 4
        exact hi
      · exact Nat.le_refl _
      · obtain ⟨rfl, rfl⟩ := z
        exact ⟨Same.refl _, by rw [Int.zero_add]⟩
      · walk_at "go"
        refine ⟨T, _, _, _, rfl, rfl, SqL.of (s3 _ _ tr1.sq), at_map ez, ?_⟩
        walk_at "go"
        refine ⟨z.1, _, _, _, rfl, rfl, SqL.of (s3 _ _ hz), atI_nat (row_at (by omega)), ?_⟩
        cases eo : z.2.getD k none with
        | none =>
          rw [eo] at q1
          walk_at "go"
          first | exact q1 _ (Same.refl _) | exact ⟨_, rfl, q1 _ (Same.refl _)⟩
        | some e =>
          rw [eo] at q1
          walk_at "go"
          first | exact q1 _ (Same.refl _) | exact ⟨_, rfl, q1 _ (Same.refl _)⟩
      · walk_at "go"
        exact q1 _ (Same.refl _)
      rw [flt_gsq] at eB
      have h0in : k0 ∈ (List.range 4).filter fun k => (z.2.getD k none).isSome := List.mem_filter.mpr ⟨List.mem_range.mpr kl, by rw [← enx, h0]; rfl⟩
      have hin : ∀ k ∈ (List.range 4).filter fun k => (z.2.getD k none).isSome, k < 4 ∧ (z.2.getD k none).isSome = true := fun k hk => ⟨List.mem_range.mp (List.mem_filter.mp hk).1, (List.mem_filter.mp hk).2⟩
      have l4w : ((List.range 4).filter fun k => (z.2.getD k none).isSome).length ≤ 4 := Nat.le_trans (List.length_filter_le ..) (by decide)
      generalize ((List.range 4).filter fun k => (z.2.getD k none).isSome) = ins at eB h0in hin l4w
      have hpos : 0 < ins.length := List.length_pos_of_mem h0in
      have hT3 := hT1.more s3
      obtain ⟨m3, em3⟩ := hT3.pl
      have Bp : B ≠ p := by
        obtain ⟨m1, em1⟩ := hT1.pl
        exact (ne_of_none em1 nB).symm
      walk_at "go"
      refine ⟨a, p, mm, m3, ds, rfl, SqL.of hT3.hA, hT3.hd, em3, hT3.ne, fun r5 r50 r51 => ?_⟩
      obtain ⟨hT4, sb4⟩ := hT3.next em3
      have eB4 := sb4 _ _ Bp eB
      generalize upd J3 p (.lst [.int ((m3 + 1 : Nat) : Int)]) = J4 at hT4 sb4 eB4
      walk_at "go"
      refine ⟨B, _, rfl, .inl (SqL.of eB4), ?_⟩
      rw [show (gsq ins).length = ins.length from List.length_map ..]
      have m1 : 0 ≤ r5 % (ins.length : Int) := Int.emod_nonneg _ (by omega)
      have m2 : r5 % (ins.length : Int) < ins.length := Int.emod_lt_of_pos _ (by omega)
      obtain ⟨j, ej⟩ := Int.eq_ofNat_of_zero_le m1
      rw [ej] at m2
      have hj : j < ins.length := by omega
      obtain ⟨k, est⟩ : ∃ st, ins[j]? = some st := ⟨_, List.getElem?_eq_getElem hj⟩
      obtain ⟨hk, hk2⟩ := hin k (List.mem_of_getElem? est)
      have atj : atI (gsq ins) (r5 % (ins.length : Int)) = some (.int (k : Int)) := by
        rw [ej]
        exact atI_nat (by rw [gsq_get, est]; rfl)
      obtain ⟨e, he⟩ := Option.isSome_iff_exists.mp hk2
      have hnx : nx (tb zt) s k = some e := by rw [enx, he]
      walk_at "go"
      refine ⟨B, _, _, _, rfl, rfl, SqL.of eB4, atj, ?_⟩
      walk_at "go"
      refine ⟨_, _, _, rfl, rfl, by decide +kernel, bf_ix hk, ?_⟩
      refine ⟨_, _, rfl, rfl, by rw [S_len, ftx_len]; show X.length + 1 ≤ _; exact szl (by omega), ?_⟩
      rw [ftx_snoc]
      have tr4 : TbR J4 T zt := ⟨hT4.up tr.sq Tp, fun z m => hT4.up (tr.at_ z m) (zp z m)⟩
      have hz4 := tr4.at_ z (List.mem_of_getElem? ez)
      walk_at "go"
      refine ⟨T, _, _, _, rfl, rfl, SqL.of tr4.sq, at_map ez, ?_⟩
      walk_at "go"
      refine ⟨z.1, _, _, _, rfl, rfl, SqL.of hz4, atI_nat (row_at (by omega)), ?_⟩
      rw [he]
      obtain ⟨el2, _, _⟩ := nx_lt wf hnx
      refine ⟨hT4, X ++ [k], e, _, _, _, by rw [List.length_append, lX]; rfl, fun y hy => ?_, by omega, by rw [rn_snoc er]; exact hnx, rfl⟩
      rcases List.mem_append.mp hy with hy | hy
      · exact fX y hy
      · rw [List.mem_singleton.mp hy]
        exact hk
    · rintro σ J ⟨hT1, X, s, v6, v7, v8, lX, fX, hs, er, rfl⟩
      walk_at "go"
      exact q X J hT1 fX (by omega)
end
end Z
set_option Elab.async false
set_option linter.all false
set_option maxRecDepth 100000
set_option maxHeartbeats 4000000
namespace Z
open PySem PySem.Spec PyProof.Rows L2
/-! ### C(e, ..), the rest of the parameters by their defaults, what is raised at the slots -/
structure MakDX (P : Program) (w : World) (K : PySem.W.Frag) (mg : Str → Option Value) (base : Heap) (k : Nat) (x : Str) (C : Addr) (dvs : List V) (sp : Sp) : Prop where
  ex : ∃ (f : Addr) (fd : FuncData) (ps : List Str) (ds : List Value), Mk K C f ∧ FnOk P w K mg base (L2N.CX P w) k f fd ps sp ∧ mg x = some (.ref C) ∧ Vals dvs ds ∧ Binds K fd ps ds
def tMkDW (C : Addr) (dvs : List V) (sp : Sp) (E : L2.St → XK) (t : TA) : TE := fun σ H Q => t σ H fun vs H1 => ∀ n dx, H1 n = none → H1 dx = none → dx ≠ n → sp (.ref n :: (vs ++ dvs)) (upd (upd H1 dx (.own n)) n (.ins C dx [])) (fun v H2 => v = .non ∧ Q (.ref n) H2) (E σ)
section
variable {X : Cx} {k j : Nat} {x : Str} {C : Addr} {dvs : List V} {sp : Sp} {p pos : Pos} {e : Expr} {es : List Expr} {t : TA} {E : L2.St → XK}
theorem pe_mkDE (c : MakDX X.prog X.w X.K X.mg X.base k x C dvs sp) (hx : ∀ σ, PassesAt (L2N.CX X.prog X.w) X σ (E σ)) (hr : Room j X.A) (hk : k + 1 ≤ j) (hg : Gl X x) (ha : PA X (e :: es) t) (hdb : (x == ("__debug__" : Str)) = false := by decide) (he : starEach (e :: es) X.env = (false, eval e X.env) :: starEach es X.env := by rfl) (hpl : (backTo pos (starEach es X.env)).any (·.1) = false := by rfl) :
    PE X (.Call (.Name x p) (e :: es) [] pos) (tMkDW C dvs sp E t) := by
  obtain ⟨f, fd, ps, ds, M, F, hm, rd, b⟩ := c.ex
  constructor
  intro pins s σ H Q I h
  refine wpAny_Call_Name_kw (ld_glob I hg hm ?_ hdb)
  refine PySem.W.callWith_K (h₀ := X.base) I.ok.mod.kin M.kp (thn (ha.run pos pins s σ H _ I h) fun us s1 z => ?_) he hpl
  obtain ⟨vs, H1, I1, rr, q⟩ := z
  refine ⟨I1.kIn, ?_⟩
  obtain ⟨n, hn⟩ : ∃ n, n = s1.heap.objs.size := ⟨_, rfl⟩
  have q1 := q (n + 1) n (I1.hok.fresh (by rw [hn]; exact Nat.le_succ _)) (I1.hok.fresh (by rw [hn]; exact Nat.le_refl _)) (Nat.ne_of_lt (Nat.lt_succ_self _))
  subst hn
  have J := Inv.made (C := C) I1
  have r3 : Vals (V.ref (s1.heap.objs.size + 1) :: (vs ++ dvs)) (Value.ref (s1.heap.objs.size + 1) :: (us ++ ds)) := .cons rfl (rr.append rd)
  have hl : (Value.ref (s1.heap.objs.size + 1) :: us ++ ds).length = ps.length := by
    have e := r3.length
    rw [F.len _ _ _ _ q1] at e
    exact e.symm
  have b3 := b { s1 with heap := (s1.heap.push PySem.W.emptyDict).push (PySem.W.instObj C s1.heap.objs.size) } (Value.ref (s1.heap.objs.size + 1) :: us) J.kIn hl
  have run := F.run _ X.stack _ _ _ _ _ _ _ ((hr.mono hk).make C us []) (J.env0.make C us []) b3 r3 q1
  refine wpAny_call (make_map (f := f) I1.kIn M.makes M.init (beq_iff_eq.mp M.fn) (codeAny_mono run fun r s' hq => ?_))
  have z := back_at (hx σ) J r s' hq
  match r, z with
  | .error e, z => exact z
  | .ok (.ret u), ⟨v, H', J', rv, ev, q3⟩ =>
    subst ev
    exact ⟨rv, V.ref (s1.heap.objs.size + 1), H', J', rfl, q3⟩
end
end Z
set_option pp.maxSteps 700
set_option Elab.async false
set_option linter.all false
set_option maxRecDepth 100000
set_option maxHeartbeats 4000000
open SX (S S_inj S_len S_cat)
namespace Z
open Mc
open PySem PySem.Spec PyProof.Rows L2
open C8 (pss_cut tCut)
local macro_rules | `(tactic| walk_at "num") => `(tactic| first | rfl | omega | decide | exact Nat.le_of_lt (small1000 (by simp)) | exact ⟨by omega, by omega⟩ | exact ⟨by omega, by omega, by omega⟩ | exact ⟨by decide, by decide, by decide⟩ | exact Or.inl ⟨by omega, by omega⟩ | exact Or.inr ⟨by omega, by omega⟩)
local macro_rules | `(tactic| walk_at "go") => `(tactic| repeat (first | refine ⟨_, rfl, ?_⟩ | refine ⟨_, _, rfl, rfl, ?_⟩ | refine ⟨_, _, rfl, ?_⟩ | (refine ⟨_, _, rfl, rfl, ?_, ?_⟩; focus walk_at "num") | refine Or.inl ⟨_, rfl, ?_⟩ | refine ⟨_, _, _, _, rfl, rfl, (by assumption), (by rfl), ?_⟩ | refine ⟨_, _, _, _, _, rfl, (by assumption), (by assumption), (by assumption), (by rfl), ?_⟩ | refine ⟨rfl, ?_⟩ | (refine And.intro ?_ ?_; focus walk_at "num")))
abbrev s_Decider___init__ : Stmt := inClass (topS 61) 0
abbrev N_Decider___init__ : List Str := ["self", "rule", "rounds", "needed"]
abbrev P_Decider___init__ : List Str := ["self", "rule", "rounds"]
theorem sc_Decider___init__ : FnScope N_Decider___init__ P_Decider___init__ (defScope s_Decider___init__) := ⟨rfl, rfl, rfl, by decide +kernel, rfl, by decide +kernel, by decide +kernel⟩
abbrev s_Decider_round_count : Stmt := inClass (topS 61) 1
abbrev N_Decider_round_count : List Str := ["self"]
abbrev P_Decider_round_count : List Str := ["self"]
theorem sc_Decider_round_count : FnScope N_Decider_round_count P_Decider_round_count (defScope s_Decider_round_count) := ⟨rfl, rfl, rfl, by decide +kernel, rfl, by decide +kernel, by decide +kernel⟩
abbrev s_length : Stmt := topS 83
abbrev N_length : List Str := ["_law_rule_here", "_law_own_rounds"]
abbrev P_length : List Str := ["_law_rule_here", "_law_own_rounds"]
theorem sc_length : FnScope N_length P_length (defScope s_length) := ⟨rfl, rfl, rfl, by decide +kernel, rfl, by decide +kernel, by decide +kernel⟩
abbrev s_decider_rounds : Stmt := topS 84
abbrev N_decider_rounds : List Str := ["_law_rule_here"]
abbrev P_decider_rounds : List Str := ["_law_rule_here"]
theorem sc_decider_rounds : FnScope N_decider_rounds P_decider_rounds (defScope s_decider_rounds) := ⟨rfl, rfl, rfl, by decide +kernel, rfl, by decide +kernel, by decide +kernel⟩
abbrev s_same_sizes : Stmt := topS 85
abbrev N_same_sizes : List Str := ["_law_rule_here", "_law_other", "_law_counts", "_law_own_rounds"]
abbrev P_same_sizes : List Str := ["_law_rule_here", "_law_other", "_law_counts"]
theorem sc_same_sizes : FnScope N_same_sizes P_same_sizes (defScope s_same_sizes) := ⟨rfl, rfl, rfl, by decide +kernel, rfl, by decide +kernel, by decide +kernel⟩
def ndd (R : Tbl) : Option Nat := if R.length = 0 then some 0 else need R R.length
def lgt (R : Tbl) (t : Nat) : Option Nat := if R.length = 0 then none else (lng R t 0).map (· + 2)
theorem ndd_le {R : Tbl} {k : Nat} (h : ndd R = some k) : k ≤ R.length := by
  unfold ndd at h
  split at h
  · cases h
    exact Nat.zero_le _
  · unfold need at h
    have := List.mem_range.mp (List.mem_of_find?_eq_some h)
    omega
theorem Sam.ndd {R R' : Tbl} (h : Sam R R') : Z.ndd R = Z.ndd R' := by
  unfold Z.ndd
  rw [h.need, h.len]
theorem Sam.lgt {R R' : Tbl} (h : Sam R R') (t : Nat) : Z.lgt R t = Z.lgt R' t := by
  unfold Z.lgt
  rw [h.lng t, h.len]
theorem rne_eV {o : Option Nat} {H : Hp} {Q : VK} (q : Q (.bl false) H) : rNe (eV o) (eV o) H Q := by
  refine ⟨?_, by rw [decide_eq_true rfl]; exact q⟩
  cases o <;> rfl
section
variable {P : Program} {w : World} {K : PySem.W.Frag} {mg : Str → Option Value} {base : Heap} {f C CM CN CB CD CC : Addr} {fd : FuncData}
/-- a decider for k rounds -/
def DeA (C : Addr) (H : Hp) (n : Addr) (k : Nat) : Prop := ∃ (dx m l : Addr), H n = some (.ins C dx [("kept_rule", .ref m), ("kept_rounds", .int (k : Int)), ("kept_levels", .ref l)])
def spDe0 (C CM CN : Addr) (K : PySem.W.Frag) : Sp := fun vs H Q E => ∃ (n dx m : Addr) (sz : Nat) (L : Lg), vs = [.ref n, .ref m, .non] ∧ H n = some (.ins C dx []) ∧ McL CM K H m LT sz L ∧ sz ≤ 12 ∧ (∀ R, Unf L R → ∀ k, ndd R = some k → ∀ H', SB n H H' → DeA C H' n k → Q .non H') ∧ (∀ R, Unf L R → ndd R = none → ∀ H', Same H H' → E (.ref CN) none H')
theorem ok_decider0 (F : FunD K "__init__" "Decider.__init__" (defArgs s_Decider___init__) (defBody s_Decider___init__) (defScope s_Decider___init__) [] [("rounds", .non)] f fd) (cls : Cls K C) (n_kept_rule : NoAttr K C "kept_rule") (n_kept_rounds : NoAttr K C "kept_rounds") (n_kept_levels : NoAttr K C "kept_levels") (clsM : Cls K CM) (n_rows : NoAttr K CM "rows") (x0_CannotDecide : Exn0 K mg "CannotDecide" CN) (c_check_rounds : CalX P w K mg base 3 "check_rounds" (spCkR9 CB)) (c_rounds_needed : Cal P w K mg base 7 "rounds_needed" (spNed CM K)) (c_passable_levels : Cal P w K mg base 2 "passable_levels" (spPlv K)) (me_unending : Met P w K mg base 6 CM "unending" (spMe UnL CM K)) : FnOk P w K mg base (L2N.CX P w) 8 f fd P_Decider___init__ (spDe0 C CM CN K) := by
  refine F.ok sc_Decider___init__ (fun vs H Q E h => ?_) (fun cdv A outer s H vs Q E hr h => ?_)
  · obtain ⟨n, dx, m, sz, L, rfl, _⟩ := h
    rfl
  · obtain ⟨n, dx, m, sz, L, rfl, hn, hM, lsz, q1, q2⟩ := h
    have tk := takes_fn (P := P) (w := w) (K := K) (mg := mg) (base := base) (N := N_Decider___init__) (qual := "Decider.__init__") (scope := defScope s_Decider___init__) (f := f) (cd := cdv) (A := A) (outer := outer) (s := s) (H := H) (E := E)
    refine ⟨_, (pss_cut (ps_if (pt_cmpR op_notN (pv 2) pe_non (nomark _)) (pss_one (ps_expr (pe_clE c_check_rounds (fun σ => L2N.passAt tk σ) hr (by decide) (by rfl) (pa_cons (pv 2) pa_nil)))) pss_nil)
      (pss_cons (ps_set (i := 3) sc_Decider___init__.nd rfl (by first | exact .inl rfl | exact .inr rfl) (pe_cl c_rounds_needed hr (by decide) (by rfl) (pa_cons (pv 1) pa_nil)))
      (pss_cons (ps_if (PW.pt (pw_or (pt_cmpR op_isN (pv 3) pe_non (nomark _)) (pw_or1 (PW.pt (pw_and (pt_cmpR op_notN (pv 2) pe_non (nomark _)) (pw_and1 (pt_cmpR op_lt (pv 2) (pv 3) (nomark _)))))))) (pss_one (ps_ex0 rfl tk x0_CannotDecide (by rfl))) pss_nil)
      (pss_cons (ps_fld (pv 0) (pe_me0 me_unending (pv 1) hr (by decide)) rfl)
      (pss_cons (ps_fld (pv 0) (pe_ifExp (pt_cmpR op_isN (pv 2) pe_non (nomark _)) (pv 3) (pv 2)) rfl)
      (pss_one (ps_fld (pv 0) (pe_cl c_passable_levels hr (by decide) (by rfl) (pa_cons (pe_fld (pe_fld (pv 0) rfl) rfl) (pa_cons (pe_fld (pv 0) rfl) pa_nil))) rfl))))))), ?_⟩
    obtain ⟨dx0, r0, u0, en0⟩ := hM.ins
    have ndL : LT.Nodup := by decide
    refine ⟨fun σ J => J = H ∧ σ = [some (.ref n), some (.ref m), some .non, none], ?_, ?_⟩
    · walk_at "go"
      rfl
    rintro σ J ⟨rfl, rfl⟩
    walk_at "go"
    refine ⟨m, sz, L, rfl, hM, lsz, fun R hU H1 s1 => ?_⟩
    have q1 := q1 R hU
    have q2 := q2 R hU
    rw [show (if R.length = 0 then some 0 else need R R.length) = ndd R from rfl]
    have hn1 := s1 _ _ hn
    have hM1 := hM.mono s1
    cases c : ndd R with
    | none =>
      have q2 := q2 c H1 s1
      walk_at "go"
      exact q2
    | some k =>
      have qq := q1 k c
      have kle := ndd_le c
      walk_at "go"
      refine ⟨m, dx0, _, rfl, s1 _ _ en0, by rfl, ?_⟩
      refine ⟨m, LT, sz, L, rfl, hM1, ndL, by decide, by decide, by omega, fun n' H2 s2 nn' hM' => ?_⟩
      obtain ⟨dx', r, u, zr, en, hR, hU', lzr⟩ := hM'.un
      obtain rfl := hU.eq hU'
      have lT : (tb zr).length = zr.length := List.length_map ..
      have hn2 := s2 _ _ hn1
      have n'n : n' ≠ n := (ne_of_none hn1 nn').symm
      walk_at "go"
      refine ⟨n, C, dx, _, rfl, hn2, cls, n_kept_rule, by decide, ?_⟩
      walk_at "go"
      refine ⟨n, C, dx, _, rfl, upd_same, cls, n_kept_rounds, (show (1 : Nat) < 1000 by omega), ?_⟩
      have sb : SB n H2 (upd (upd H2 n (.ins C dx [("kept_rule", .ref n')])) n (.ins C dx [("kept_rule", .ref n'), ("kept_rounds", .int (k : Int))])) := SB.upd (SB.upd (Z.Same.sb (Same.refl _)))
      have hR3 : Tb false false K (upd (upd H2 n (.ins C dx [("kept_rule", .ref n')])) n (.ins C dx [("kept_rule", .ref n'), ("kept_rounds", .int (k : Int))])) r zr := ⟨sq_ins sb hn2 hR.sq, fun z m => sq_ins sb hn2 (hR.at_ z m)⟩
      have en3 := sb _ _ n'n en
      have es : upd (upd H2 n (.ins C dx [("kept_rule", .ref n')])) n (.ins C dx [("kept_rule", .ref n'), ("kept_rounds", .int (k : Int))]) n = some (.ins C dx [("kept_rule", .ref n'), ("kept_rounds", .int (k : Int))]) := upd_same
      walk_at "go"
      refine ⟨r, zr, k, rfl, hR3, hU.wf, by omega, by omega, fun Ll ls H4 s4 _ eLl ll hl => ?_⟩
      walk_at "go"
      refine ⟨n, C, dx, _, rfl, s4 _ _ es, cls, n_kept_levels, (show (2 : Nat) < 1000 by omega), ?_⟩
      exact qq _ (SB.upd (((Z.Same.sb (s1.trans s2)).trans sb).trans (Z.Same.sb s4))) ⟨dx, n', Ll, upd_same⟩
def spRct (C : Addr) : Sp := fun vs H Q _ => ∃ (n : Addr) (k : Nat), vs = [.ref n] ∧ DeA C H n k ∧ Q (.int (k : Int)) H
theorem ok_round_count (F : FnM K "round_count" "Decider.round_count" s_Decider_round_count f fd) (cls : Cls K C) (n_kept_rounds : NoAttr K C "kept_rounds") : FnOk P w K mg base CX0 1 f fd P_Decider_round_count (spRct C) := by
  refine F.ok sc_Decider_round_count (fun vs H Q E h => ?_) (fun cdv A outer s H vs Q E hr h => ?_)
  · obtain ⟨n, k, rfl, _⟩ := h
    rfl
  · obtain ⟨n, k, rfl, ⟨dx, m, l, en⟩, q⟩ := h
    refine ⟨_, PSs.nox (pss_one (ps_ret (pe_fld (pv 0) rfl))), ?_⟩
    walk_at "go"
    exact q
def spLgt (CM : Addr) (K : PySem.W.Frag) : Sp := fun vs H Q _ => ∃ (m : Addr) (sz : Nat) (L : Lg) (t : Nat), vs = [.ref m, .int (t : Int)] ∧ McL CM K H m LT sz L ∧ sz ≤ 12 ∧ t ≤ 40 ∧ ∀ R, Unf L R → ∀ H', Same H H' → Q (eV (lgt R t)) H'
theorem ok_length_ (F : FnP K "_law_length" s_length f fd) (g_NoChain : mg "NoChain" = some (.ref CN)) (te : PySem.W.exmOne K (.ref CN) (.ref CN) = some true) (pp_length : PrpO P w K mg base 1 C "length" (spLen C K)) (mk_Chain : MakKX P w K mg base 7 "Chain" C 1 ["rounds"] (fun vs zs => vs ++ zs) (spCh1 C CM CN K)) : FnOk P w K mg base CX0 9 f fd P_length (spLgt CM K) := by
  refine F.ok sc_length (fun vs H Q E h => ?_) (fun cdv A outer s H vs Q E hr h => ?_)
  · obtain ⟨m, sz, L, t, rfl, _⟩ := h
    rfl
  · obtain ⟨m, sz, L, t, rfl, hM, lsz, ht, q⟩ := h
    refine ⟨_, PSs.nox (pss_one (L2N.ps_try_many rfl rfl takes0N (fun W pn xe tk po => (pss_one (ps_ret (pe_prp pp_length (pe_mkKE mk_Chain (fun σ => L2N.passAt tk σ) hr (by decide) (by rfl) (pa_cons (pv 0) pa_nil) (pk_cons (pv 1) pk_nil)) hr (by decide)))))
      (.cons ⟨rfl, rfl, .inl g_NoChain⟩ (fun ex oe cls d pn hzn hf => (pss_one (ps_ret pe_non))) .nil))), ?_⟩
    walk_at "go"
    intro y dx n1 n2 n3
    have s1 : Same H (upd (upd H dx (.own y)) y (.ins C dx [])) := Z.Same.mut (same_new n2) n1
    refine ⟨y, dx, m, sz, L, t, rfl, upd_same, hM.mono s1, lsz, ht, fun R hU hn x hx H' s2 hc => ?_, fun R hU hc H' s2 => ?_⟩
    · have q := q R hU H' fun b o h => s2 b o (ne_of_none h n1) (s1 b o h)
      unfold lgt at q
      rw [if_neg (by omega), hx] at q
      refine ⟨rfl, ?_⟩
      walk_at "go"
      obtain ⟨dx2, r2, La2, zr2, ls2, en2, _⟩ := id hc.ex
      refine ⟨y, dx2, _, rfl, en2, ?_⟩
      exact ⟨y, R, t, x, rfl, hc, hx, q⟩
    · refine ⟨true, te, fun _ a' na => ?_, (fun z => by cases z)⟩
      have q := q R hU _ (s1.trans s2)
      have e : lgt R t = none := by
        unfold lgt
        rcases hc with h | h
        · rw [if_pos h]
        · rw [h]
          split <;> rfl
      rw [e] at q
      walk_at "go"
      exact q
def spDcr (CM : Addr) (K : PySem.W.Frag) : Sp := fun vs H Q _ => ∃ (m : Addr) (sz : Nat) (L : Lg), vs = [.ref m] ∧ McL CM K H m LT sz L ∧ sz ≤ 12 ∧ ∀ R, Unf L R → ∀ H', Same H H' → Q (eV (ndd R)) H'
theorem ok_decider_rounds (F : FnP K "_law_decider_rounds" s_decider_rounds f fd) (g_CannotDecide : mg "CannotDecide" = some (.ref CN)) (te : PySem.W.exmOne K (.ref CN) (.ref CN) = some true) (pp_round_count : PrpO P w K mg base 1 CD "round_count" (spRct CD)) (mkd_Decider : MakDX P w K mg base 8 "Decider" CD [.non] (spDe0 CD CM CN K)) : FnOk P w K mg base CX0 10 f fd P_decider_rounds (spDcr CM K) := by
  refine F.ok sc_decider_rounds (fun vs H Q E h => ?_) (fun cdv A outer s H vs Q E hr h => ?_)
  · obtain ⟨m, sz, L, rfl, _⟩ := h
    rfl
  · obtain ⟨m, sz, L, rfl, hM, lsz, q⟩ := h
    refine ⟨_, PSs.nox (pss_one (L2N.ps_try_many rfl rfl takes0N (fun W pn xe tk po => (pss_one (ps_ret (pe_prp pp_round_count (pe_mkDE mkd_Decider (fun σ => L2N.passAt tk σ) hr (by decide) (by rfl) (pa_cons (pv 0) pa_nil)) hr (by decide)))))
      (.cons ⟨rfl, rfl, .inl g_CannotDecide⟩ (fun ex oe cls d pn hzn hf => (pss_one (ps_ret pe_non))) .nil))), ?_⟩
    walk_at "go"
    intro y dx n1 n2 n3
    have s1 : Same H (upd (upd H dx (.own y)) y (.ins CD dx [])) := Z.Same.mut (same_new n2) n1
    refine ⟨y, dx, m, sz, L, rfl, upd_same, hM.mono s1, lsz, fun R hU k hk H' s2 hd => ?_, fun R hU hc H' s2 => ?_⟩
    · have q := q R hU H' fun b o h => s2 b o (ne_of_none h n1) (s1 b o h)
      rw [hk] at q
      refine ⟨rfl, ?_⟩
      walk_at "go"
      obtain ⟨dx2, m2, l2, en2⟩ := id hd
      refine ⟨y, dx2, _, rfl, en2, ?_⟩
      exact ⟨y, k, rfl, hd, q⟩
    · refine ⟨true, te, fun _ a' na => ?_, (fun z => by cases z)⟩
      have q := q R hU _ (s1.trans s2)
      rw [hc] at q
      walk_at "go"
      exact q
def spSss (C : Addr) (K : PySem.W.Frag) : Sp := fun vs H Q _ => ∃ (m o Cn : Addr) (sz sz2 : Nat) (L L2 : Lg) (R R2 : Tbl) (cs : List Nat), vs = [.ref m, .ref o, .ref Cn] ∧ McL C K H m LT sz L ∧ sz ≤ 12 ∧ McL C K H o LT sz2 L2 ∧ sz2 ≤ 12 ∧ Unf L R ∧ Unf L2 R2 ∧ Sam R R2 ∧ H Cn = some (.lst (gsq cs)) ∧ (∀ c ∈ cs, c ≤ 40) ∧ cs.length ≤ 100 ∧ ∀ H', Same H H' → Q (.bl true) H'
theorem ok_same_sizes (F : FnP K "_law_same_sizes" s_same_sizes f fd) (m_len : mg "len" = none) (c_rounds_needed : Cal P w K mg base 7 "rounds_needed" (spNed C K)) (c_decider_rounds : Cal P w K mg base 10 "_law_decider_rounds" (spDcr C K)) (c_closed_states : Cal P w K mg base 7 "closed_states" (spCls C K)) (c_passable : CalKX P w K mg base 7 "passable" 1 ["rounds"] (fun vs zs => vs ++ zs) (spPas C CB K)) (c_length : Cal P w K mg base 9 "_law_length" (spLgt C K)) : FnOk P w K mg base CX0 11 f fd P_same_sizes (spSss C K) := by
  refine F.ok sc_same_sizes (fun vs H Q E h => ?_) (fun cdv A outer s H vs Q E hr h => ?_)
  · obtain ⟨m, o, Cn, sz, sz2, L, L2, R, R2, cs, rfl, _⟩ := h
    rfl
  · obtain ⟨m, o, Cn, sz, sz2, L, L2, R, R2, cs, rfl, hM, lsz, hM2, lsz2, hU, hU2, sam, eC, hcs, lcs, q⟩ := h
    refine ⟨_, PSs.nox (pss_cons (ps_if (PW.pt (pw_or (pt_cmpR op_ne (pe_cl c_rounds_needed hr (by decide) (by rfl) (pa_cons (pv 0) pa_nil)) (pe_cl c_rounds_needed hr (by decide) (by rfl) (pa_cons (pv 1) pa_nil)) (nomark _)) (pw_or1 (pt_cmpR op_ne (pe_cl c_decider_rounds hr (by decide) (by rfl) (pa_cons (pv 0) pa_nil)) (pe_cl c_decider_rounds hr (by decide) (by rfl) (pa_cons (pv 1) pa_nil)) (nomark _))))) (pss_one (ps_ret pe_bl)) pss_nil)
      (pss_cons (ps_if (PW.pt (pw_or (pt_cmpR op_ne (pe_cl c_decider_rounds hr (by decide) (by rfl) (pa_cons (pv 1) pa_nil)) (pe_cl c_rounds_needed hr (by decide) (by rfl) (pa_cons (pv 1) pa_nil)) (nomark _)) (pw_or1 (pt_cmpR op_ne (pe_callB call_len_seq (by rfl) m_len PySem.boot_len (pa_cons (pe_cl c_closed_states hr (by decide) (by rfl) (pa_cons (pv 0) pa_nil)) pa_nil)) (pe_callB call_len_seq (by rfl) m_len PySem.boot_len (pa_cons (pe_cl c_closed_states hr (by decide) (by rfl) (pa_cons (pv 1) pa_nil)) pa_nil)) (nomark _))))) (pss_one (ps_ret pe_bl)) pss_nil)
      (pss_cons (ps_for PassesOwn.never rfl (pi_list (pv 2)) (pg_name (i := 3) sc_same_sizes.nd rfl (by first | exact .inl rfl | exact .inr rfl))
        (pss_cons (ps_if (pt_cmpR op_ne (pe_callB call_len_seq (by rfl) m_len PySem.boot_len (pa_cons (pe_clKE c_passable (fun _ => passS0) hr (by decide) (by rfl) (pa_cons (pv 0) pa_nil) (pk_cons (pv 3) pk_nil)) pa_nil)) (pe_callB call_len_seq (by rfl) m_len PySem.boot_len (pa_cons (pe_clKE c_passable (fun _ => passS0) hr (by decide) (by rfl) (pa_cons (pv 1) pa_nil) (pk_cons (pv 3) pk_nil)) pa_nil)) (nomark _)) (pss_one (ps_ret pe_bl)) pss_nil)
      (pss_one (ps_if (pt_cmpR op_ne (pe_cl c_length hr (by decide) (by rfl) (pa_cons (pv 0) (pa_cons (pv 3) pa_nil))) (pe_cl c_length hr (by decide) (by rfl) (pa_cons (pv 1) (pa_cons (pv 3) pa_nil))) (nomark _)) (pss_one (ps_ret pe_bl)) pss_nil))))
      (pss_one (ps_ret pe_bl))))), ?_⟩
    walk_at "go"
    refine ⟨m, sz, L, rfl, hM, lsz, fun R' hU' H1 s1 => ?_⟩
    obtain rfl := hU.eq hU'
    walk_at "go"
    refine ⟨o, sz2, L2, rfl, hM2.mono s1, lsz2, fun R' hU' H2 s2 => ?_⟩
    obtain rfl := hU2.eq hU'
    have s12 := s1.trans s2
    rw [show (if R.length = 0 then some 0 else need R R.length) = ndd R from rfl, show (if R2.length = 0 then some 0 else need R2 R2.length) = ndd R2 from rfl, ← sam.ndd]
    refine rne_eV ?_
    refine ⟨_, rfl, ?_⟩
    walk_at "go"
    refine ⟨m, sz, L, rfl, hM.mono s12, lsz, fun R' hU' H3 s3 => ?_⟩
    obtain rfl := hU.eq hU'
    walk_at "go"
    refine ⟨o, sz2, L2, rfl, (hM2.mono s12).mono s3, lsz2, fun R' hU' H4 s4 => ?_⟩
    obtain rfl := hU2.eq hU'
    have s14 := s12.trans (s3.trans s4)
    rw [← sam.ndd]
    refine rne_eV ?_
    refine ⟨_, rfl, ?_⟩
    walk_at "go"
    refine ⟨o, sz2, L2, rfl, hM2.mono s14, lsz2, fun R' hU' H5 s5 => ?_⟩
    obtain rfl := hU2.eq hU'
    walk_at "go"
    refine ⟨o, sz2, L2, rfl, (hM2.mono s14).mono s5, lsz2, fun R' hU' H6 s6 => ?_⟩
    obtain rfl := hU2.eq hU'
    rw [show (if R2.length = 0 then some 0 else need R2 R2.length) = ndd R2 from rfl]
    have s16 := s14.trans (s5.trans s6)
    refine rne_eV ?_
    refine ⟨_, rfl, ?_⟩
    walk_at "go"
    refine ⟨m, sz, L, R, rfl, hM.mono s16, lsz, hU, fun a1 H7 s7 na1 ea1 => ?_⟩
    walk_at "go"
    refine ⟨a1, _, rfl, .inr (SqT.of ea1), ?_⟩
    walk_at "go"
    refine ⟨o, sz2, L2, R2, rfl, (hM2.mono s16).mono s7, lsz2, hU2, fun a2 H8 s8 na2 ea2 => ?_⟩
    walk_at "go"
    refine ⟨a2, _, rfl, .inr (SqT.of ea2), ?_⟩
    rw [show (gsq (flg R.length (lvl R R.length))).length = (gsq (flg R2.length (lvl R2 R2.length))).length by rw [show (gsq (flg R.length (lvl R R.length))).length = (flg R.length (lvl R R.length)).length from List.length_map .., show (gsq (flg R2.length (lvl R2 R2.length))).length = (flg R2.length (lvl R2 R2.length)).length from List.length_map .., sam.flg, sam.len]]
    walk_at "go"
    refine ite2 (fun e => absurd e (by simp)) (fun _ => ?_)
    have s18 := s16.trans (s7.trans s8)
    walk_at "go"
    refine ⟨⟨_, SqL.of (s18 _ _ eC)⟩, ?_⟩
    refine for_gen (n := cs.length) (fun i σ J => Same H J ∧ ∃ v3 : Option V, σ = [some (.ref m), some (.ref o), some (.ref Cn), v3]) ⟨s18, none, rfl⟩ ?_ ?_ ?_ ?_
    · rintro i σ J hi ⟨sj, _⟩
      exact ⟨_, .int (cs[i] : Int), SqL.of (sj _ _ eC), by unfold gsq; rw [List.getElem?_map, List.getElem?_eq_getElem hi]; rfl⟩
    · rintro σ J ⟨sj, _⟩
      exact ⟨_, SqL.of (sj _ _ eC), by unfold gsq; rw [List.length_map]; exact Nat.le_refl _⟩
    · rintro i σ J x J1 hi ⟨sj, v3, rfl⟩ ⟨rfl, ex⟩
      have ex := ex _ (SqL.of (sj _ _ eC))
      unfold gsq at ex
      rw [List.getElem?_map, List.getElem?_eq_getElem hi] at ex
      cases ex
      have hc := hcs _ (List.getElem_mem hi)
      generalize cs[i] = c at hc
      clear s18 s16 s14 s12 s1 s2 s3 s4 s5 s6 s7 s8 ea1 ea2 na1 na2
      walk_at "go"
      refine ⟨m, sz, L, R, _, rfl, hM.mono sj, lsz, hU, fun k hk _ a1 H7 s7 na1 ea1 => ?_, fun h => absurd ⟨by omega, by omega⟩ h⟩
      obtain rfl : c = k := by omega
      walk_at "go"
      refine ⟨a1, _, rfl, .inr (SqT.of ea1), ?_⟩
      walk_at "go"
      refine ⟨o, sz2, L2, R2, _, rfl, (hM2.mono sj).mono s7, lsz2, hU2, fun k hk _ a2 H8 s8 na2 ea2 => ?_, fun h => absurd ⟨by omega, by omega⟩ h⟩
      obtain rfl : c = k := by omega
      walk_at "go"
      refine ⟨a2, _, rfl, .inr (SqT.of ea2), ?_⟩
      rw [show (gsq (flg R.length (lvl R c))).length = (gsq (flg R2.length (lvl R2 c))).length by rw [show (gsq (flg R.length (lvl R c))).length = (flg R.length (lvl R c)).length from List.length_map .., show (gsq (flg R2.length (lvl R2 c))).length = (flg R2.length (lvl R2 c)).length from List.length_map .., sam.flg]]
      walk_at "go"
      refine ite2 (fun e => absurd e (by simp)) (fun _ => ?_)
      have s78 := sj.trans (s7.trans s8)
      walk_at "go"
      refine ⟨m, sz, L, c, rfl, hM.mono s78, lsz, hc, fun R' hU' H9 s9 => ?_⟩
      obtain rfl := hU.eq hU'
      walk_at "go"
      refine ⟨o, sz2, L2, c, rfl, (hM2.mono s78).mono s9, lsz2, hc, fun R' hU' H10 s10 => ?_⟩
      obtain rfl := hU2.eq hU'
      rw [← sam.lgt]
      refine rne_eV ?_
      refine ⟨_, rfl, ?_⟩
      walk_at "go"
      exact ⟨s78.trans (s9.trans s10), _, rfl⟩
    · rintro σ J ⟨sj, v3, rfl⟩
      walk_at "go"
      exact q J sj
end
end Z
set_option pp.maxSteps 700
set_option Elab.async false
set_option linter.all false
set_option maxRecDepth 100000
set_option maxHeartbeats 4000000
open SX (S S_inj S_len S_cat)
namespace Z
open Mc
open PySem PySem.Spec PyProof.Rows L2
open C8 (pss_cut tCut)
local macro_rules | `(tactic| walk_at "num") => `(tactic| first | rfl | omega | decide | exact Nat.le_of_lt (small1000 (by simp)) | exact ⟨by omega, by omega⟩ | exact ⟨by omega, by omega, by omega⟩ | exact ⟨by decide, by decide, by decide⟩ | exact Or.inl ⟨by omega, by omega⟩ | exact Or.inr ⟨by omega, by omega⟩)
local macro_rules | `(tactic| walk_at "go") => `(tactic| repeat (first | refine ⟨_, rfl, ?_⟩ | refine ⟨_, _, rfl, rfl, ?_⟩ | refine ⟨_, _, rfl, ?_⟩ | (refine ⟨_, _, rfl, rfl, ?_, ?_⟩; focus walk_at "num") | refine Or.inl ⟨_, rfl, ?_⟩ | refine ⟨_, _, _, _, rfl, rfl, (by assumption), (by rfl), ?_⟩ | refine ⟨_, _, _, _, _, rfl, (by assumption), (by assumption), (by assumption), (by rfl), ?_⟩ | refine ⟨rfl, ?_⟩ | (refine And.intro ?_ ?_; focus walk_at "num")))
abbrev s_views_swapped : Stmt := topS 86
abbrev N_views_swapped : List Str := ["_law_one", "_law_exchange_here", "_law_other", "_law_ends", "_law_view"]
abbrev P_views_swapped : List Str := ["_law_one"]
theorem sc_views_swapped : FnScope N_views_swapped P_views_swapped (defScope s_views_swapped) := ⟨rfl, rfl, rfl, by decide +kernel, rfl, by decide +kernel, by decide +kernel⟩
theorem hrd_sw {k : Nat} (h : k < 4) (e : Bool) : hrd (!e) (cd (sw k)) = hrd e (cd k) := by
  match k, h with
  | 0, _ => cases e <;> rfl
  | 1, _ => cases e <;> rfl
  | 2, _ => cases e <;> rfl
  | 3, _ => cases e <;> rfl
theorem lst_sw {X : List Nat} (hX : F4 X) (e : Bool) : ∀ n, lst (hrd (!e)) (ftx (X.map sw)) n = lst (hrd e) (ftx X) n
  | 0 => rfl
  | n + 1 => by
    rw [lst_succ, lst_succ, lst_sw hX e n]
    have : hrd (!e) ((ftx (X.map sw)).getD n 0) = hrd e ((ftx X).getD n 0) := by
      unfold ftx
      rw [List.getD_eq_getElem?_getD, List.getD_eq_getElem?_getD, List.getElem?_map, List.getElem?_map, List.getElem?_map]
      cases c : X[n]? with
      | none => cases e <;> rfl
      | some k => exact hrd_sw (hX k (List.mem_of_getElem? c)) e
    rw [this]
theorem vw_sw {a b : Int} {X : List Nat} (hX : F4 X) (e : Bool) : ∃ Y, F4 Y ∧ Y.length ≤ X.length ∧ (vw a b (ftx X) e).kn = ftx Y ∧ vw b a (ftx (X.map sw)) (!e) = ⟨(vw a b (ftx X) e).own, (vw a b (ftx X) e).oth, ftx (Y.map sw), (vw a b (ftx X) e).si⟩ := by
  have el : (ftx (X.map sw)).length = (ftx X).length := by rw [ftx_len, ftx_len, List.length_map]
  have eq : lst (hrd (!e)) (ftx (X.map sw)) (ftx (X.map sw)).length = lst (hrd e) (ftx X) (ftx X).length := by rw [el]; exact lst_sw hX e _
  cases c : lst (hrd e) (ftx X) (ftx X).length with
  | none =>
    refine ⟨[], fun k h => (by cases h), Nat.zero_le _, by rw [vw_none c]; rfl, ?_⟩
    rw [vw_none c, vw_none (eq.trans c), el]
    cases e <;> rfl
  | some i =>
    have tk : ∀ Z : List Nat, (ftx Z).take i = ftx (Z.take i) := fun Z => by unfold ftx; rw [List.map_take]
    refine ⟨X.take i, fun k h => hX k (List.mem_of_mem_take h), by rw [List.length_take]; omega, by rw [vw_some c]; exact tk X, ?_⟩
    rw [vw_some c, vw_some (eq.trans c), el, tk, ← List.map_take]
    cases e <;> rfl
section
variable {P : Program} {w : World} {K : PySem.W.Frag} {mg : Str → Option Value} {base : Heap} {f C CE CB CF : Addr} {fd : FuncData}
def spVsw : Sp := fun vs H Q _ => ∃ (o : Addr) (x y : Int) (l : List Nat), vs = [.ref o] ∧ H o = some (.tup (exL x y l)) ∧ Drawn x y l ∧ ∀ H', Same H H' → Q (.bl true) H'
theorem ok_views_swapped (F : FnP K "_law_views_swapped" s_views_swapped f fd) (k_Exchange : MakX P w K mg base 4 "Exchange" C (spEx1 C CB CF)) (me_seen : MetX P w K mg base 4 C "seen" (spSeen C CE)) (c_swapped_fates : Cal P w K mg base 1 "_law_swapped_fates" spSwf) : FnOk P w K mg base CX0 6 f fd P_views_swapped spVsw := by
  refine F.ok sc_views_swapped (fun vs H Q E h => ?_) (fun cdv A outer s H vs Q E hr h => ?_)
  · obtain ⟨o, x, y, l, rfl, _⟩ := h
    rfl
  · obtain ⟨o, x, y, l, rfl, eo, hD, q⟩ := h
    refine ⟨_, PSs.nox (pss_cons (ps_set (i := 1) sc_views_swapped.nd rfl (by first | exact .inl rfl | exact .inr rfl) (pe_mkE k_Exchange (fun _ => passS0) hr (by decide) (by rfl) (pa_cons (pe_ix ix_tup (pv 0) pe_int (fun _ _ => rfl)) (pa_cons (pe_ix ix_tup (pv 0) pe_int (fun _ _ => rfl)) (pa_cons (pe_ix ix_tup (pv 0) pe_int (fun _ _ => rfl)) pa_nil)))))
      (pss_cons (ps_set (i := 2) sc_views_swapped.nd rfl (by first | exact .inl rfl | exact .inr rfl) (pe_mkE k_Exchange (fun _ => passS0) hr (by decide) (by rfl) (pa_cons (pe_ix ix_tup (pv 0) pe_int (fun _ _ => rfl)) (pa_cons (pe_ix ix_tup (pv 0) pe_int (fun _ _ => rfl)) (pa_cons (pe_cl c_swapped_fates hr (by decide) (by rfl) (pa_cons (pe_ix ix_tup (pv 0) pe_int (fun _ _ => rfl)) pa_nil)) pa_nil)))))
      (pss_cons (ps_for PassesOwn.never rfl (pi_list (pe_lst (pa_cons (pe_tup (pa_cons pe_str (pa_cons pe_str pa_nil))) (pa_cons (pe_tup (pa_cons pe_str (pa_cons pe_str pa_nil))) pa_nil)))) (pg_name (i := 3) sc_views_swapped.nd rfl (by first | exact .inl rfl | exact .inr rfl))
        (pss_cons (ps_set (i := 4) sc_views_swapped.nd rfl (by first | exact .inl rfl | exact .inr rfl) (pe_meE me_seen (pv 1) (fun _ => passS0) hr (by decide) (pa_cons (pe_ix ix_tup (pv 3) pe_int (fun _ _ => rfl)) pa_nil)))
      (pss_one (ps_if (pt_cmpR (op_neD hr.units) (pe_meE me_seen (pv 2) (fun _ => passS0) hr (by decide) (pa_cons (pe_ix ix_tup (pv 3) pe_int (fun _ _ => rfl)) pa_nil)) (pe_tup (pa_cons (pe_ix ix_tup (pv 4) pe_int (fun _ _ => rfl)) (pa_cons (pe_ix ix_tup (pv 4) pe_int (fun _ _ => rfl)) (pa_cons (pe_cl c_swapped_fates hr (by decide) (by rfl) (pa_cons (pe_ix ix_tup (pv 4) pe_int (fun _ _ => rfl)) pa_nil)) (pa_cons (pe_ix ix_tup (pv 4) pe_int (fun _ _ => rfl)) pa_nil))))) (nomark _)) (pss_one (ps_ret pe_bl)) pss_nil))))
      (pss_one (ps_ret pe_bl))))), ?_⟩
    obtain ⟨hx, hy, hf, ll⟩ := hD
    obtain ⟨X, rfl, hX⟩ := ftx_ex hf
    have lX : X.length ≤ 60 := by rw [ftx_len] at ll; exact ll
    walk_at "go"
    refine ⟨o, _, _, _, rfl, rfl, SqT.of eo, atI_nat (j := 0) rfl, ?_⟩
    walk_at "go"
    refine ⟨o, _, _, _, rfl, rfl, SqT.of eo, atI_nat (j := 1) rfl, ?_⟩
    walk_at "go"
    refine ⟨o, _, _, _, rfl, rfl, SqT.of eo, atI_nat (j := 2) rfl, ?_⟩
    intro n dx n1 n2 n3
    have sa : Same H (upd (upd H dx (.own n)) n (.ins C dx [])) := Z.Same.mut (same_new n2) n1
    refine ⟨n, dx, x, y, ftx X, rfl, upd_same, by omega, fun _ H1 sb en => ?_, fun r hr => by rw [bad_ok hx hy hf] at hr; cases hr⟩
    have s1 : Same H H1 := fun c u e => sb c u (fun z => by rw [z, n1] at e; cases e) (sa c u e)
    clear sa sb
    have eo1 := s1 _ _ eo
    refine ⟨rfl, ?_⟩
    walk_at "go"
    refine ⟨o, _, _, _, rfl, rfl, SqT.of eo1, atI_nat (j := 1) rfl, ?_⟩
    walk_at "go"
    refine ⟨o, _, _, _, rfl, rfl, SqT.of eo1, atI_nat (j := 0) rfl, ?_⟩
    walk_at "go"
    refine ⟨o, _, _, _, rfl, rfl, SqT.of eo1, atI_nat (j := 2) rfl, ?_⟩
    refine ⟨X, rfl, hX, by omega, fun H2 s2 => ?_⟩
    have hf2 := ftx_fts hX.sw
    have ll2 : (ftx (X.map sw)).length ≤ 60 := by rw [ftx_len, List.length_map]; exact lX
    walk_at "go"
    intro m dy m1 m2 m3
    have sa : Same H2 (upd (upd H2 dy (.own m)) m (.ins C dy [])) := Z.Same.mut (same_new m2) m1
    refine ⟨m, dy, y, x, ftx (X.map sw), rfl, upd_same, by omega, fun _ H3 sb em => ?_, fun r hr => by rw [bad_ok hy hx hf2] at hr; cases hr⟩
    have s3 : Same H2 H3 := fun c u e => sb c u (fun z => by rw [z, m1] at e; cases e) (sa c u e)
    clear sa sb
    have en3 := s3 _ _ (s2 _ _ en)
    have s13 := s1.trans (s2.trans s3)
    refine ⟨rfl, ?_⟩
    walk_at "go"
    intro t0 nt0
    generalize eH_ : upd H3 t0 _ = H4
    have s4 : Same H3 H4 := by rw [← eH_]; exact same_new nt0
    have et0 : H4 t0 = some (.tup [.str "first", .str "second"]) := by rw [← eH_]; exact upd_same
    clear eH_
    walk_at "go"
    intro t1 nt1
    generalize eH_ : upd H4 t1 _ = H5
    have s5 : Same H4 H5 := by rw [← eH_]; exact same_new nt1
    have et1 : H5 t1 = some (.tup [.str "second", .str "first"]) := by rw [← eH_]; exact upd_same
    clear eH_
    walk_at "go"
    intro D nD
    generalize eH_ : upd H5 D _ = H6
    have s6 : Same H5 H6 := by rw [← eH_]; exact same_new nD
    have eD : H6 D = some (.lst [.ref t0, .ref t1]) := by rw [← eH_]; exact upd_same
    clear eH_
    have s36 := s4.trans (s5.trans s6)
    have et0 := s6 _ _ (s5 _ _ et0)
    have et1 := s6 _ _ et1
    have ets : ∀ i, i < 2 → ∃ (t : Addr) (e : Bool), [V.ref t0, V.ref t1][i]? = some (.ref t) ∧ H6 t = some (.tup [.str (eS e), .str (eS (!e))]) := fun i hi => by
      obtain rfl | rfl : i = 0 ∨ i = 1 := by omega
      · exact ⟨t0, false, rfl, et0⟩
      · exact ⟨t1, true, rfl, et1⟩
    have en6 := s36 _ _ en3
    have em6 := s36 _ _ em
    have s16 := s13.trans s36
    refine ⟨D, rfl, ⟨_, SqL.of eD⟩, ?_⟩
    refine for_gen (n := 2) (fun i σ J => Same H6 J ∧ ∃ v3 v4 : Option V, σ = [some (.ref o), some (.ref n), some (.ref m), v3, v4]) ⟨Same.refl _, none, none, rfl⟩ ?_ ?_ ?_ ?_
    · rintro i σ J hi ⟨sj, _⟩
      obtain ⟨t, e, h1, h2⟩ := ets i hi
      exact ⟨_, .ref t, SqL.of (sj _ _ eD), h1⟩
    · rintro σ J ⟨sj, _⟩
      exact ⟨_, SqL.of (sj _ _ eD), Nat.le_refl 2⟩
    · rintro i σ J z J1 hi ⟨sj, v3, v4, rfl⟩ ⟨rfl, ez⟩
      have ez := ez _ (SqL.of (sj _ _ eD))
      obtain ⟨t, e, h1, h2⟩ := ets i hi
      rw [h1] at ez
      cases ez
      have h2 := sj _ _ h2
      have enj := sj _ _ en6
      have emj := sj _ _ em6
      obtain ⟨Y, fY, lY, ekn, evw⟩ := vw_sw (a := x) (b := y) hX e
      walk_at "go"
      refine ⟨n, dx, _, rfl, enj, rfl, ?_⟩
      walk_at "go"
      refine ⟨t, _, _, _, rfl, rfl, SqT.of h2, atI_nat (j := 0) rfl, ?_⟩
      refine ⟨n, eS e, x, y, ftx X, rfl, ⟨dx, enj⟩, by omega, fun e' he p J2 s7 np ep => ?_, fun h => absurd (by cases e <;> simp) h⟩
      obtain rfl : e = e' := by
        revert he
        cases e <;> cases e' <;> decide +kernel
      walk_at "go"
      have h27 := s7 _ _ h2
      have emj7 := s7 _ _ emj
      refine ⟨m, dy, _, rfl, emj7, rfl, ?_⟩
      walk_at "go"
      refine ⟨t, _, _, _, rfl, rfl, SqT.of h27, atI_nat (j := 1) rfl, ?_⟩
      refine ⟨m, eS (!e), y, x, ftx (X.map sw), rfl, ⟨dy, emj7⟩, by omega, fun e' he p2 J3 s8 np2 ep2 => ?_, fun h => absurd (by cases e <;> simp) h⟩
      obtain rfl : (!e) = e' := by
        revert he
        cases e <;> cases e' <;> decide +kernel
      have ep8 := s8 _ _ ep
      have vok := vw_ok (a := y) (b := x) (e := !e) hf2 (by omega)
      rw [evw] at vok ep2
      have ep8 : J3 p = some (.tup [.int (vw x y (ftx X) e).own, oV (vw x y (ftx X) e).oth, .str (S (ftx Y)), .int (vw x y (ftx X) e).si]) := by rw [ep8, ← ekn]; rfl
      generalize (vw x y (ftx X) e).own = u0 at vok ep2 ep8
      generalize (vw x y (ftx X) e).oth = u1 at vok ep2 ep8
      generalize (vw x y (ftx X) e).si = u3 at vok ep2 ep8
      walk_at "go"
      refine ⟨p, _, _, _, rfl, rfl, SqT.of ep8, atI_nat (j := 0) rfl, ?_⟩
      walk_at "go"
      refine ⟨p, _, _, _, rfl, rfl, SqT.of ep8, atI_nat (j := 1) rfl, ?_⟩
      walk_at "go"
      refine ⟨p, _, _, _, rfl, rfl, SqT.of ep8, atI_nat (j := 2) rfl, ?_⟩
      refine ⟨Y, rfl, fY, by omega, fun J4 s9 => ?_⟩
      walk_at "go"
      refine ⟨p, _, _, _, rfl, rfl, SqT.of (s9 _ _ ep8), atI_nat (j := 3) rfl, ?_⟩
      refine ⟨show 4 ≤ sizeLine by decide, fun p3 np3 => ?_⟩
      have s10 := same_new (o := .tup [.int u0, oV u1, .str (S (ftx (Y.map sw))), .int u3]) np3
      have ep3 : (upd J4 p3 (.tup [.int u0, oV u1, .str (S (ftx (Y.map sw))), .int u3])) p3 = some (.tup (vwL ⟨u0, u1, ftx (Y.map sw), u3⟩)) := upd_same
      generalize upd J4 p3 (.tup [.int u0, oV u1, .str (S (ftx (Y.map sw))), .int u3]) = J5 at s10 ep3
      refine ⟨_, _, dp_vw (s10 _ _ (s9 _ _ ep2)), dp_vw ep3, shaped_vw vok, shaped_vw vok, ?_⟩
      rw [eqv_vw, decide_eq_true rfl]
      walk_at "go"
      exact ⟨sj.trans (s7.trans (s8.trans (s9.trans s10))), _, _, rfl⟩
    · rintro σ J ⟨sj, v3, v4, rfl⟩
      walk_at "go"
      exact q J (s16.trans sj)
end
end Z
set_option pp.maxSteps 700
set_option Elab.async false
set_option linter.all false
set_option maxRecDepth 100000
set_option maxHeartbeats 4000000
open SX (S S_inj S_len S_cat)
namespace Z
open Mc
open PySem PySem.Spec PyProof.Rows L2
open C8 (pss_cut tCut)
local macro_rules | `(tactic| walk_at "num") => `(tactic| first | rfl | omega | decide | exact Nat.le_of_lt (small1000 (by simp)) | exact ⟨by omega, by omega⟩ | exact ⟨by omega, by omega, by omega⟩ | exact ⟨by decide, by decide, by decide⟩ | exact Or.inl ⟨by omega, by omega⟩ | exact Or.inr ⟨by omega, by omega⟩)
local macro_rules | `(tactic| walk_at "go") => `(tactic| repeat (first | refine ⟨_, rfl, ?_⟩ | refine ⟨_, _, rfl, rfl, ?_⟩ | refine ⟨_, _, rfl, ?_⟩ | (refine ⟨_, _, rfl, rfl, ?_, ?_⟩; focus walk_at "num") | refine Or.inl ⟨_, rfl, ?_⟩ | refine ⟨_, _, _, _, rfl, rfl, (by assumption), (by rfl), ?_⟩ | refine ⟨_, _, _, _, _, rfl, (by assumption), (by assumption), (by assumption), (by rfl), ?_⟩ | refine ⟨rfl, ?_⟩ | (refine And.intro ?_ ?_; focus walk_at "num")))
abbrev s_law : Stmt := topS 87
abbrev N_law : List Str := ["_law_script", "_law_draws_here", "_law_place", "_law_rows", "_law_good_here", "_law_live", "_law_more", "_law_spot", "_law_rule_here", "_law_kept_here", "_law_row_here", "_law_turned", "_law_other", "_law_texts", "_law_k", "_law_drawn", "_law_at", "_law_text", "_law_counts"]
abbrev P_law : List Str := ["_law_script"]
theorem sc_law : FnScope N_law P_law (defScope s_law) := ⟨rfl, rfl, rfl, by decide +kernel, rfl, by decide +kernel, by decide +kernel⟩
/-! ### (letters, rows, good) as data -/
def kD (R : Tbl) (g : List Nat) : PyData := .tuple [.str (S LT), tbD false false R, natD false g]
theorem lay_kD (R : Tbl) (g : List Nat) : (kD R g).canLay0 = true := by
  show PyData.canLayAll0 [.str (S LT), tbD false false R, natD false g] = true
  rw [PyData.canLayAll0, PyData.canLayAll0, PyData.canLayAll0, PyData.canLayAll0, SeqAt.canLay_of_shaped (shaped_tb _ _ _), SeqAt.canLay_of_shaped (shaped_nat _ _), show (PyData.str (S LT)).canLay0 = true by decide +kernel]
  rfl
theorem dep_of {d : PyData} (h : SeqAt.shaped d = true) : d.depth ≤ 64 := by
  unfold SeqAt.shaped at h
  exact of_decide_eq_true (Bool.and_eq_true_iff.mp h).2
theorem dep_tbD (R : Tbl) : (tbD false false R).depth ≤ 2 := by
  show PyData.depthAll (R.map (rowD false)) + 1 ≤ 2
  have := dep_tb false R
  omega
theorem dep_natD (g : List Nat) : (natD false g).depth ≤ 1 := by
  show PyData.depthAll ((g.map fun (x : Nat) => (x : Int)).map PyData.int) + 1 ≤ 1
  rw [dep_int]
  exact Nat.le_refl _
theorem dep_kD (R : Tbl) (g : List Nat) : (kD R g).depth ≤ 3 := by
  show PyData.depthAll [.str (S LT), tbD false false R, natD false g] + 1 ≤ 3
  rw [PyData.depthAll, PyData.depthAll, PyData.depthAll, PyData.depthAll]
  have h1 := dep_tbD R
  have h2 := dep_natD g
  have h3 : (PyData.str (S LT)).depth = 0 := rfl
  omega
theorem shaped_kD (R : Tbl) (g : List Nat) : SeqAt.shaped (kD R g) = true := by
  unfold SeqAt.shaped
  have := dep_kD R g
  rw [lay_kD, decide_eq_true (by omega)]
  rfl
/-! ### what lives on when only the list p changes -/
theorem SqT.sb {K : PySem.W.Frag} {p a : Addr} {ys xs : List V} {H H' : Hp} (hp : H p = some (.lst ys)) (sb : SB p H H') (h : SqT K H a xs) : SqT K H' a xs := by
  rcases h with (h | ⟨o', h⟩) | h
  · exact .inl (.inl (sb _ _ (fun e => by rw [e, hp] at h; cases h) h))
  · exact .inl (.inr ⟨o', sb _ _ (fun e => by rw [e, hp] at h; cases h) h⟩)
  · exact .inr h
theorem McL.sb {K : PySem.W.Frag} {C p n : Addr} {l : List Nat} {sz : Nat} {L : Lg} {ys : List V} {H H' : Hp} (hp : H p = some (.lst ys)) (sb : SB p H H') (h : McL C K H n l sz L) : McL C K H' n l sz L := by
  obtain ⟨R, g, T, G, h1, h2, hz, h3⟩ := h.ex
  obtain ⟨dx, r, u, zr, e, hR, hu, rfl⟩ := h1.ex
  exact ⟨tb zr, g, T, G, ⟨dx, r, u, zr, sb _ _ (fun e' => by rw [e', hp] at e; cases e) e, ⟨SqT.sb hp sb hR.sq, fun z m => SqT.sb hp sb (hR.at_ z m)⟩, sb _ _ (fun e' => by rw [e', hp] at hu; cases hu) hu, rfl⟩, h2, hz, h3⟩
/-- the kept fields of the rule -/
def KepA (C : Addr) (K : PySem.W.Frag) (J : Hp) (n kp : Addr) : Prop := ∃ (dx r u : Addr) (zr : List (Addr × List (Option Nat))) (g : List Nat), J n = some (.ins C dx (mF LT r u)) ∧ J kp = some (.tup [.str (S LT), .ref r, .ref u]) ∧ Tb false false K J r zr ∧ J u = some (.tup (gsq g))
theorem KepA.mono {C : Addr} {K : PySem.W.Frag} {J J' : Hp} {n kp : Addr} (s : Same J J') (h : KepA C K J n kp) : KepA C K J' n kp := by
  obtain ⟨dx, r, u, zr, g, h1, h2, h3, h4⟩ := h
  exact ⟨dx, r, u, zr, g, s _ _ h1, s _ _ h2, h3.mono s, s _ _ h4⟩
theorem KepA.sb {C : Addr} {K : PySem.W.Frag} {J J' : Hp} {n kp p : Addr} {ys : List V} (hp : J p = some (.lst ys)) (sb : SB p J J') (h : KepA C K J n kp) : KepA C K J' n kp := by
  obtain ⟨dx, r, u, zr, g, h1, h2, h3, h4⟩ := h
  exact ⟨dx, r, u, zr, g, sb _ _ (fun e => by rw [e, hp] at h1; cases h1) h1, sb _ _ (fun e => by rw [e, hp] at h2; cases h2) h2, ⟨SqT.sb hp sb h3.sq, fun z m => SqT.sb hp sb (h3.at_ z m)⟩, sb _ _ (fun e => by rw [e, hp] at h4; cases h4) h4⟩
theorem unl_next {L : Lg} {w : List Nat} (h : UnL L w) : ∃ k, UnL L (w ++ [k]) := by
  obtain ⟨B, b0, hB⟩ := h w (List.prefix_refl w)
  obtain ⟨_, k, hk⟩ := hB [] b0
  refine ⟨k, fun u hu => ?_⟩
  rcases pre_cases hu with h1 | ⟨y, hy, rfl⟩
  · exact h u h1
  · match y, hy with
    | [], _ => rw [List.append_nil]; exact h w (List.prefix_refl w)
    | [c], hy =>
      obtain ⟨t, ht⟩ := hy
      injection ht with e1 e2
      subst e1
      refine ⟨fun v => B ([c] ++ v), hk, fun v hv => ?_⟩
      obtain ⟨h1, j, h2⟩ := hB _ hv
      refine ⟨by show L (w ++ [c] ++ v); rw [List.append_assoc]; exact h1, j, ?_⟩
      rw [List.append_assoc] at h2
      exact h2
    | c :: d :: y, hy =>
      obtain ⟨t, ht⟩ := hy
      injection ht with _ ht
      cases ht
/-- the turned table of a live one: there is always a way -/
theorem nxt_sw {T : Tbl} {L : Lg} (wf : Wf T 4) (h0 : 0 < T.length) (hL : ∀ w, AccS T (inG (List.range T.length)) w ↔ UnL L w) : Nxt (swT T) := fun w s er => by
  rw [rn_swT wf] at er
  have hst : st T = some 0 := if_neg (by omega)
  have hs : s < T.length := rn_lt wf (fun j e => by cases e; exact h0) er
  have a : AccS T (inG (List.range T.length)) (w.map sw) := ⟨s, by rw [hst]; exact er, List.mem_range.mpr hs⟩
  obtain ⟨k, hk⟩ := unl_next ((hL _).mp a)
  obtain ⟨e, he, _⟩ := (hL _).mpr hk
  rw [hst, rn_snoc er] at he
  exact ⟨sw k, e, by rw [nx_swT wf, sw_sw]; exact he⟩
section
variable {P : Program} {w : World} {K : PySem.W.Frag} {mg : Str → Option Value} {base : Heap} {f C CB CE : Addr} {fd : FuncData}
/-- the state of the law behind its fourteenth statement -/
structure LwS (C : Addr) (K : PySem.W.Frag) (J : Hp) (s d2 p2 U n kp B o : Addr) (ns ds2 : List Int) (zu zt : List (Addr × List (Option Nat))) (L0 : Lg) (R R2 : Tbl) : Prop where
  sS : SqL K J s (ns.map V.int)
  ln : ns.length ≤ 63
  hT : Tk K d2 p2 ds2 70 J J
  hM : McL C K J n LT 12 L0
  kep : KepA C K J n kp
  trU : TbR J U zu
  wfU : Wf (tb zu) 4
  lzU : zu.length ≤ 12
  hL : ∀ w, AccS (tb zu) (inG (List.range (tb zu).length)) w ↔ UnL L0 w
  trB : TbR J B zt
  et : tb zt = swT (tb zu)
  hO : McL C K J o LT 12 (fun w => UnL L0 (w.map sw))
  hU : Unf L0 R
  hU2 : Unf (fun w => UnL L0 (w.map sw)) R2
theorem law_t15 (F : FnP K "law" s_law f fd) (m_int : mg "int" = none) (m_len : mg "len" = none) (m_range : mg "range" = none) (m_max : mg "max" = none) (cls : Cls K C) (n_letters : NoAttr K C "letters") (n_rows : NoAttr K C "rows") (n_good : NoAttr K C "good") (c_cell : Cal P w K mg base 1 "_law_cell" (spCell K)) (c_draws : Cal P w K mg base 1 "_law_draws" spDraws) (c_take : Cal P w K mg base 1 "_law_take" (spTake K)) (c_exchange : Cal P w K mg base 2 "_law_exchange" (spLex K)) (c_drawn_text : Cal P w K mg base 2 "_law_drawn_text" (spDwt K)) (c_every_text : Cal P w K mg base 1 "_law_every_text" spEvt) (c_allows : Cal P w K mg base 1 "_law_allows" (spAlw K)) (c_swapped_fates : Cal P w K mg base 1 "_law_swapped_fates" spSwf) (c_same_sizes : Cal P w K mg base 11 "_law_same_sizes" (spSss C K)) (c_views_swapped : Cal P w K mg base 6 "_law_views_swapped" spVsw) (in_Machine : InO P w K mg base 2 C (spInL C K)) {cdv : Value} {A : Around} {outer : List Env} {s : Shared} {H : Hp} {E : XK} (hr : Room 12 (A.deeper (envOfC "law" (defScope s_law) s.heap.objs.size f cdv))) :
    ∃ t', PSs (cxOf CX0 P w K mg base N_law "law" (defScope s_law) f cdv A outer s H E).nox ((defBody s_law).drop 15) t' ∧ ∀ (D : Ends) (J : Hp) (s d2 p2 U n kp B o : Addr) (ns ds2 : List Int) (zu zt : List (Addr × List (Option Nat))) (L0 : Lg) (R R2 : Tbl) (v1 v2 v3 v4 : Option V), LwS C K J s d2 p2 U n kp B o ns ds2 zu zt L0 R R2 → (∀ H', D.rt (.bl true) H') → t' D [some (.ref s), v1, v2, v3, v4, some (.ref U), some (.ref d2), some (.ref p2), some (.ref n), some (.ref kp), none, some (.ref B), some (.ref o), none, none, none, none, none, none] J := by
  refine ⟨_, (pss_cons (ps_set (i := 13) sc_law.nd rfl (by first | exact .inl rfl | exact .inr rfl) (pe_cl c_every_text hr (by decide) (by rfl) (pa_cons pe_int pa_nil)))
      (pss_cons (ps_for PassesOwn.never rfl (pi_range2 (by rfl) m_range (pa_cons pe_int (pa_cons (pe_callB (call_max2 rfl) (by rfl) m_max (by decide +kernel) (pa_cons pe_int (pa_cons (pe_callB call_len_seq (by rfl) m_len PySem.boot_len (pa_cons (pv 0) pa_nil)) pa_nil))) pa_nil))) (pg_name (i := 14) sc_law.nd rfl (by first | exact .inl rfl | exact .inr rfl))
        (pss_cons (ps_set (i := 15) sc_law.nd rfl (by first | exact .inl rfl | exact .inr rfl) (pe_cl c_draws hr (by decide) (by rfl) (pa_cons (pe_op op_add (pe_cl c_cell hr (by decide) (by rfl) (pa_cons (pv 0) (pa_cons (pv 14) pa_nil))) (pv 14)) (pa_cons pe_int pa_nil))))
      (pss_cons (ps_set (i := 16) sc_law.nd rfl (by first | exact .inl rfl | exact .inr rfl) (pe_lst (pa_cons pe_int pa_nil)))
      (pss_cons (ps_expr (pe_bm PySem.F.plainAttrs_list PySem.F.slot_list_append PySem.F.type_list_append mt_append (pv 13) (pa_cons (pe_ix ix_tup (pe_cl c_exchange hr (by decide) (by rfl) (pa_cons (pv 15) (pa_cons (pv 16) (pa_cons pe_int pa_nil)))) pe_int (fun _ _ => rfl)) pa_nil)))
      (pss_one (ps_if (pt_cmpR op_gt (pe_callB call_len_seq (by rfl) m_len PySem.boot_len (pa_cons (pv 5) pa_nil)) pe_int (nomark _)) (pss_one (ps_expr (pe_bm PySem.F.plainAttrs_list PySem.F.slot_list_append PySem.F.type_list_append mt_append (pv 13) (pa_cons (pe_cl c_drawn_text hr (by decide) (by rfl) (pa_cons (pv 11) (pa_cons (pe_op op_mod (pe_callTy call_int1 (by rfl) m_int (by decide +kernel) (pa_cons (pe_ix ix_list (pv 15) pe_int (fun _ _ => rfl)) pa_nil)) pe_int) (pa_cons (pv 15) (pa_cons (pv 16) pa_nil))))) pa_nil)))) pss_nil))))))
      (pss_cons (ps_for PassesOwn.never rfl (pi_list (pv 13)) (pg_name (i := 17) sc_law.nd rfl (by first | exact .inl rfl | exact .inr rfl))
        (pss_one (ps_if (pt_cmpR op_ne (pe_cmpR (op_ownIn in_Machine hr (by decide)) (pv 17) (pv 12) (by rfl)) (pe_cl c_allows hr (by decide) (by rfl) (pa_cons (pv 5) (pa_cons (pe_cl c_swapped_fates hr (by decide) (by rfl) (pa_cons (pv 17) pa_nil)) pa_nil))) (nomark _)) (pss_one (ps_ret pe_bl)) pss_nil)))
      (pss_cons (ps_set (i := 18) sc_law.nd rfl (by first | exact .inl rfl | exact .inr rfl) (pe_lst (pa_cons pe_int (pa_cons pe_int (pa_cons pe_int (pa_cons pe_int (pa_cons (pe_op op_mod (pe_callTy call_int1 (by rfl) m_int (by decide +kernel) (pa_cons (pe_cl c_take hr (by decide) (by rfl) (pa_cons (pv 6) (pa_cons (pv 7) pa_nil))) pa_nil)) pe_int) (pa_cons (pe_op op_mod (pe_callTy call_int1 (by rfl) m_int (by decide +kernel) (pa_cons (pe_cl c_take hr (by decide) (by rfl) (pa_cons (pv 6) (pa_cons (pv 7) pa_nil))) pa_nil)) pe_int) pa_nil))))))))
      (pss_cons (ps_if (PW.pt (pw_or (pt_not (pt_val (pe_cl c_same_sizes hr (by decide) (by rfl) (pa_cons (pv 8) (pa_cons (pv 12) (pa_cons (pv 18) pa_nil)))))) (pw_or1 (pt_not (pt_val (pe_cl c_views_swapped hr (by decide) (by rfl) (pa_cons (pe_cl c_exchange hr (by decide) (by rfl) (pa_cons (pv 6) (pa_cons (pv 7) (pa_cons pe_int pa_nil)))) pa_nil))))))) (pss_one (ps_ret pe_bl)) pss_nil)
      (pss_one (ps_ret (pe_cmpR (op_eqD hr.units) (pv 9) (pe_tup (pa_cons (pe_fld (pv 8) rfl) (pa_cons (pe_fld (pv 8) rfl) (pa_cons (pe_fld (pv 8) rfl) pa_nil)))) (nomark _))))))))), fun D J s d2 p2 U n kp B o ns ds2 zu zt L0 R R2 v1 v2 v3 v4 h qq => ?_⟩
  walk_at "go"
  intro Tx fs J1 s1 nTx eTx tf lf
  walk_at "go"
  refine ⟨s, _, rfl, .inl (s1.seq h.sS), ?_⟩
  have ln := h.ln
  obtain ⟨tp, etp, tp2, tp63⟩ : ∃ tp : Nat, (if ((ns.map V.int).length : Int) > 6 then ((ns.map V.int).length : Int) else 6) = (tp : Int) ∧ 2 ≤ tp ∧ tp ≤ 63 := by
    rw [List.length_map]
    refine ⟨(if (ns.length : Int) > 6 then (ns.length : Int) else 6).toNat, ?_, ?_, ?_⟩ <;> split <;> omega
  walk_at "go"
  rw [etp]
  have lT : (tb zu).length = zu.length := List.length_map ..
  have ndL : LT.Nodup := by decide
  refine for_gen (n := tp - 2) (fun k σ J' => Same J J' ∧ ∃ (fs : List (List Nat)) (v14 v15 v16 : Option V), J' Tx = some (.lst (fs.map tv)) ∧ TxL 100 fs ∧ fs.length ≤ 200 + 2 * k ∧ σ = [some (.ref s), v1, v2, v3, v4, some (.ref U), some (.ref d2), some (.ref p2), some (.ref n), some (.ref kp), none, some (.ref B), some (.ref o), some (.ref Tx), v14, v15, v16, none, none]) ⟨s1, fs, none, none, none, eTx, tf.le (by decide), by omega, rfl⟩ ?_ ?_ ?_ ?_
  · intro k σ J' hk _
    show k < ((tp : Int) - 2).toNat
    omega
  · intro σ J' _
    show ((tp : Int) - 2).toNat ≤ tp - 2
    omega
  · clear fs eTx tf lf s1
    rintro k σ J2 x J3 hk ⟨s2, fs, v14, v15, v16, eTx, tf, lf, rfl⟩ ⟨rfl, rfl⟩
    rw [show (2 : Int) + (k : Int) = ((2 + k : Nat) : Int) by omega]
    walk_at "go"
    refine ⟨s, ns, 2 + k, rfl, s2.seq h.sS, ?_⟩
    walk_at "go"
    intro d3 ds3 nd3 dr3
    have sd3 := same_new (o := .lst (ds3.map V.int)) nd3
    have ed3 : (upd J3 d3 (.lst (ds3.map V.int))) d3 = some (.lst (ds3.map V.int)) := upd_same
    have Td3 : Tx ≠ d3 := ne_of_none eTx nd3
    generalize upd J3 d3 (.lst (ds3.map V.int)) = J4 at sd3 ed3
    have eT4 := sd3 _ _ eTx
    have s4 := s2.trans sd3
    walk_at "go"
    intro a3 na3
    generalize eH_ : upd J4 a3 _ = J5
    have s5 : Same J4 J5 := by rw [← eH_]; exact same_new na3
    have ea3 : J5 a3 = some (.lst [.int 0]) := by rw [← eH_]; exact upd_same
    clear eH_
    have eT5 := s5 _ _ eT4
    have na3J := none_of s4 na3
    have s05 := s4.trans s5
    have Ta3 : Tx ≠ a3 := ne_of_none eT4 na3
    have hT5 : Tk K d3 a3 ds3 70 J5 J5 := ⟨s5 _ _ ed3, dr3, ne_of_none ed3 na3, Z.Same.sb (Same.refl _), 0, ea3⟩
    walk_at "go"
    refine ⟨.inl ⟨rfl, _, SqL.of eT5⟩, ?_⟩
    walk_at "go"
    refine ⟨d3, a3, 70, ds3, 60, rfl, hT5, by decide, by decide, fun t x y l J6 hT6 nt et hD => ?_⟩
    obtain ⟨X, rfl, fX⟩ := ftx_ex hD.2.2.1
    have lX : X.length ≤ 60 := by have := hD.2.2.2; rw [ftx_len] at this; exact this
    have eT6 := hT6.up eT5 Ta3
    have s06 : Same J J6 := fun c u e => hT6.sb c u (fun z => by rw [z, na3J] at e; cases e) (s05 c u e)
    walk_at "go"
    refine ⟨t, _, _, _, rfl, rfl, SqT.of et, atI_nat (j := 2) rfl, ?_⟩
    refine ⟨Tx, _, _, rfl, rfl, eT6, szl (by rw [List.length_map]; show fs.length + 1 ≤ 2000; omega), ?_⟩
    have s07 := Z.Same.mut (o := .lst (fs.map tv ++ [.str (S (ftx X))])) s06 nTx
    have eT7 : (upd J6 Tx (.lst (fs.map tv ++ [.str (S (ftx X))]))) Tx = some (.lst ((fs ++ [X]).map tv)) := by rw [upd_same, List.map_append]; rfl
    have hT7 : Tk K d3 a3 ds3 70 (upd J6 Tx (.lst (fs.map tv ++ [.str (S (ftx X))]))) (upd J6 Tx (.lst (fs.map tv ++ [.str (S (ftx X))]))) := by
      obtain ⟨m6, em6⟩ := hT6.pl
      exact ⟨by rw [upd_ne Td3.symm]; exact hT6.hA, dr3, hT6.ne, Z.Same.sb (Same.refl _), m6, by rw [upd_ne Ta3.symm]; exact em6⟩
    generalize upd J6 Tx (.lst (fs.map tv ++ [.str (S (ftx X))])) = J7 at s07 eT7 hT7
    have tf7 : TxL 100 (fs ++ [X]) := tf.app fun Y hY => by rw [List.mem_singleton.mp hY]; exact ⟨fX, by omega⟩
    have lf7 : (fs ++ [X]).length ≤ 201 + 2 * k := by rw [List.length_append]; show fs.length + 1 ≤ _; omega
    generalize fs ++ [X] = fs7 at eT7 tf7 lf7
    clear hT5 hT6 s06 s05 s4 s5 sd3 ed3 eTx eT4 eT5 eT6 tf lf et nt hD
    have trU7 := h.trU.mono s07
    have trB7 := h.trB.mono s07
    walk_at "go"
    refine ⟨U, _, rfl, .inl (SqL.of trU7.sq), ?_⟩
    rw [List.length_map]
    walk_at "go"
    refine ite2 (fun e => ?_) (fun _ => ?_)
    · have e := of_decide_eq_true e
      have z0 : 0 < zu.length := by omega
      have lB : zt.length = zu.length := by
        have := congrArg List.length h.et
        unfold tb swT at this
        rw [List.length_map, List.length_map, List.length_map] at this
        exact this
      obtain ⟨j0, a0, p0⟩ : ∃ j : Int, atI (ds3.map V.int) 0 = some (.int j) ∧ 0 ≤ j := by
        have hl : 0 < ds3.length := by rw [dr3.1]; decide
        exact ⟨ds3[0], at_map (i := 0) (List.getElem?_eq_getElem hl), (dr3.2 _ (List.getElem_mem hl)).1⟩
      obtain ⟨m8, em8, hm8⟩ : ∃ m : Nat, j0 % 8 = (m : Int) ∧ m < 8 := ⟨(j0 % 8).toNat, by omega, by omega⟩
      walk_at "go"
      refine ⟨.inl ⟨rfl, _, SqL.of eT7⟩, ?_⟩
      walk_at "go"
      refine ⟨d3, _, _, _, rfl, rfl, SqL.of hT7.hA, a0, ?_⟩
      walk_at "go"
      have Ba3 : B ≠ a3 := fun z => by have := h.trB.sq; rw [z, na3J] at this; cases this
      have za3 : ∀ z ∈ zt, z.1 ≠ a3 := fun z hz w => by have := h.trB.at_ z hz; rw [w, na3J] at this; cases this
      refine ⟨B, d3, a3, zt, m8, 70, ds3, by rw [← em8]; rfl, trB7, by rw [h.et]; exact wf_swT h.wfU, by omega, by have := h.lzU; omega, by rw [h.et]; exact nxt_sw h.wfU (by omega) h.hL, by omega, hT7, Ba3, za3, fun Y J8 hT8 fY lY => ?_⟩
      have eT8 := hT8.up eT7 Ta3
      have s08 : Same J J8 := fun c u e => hT8.sb c u (fun z => by rw [z, na3J] at e; cases e) (s07 c u e)
      walk_at "go"
      refine ⟨Tx, _, _, rfl, rfl, eT8, szl (by rw [List.length_map]; show fs7.length + 1 ≤ 2000; omega), ?_⟩
      refine ⟨Z.Same.mut s08 nTx, fs7 ++ [Y], _, _, _, by rw [upd_same, List.map_append]; rfl, tf7.app fun Z hZ => by rw [List.mem_singleton.mp hZ]; exact ⟨fY, by omega⟩, by rw [List.length_append]; show fs7.length + 1 ≤ _; omega, rfl⟩
    · exact ⟨s07, fs7, _, _, _, eT7, tf7, by omega, rfl⟩
  · clear fs eTx tf lf s1
    rintro σ J2 ⟨s2, fs, v14, v15, v16, eTx, tf, lf, rfl⟩
    walk_at "go"
    refine ⟨⟨_, SqL.of eTx⟩, ?_⟩
    refine for_gen (n := fs.length) (fun i σ J' => Same J2 J' ∧ ∃ v17 : Option V, σ = [some (.ref s), v1, v2, v3, v4, some (.ref U), some (.ref d2), some (.ref p2), some (.ref n), some (.ref kp), none, some (.ref B), some (.ref o), some (.ref Tx), v14, v15, v16, v17, none]) ⟨Same.refl _, none, rfl⟩ ?_ ?_ ?_ ?_
    · rintro i σ J' hi ⟨sj, _⟩
      exact ⟨_, tv fs[i], SqL.of (sj _ _ eTx), by rw [List.getElem?_map, List.getElem?_eq_getElem hi]; rfl⟩
    · rintro σ J' ⟨sj, _⟩
      exact ⟨_, SqL.of (sj _ _ eTx), by rw [List.length_map]; exact Nat.le_refl _⟩
    · rintro i σ J' x J3 hi ⟨sj, v17, rfl⟩ ⟨rfl, ex⟩
      have ex := ex _ (SqL.of (sj _ _ eTx))
      rw [List.getElem?_map, List.getElem?_eq_getElem hi] at ex
      cases ex
      obtain ⟨fX, lX⟩ := tf _ (List.getElem_mem hi)
      generalize fs[i] = X at fX lX
      have s03 := s2.trans sj
      have hO3 := h.hO.mono s03
      obtain ⟨dxo, ro, uo, eo⟩ := hO3.ins
      walk_at "go"
      refine ⟨o, dxo, _, rfl, eo, o, LT, ftx X, 12, _, rfl, hO3, ndL, fun b1 hb1 => ⟨b1, rfl, ?_⟩⟩
      rw [txl_ftx fX] at hb1
      walk_at "go"
      intro J4 s4
      walk_at "go"
      refine ⟨U, zu, X.map sw, rfl, h.trU.mono (s03.trans s4), h.wfU, by have := h.lzU; omega, fX.sw, by rw [List.length_map]; omega, fun b2 hb2 => ?_⟩
      have hb : b1 = b2 := by
        have key : b1 = true ↔ b2 = true := by
          rw [hb1, hb2, ← h.hL]
          refine ⟨fun ⟨t, e, _⟩ => ⟨t, e⟩, fun ⟨t, e⟩ => ⟨t, e, List.mem_range.mpr (rn_lt h.wfU (st_lt' _) e)⟩⟩
        cases b1 <;> cases b2 <;> simp_all
      subst hb
      walk_at "go"
      refine ite2 (fun e => absurd e (by cases b1 <;> decide)) (fun _ => ?_)
      exact ⟨sj.trans s4, _, rfl⟩
    · rintro σ J3 ⟨sj, v17, rfl⟩
      have s03 := s2.trans sj
      have hT3 := (h.hT.more s03).slf
      have hM3 := h.hM.mono s03
      have hO3 := h.hO.mono s03
      have kep3 := h.kep.mono s03
      clear sj s2 eTx tf lf
      obtain ⟨m3, em3⟩ := hT3.pl
      walk_at "go"
      refine ⟨d2, p2, 70, m3, ds2, rfl, SqL.of hT3.hA, hT3.hd, em3, hT3.ne, fun r1 r10 r11 => ?_⟩
      obtain ⟨hT4, sb4⟩ := hT3.next em3
      have em4 : (upd J3 p2 (.lst [.int ((m3 + 1 : Nat) : Int)])) p2 = some (.lst [.int ((m3 + 1 : Nat) : Int)]) := upd_same
      generalize upd J3 p2 (.lst [.int ((m3 + 1 : Nat) : Int)]) = J4 at hT4 sb4 em4
      walk_at "go"
      refine ⟨d2, p2, 70, m3 + 1, ds2, rfl, SqL.of hT4.hA, hT4.hd, em4, hT4.ne, fun r2 r20 r21 => ?_⟩
      obtain ⟨hT5, sb5⟩ := hT4.next em4
      have em5 : (upd J4 p2 (.lst [.int ((m3 + 1 + 1 : Nat) : Int)])) p2 = some (.lst [.int ((m3 + 1 + 1 : Nat) : Int)]) := upd_same
      generalize upd J4 p2 (.lst [.int ((m3 + 1 + 1 : Nat) : Int)]) = J5 at hT5 sb5 em5
      have hM5 := (hM3.sb em3 sb4).sb em4 sb5
      have hO5 := (hO3.sb em3 sb4).sb em4 sb5
      have kep5 := (kep3.sb em3 sb4).sb em4 sb5
      clear hM3 hO3 kep3 sb4 sb5 em3 em4
      obtain ⟨c9, ec9, hc9⟩ : ∃ c : Nat, r1 % 9 = (c : Int) ∧ c < 9 := ⟨(r1 % 9).toNat, by omega, by omega⟩
      obtain ⟨c41, ec41, hc41⟩ : ∃ c : Nat, r2 % 41 = (c : Int) ∧ c < 41 := ⟨(r2 % 41).toNat, by omega, by omega⟩
      walk_at "go"
      dsimp only
      rw [ec9, ec41]
      intro Cn nCn
      generalize eH_ : upd J5 Cn _ = J6
      have s6 : Same J5 J6 := by rw [← eH_]; exact same_new nCn
      have eCn : J6 Cn = some (.lst (gsq [0, 1, 2, 3, c9, c41])) := by rw [← eH_]; exact upd_same
      clear eH_
      have hM6 := hM5.mono s6
      have hO6 := hO5.mono s6
      have kep6 := kep5.mono s6
      have hT6 := (hT5.more s6).slf
      obtain ⟨m6, em6⟩ := hT6.pl
      have sam := sam_of h.hU h.hU2 fun w => Iff.rfl
      have hcs : ∀ c ∈ [0, 1, 2, 3, c9, c41], c ≤ 40 := fun c hc => by
        simp only [List.mem_cons, List.not_mem_nil, or_false] at hc
        omega
      have lcs : ([0, 1, 2, 3, c9, c41] : List Nat).length ≤ 100 := (show (6 : Nat) ≤ 100 by decide)
      generalize [0, 1, 2, 3, c9, c41] = cs at eCn hcs lcs
      walk_at "go"
      refine ⟨n, o, Cn, 12, 12, L0, _, R, R2, cs, rfl, hM6, Nat.le_refl _, hO6, Nat.le_refl _, h.hU, h.hU2, sam, eCn, hcs, lcs, fun J7 s7 => ?_⟩
      have hT7 := (hT6.more s7).slf
      have kep7 := kep6.mono s7
      have em7 := s7 _ _ em6
      walk_at "go"
      refine ⟨d2, p2, 70, ds2, 60, rfl, hT7, by decide, by decide, fun t x y l J8 hT8 nt et hD => ?_⟩
      have kep8 := kep7.sb em7 hT8.sb
      walk_at "go"
      refine ⟨t, x, y, l, rfl, et, hD, fun J9 s9 => ?_⟩
      obtain ⟨dxn, r, u, zr, g, en, ekp, hR, eu⟩ := kep8.mono s9
      walk_at "go"
      intro kq nkq
      have s10 := same_new (o := .tup [.str (S LT), .ref r, .ref u]) nkq
      have ekq : (upd J9 kq (.tup [.str (S LT), .ref r, .ref u])) kq = some (.tup [.str (S LT), .ref r, .ref u]) := upd_same
      generalize upd J9 kq (.tup [.str (S LT), .ref r, .ref u]) = J10 at s10 ekq
      have dk : ∀ {t : Addr}, J10 t = some (.tup [.str (S LT), .ref r, .ref u]) → Dp K J10 (.ref t) (kD (tb zr) g) := fun e => .tup (SqT.of e) (.cons (.str _) (.cons (hR.mono s10).dp (.cons (dp_nat (b := false) (SqT.of (s10 _ _ eu))) .nil)))
      refine ⟨_, _, dk (s10 _ _ ekp), dk ekq, shaped_kD _ _, shaped_kD _ _, ?_⟩
      rw [SeqAt.eqv_refl _ (SeqAt.canLay_of_shaped (shaped_kD _ _))]
      exact qq _
end
end Z
set_option pp.maxSteps 700
set_option Elab.async false
set_option linter.all false
set_option maxRecDepth 100000
set_option maxHeartbeats 4000000
open SX (S S_inj S_len S_cat)
namespace Z
open Mc
open PySem PySem.Spec PyProof.Rows L2
open C8 (pss_cut tCut)
local macro_rules | `(tactic| walk_at "num") => `(tactic| first | rfl | omega | decide | exact Nat.le_of_lt (small1000 (by simp)) | exact ⟨by omega, by omega⟩ | exact ⟨by omega, by omega, by omega⟩ | exact ⟨by decide, by decide, by decide⟩ | exact Or.inl ⟨by omega, by omega⟩ | exact Or.inr ⟨by omega, by omega⟩)
local macro_rules | `(tactic| walk_at "go") => `(tactic| repeat (first | refine ⟨_, rfl, ?_⟩ | refine ⟨_, _, rfl, rfl, ?_⟩ | refine ⟨_, _, rfl, ?_⟩ | (refine ⟨_, _, rfl, rfl, ?_, ?_⟩; focus walk_at "num") | refine Or.inl ⟨_, rfl, ?_⟩ | refine ⟨_, _, _, _, rfl, rfl, (by assumption), (by rfl), ?_⟩ | refine ⟨_, _, _, _, _, rfl, (by assumption), (by assumption), (by assumption), (by rfl), ?_⟩ | refine ⟨rfl, ?_⟩ | (refine And.intro ?_ ?_; focus walk_at "num")))
theorem dr_at0 {n : Nat} {ds : List Int} (h : Dr n ds) {i : Nat} (hi : i < n) : ∃ j : Int, atI (ds.map V.int) (i : Int) = some (.int j) ∧ 0 ≤ j := by
  have hl : i < ds.length := by rw [h.1]; exact hi
  exact ⟨ds[i], at_map (List.getElem?_eq_getElem hl), (h.2 _ (List.getElem_mem hl)).1⟩
theorem unl_rule {L : Lg} (w : List Nat) : UnL (fun v => UnL L (v.map sw)) (w.map sw) ↔ UnL L w := by
  rw [← unl_sw (M := fun v => UnL L (v.map sw))]
  have e : ∀ v : List Nat, UnL L ((v.map sw).map sw) ↔ UnL L v := fun v => by rw [sw_map]
  exact (UnL.congr e w).trans unl_unl
theorem unl_other {L : Lg} (w : List Nat) : UnL (fun v => UnL L (v.map sw)) w ↔ UnL L (w.map sw) := by
  rw [unl_sw (M := UnL L)]
  exact unl_unl
section
variable {P : Program} {w : World} {K : PySem.W.Frag} {mg : Str → Option Value} {base : Heap} {f C : Addr} {fd : FuncData}
def spLaw (K : PySem.W.Frag) : Sp := fun vs H Q _ => ∃ (a : Addr) (ns : List Int), vs = [.ref a] ∧ SqL K H a (ns.map V.int) ∧ ns.length ≤ 63 ∧ ∀ H', Q (.bl true) H'
theorem ok_law (F : FnP K "law" s_law f fd) (isC : C8.InsC K C) (m_isinstance : mg "isinstance" = none) (g_Machine : mg "Machine" = some (.ref C)) (m_int : mg "int" = none) (m_len : mg "len" = none) (m_list : mg "list" = none) (m_tuple : mg "tuple" = none) (m_range : mg "range" = none) (m_max : mg "max" = none) (cls : Cls K C) (n_letters : NoAttr K C "letters") (n_rows : NoAttr K C "rows") (n_good : NoAttr K C "good") (c_cell : Cal P w K mg base 1 "_law_cell" (spCell K)) (c_draws : Cal P w K mg base 1 "_law_draws" spDraws) (c_take : Cal P w K mg base 1 "_law_take" (spTake K)) (c_table : Cal P w K mg base 3 "_law_table" (spTbl K)) (c_good : Cal P w K mg base 2 "_law_good" (spGod K)) (c_unending : Cal P w K mg base 2 "_law_unending" (spUnd K)) (c_sure : Cal P w K mg base 3 "_law_sure" (spSure K)) (c_rule : Cal P w K mg base 6 "_law_rule" (spRul C K)) (c_normal : Cal P w K mg base 2 "_law_normal" (spNrl K)) (c_swapped : Cal P w K mg base 7 "swapped" (spSwp C K)) (me_unending : Met P w K mg base 6 C "unending" (spMe UnL C K)) (e_Machine : Eqo P w K mg base 1 C (spEqL C K)) (c_exchange : Cal P w K mg base 2 "_law_exchange" (spLex K)) (c_drawn_text : Cal P w K mg base 2 "_law_drawn_text" (spDwt K)) (c_every_text : Cal P w K mg base 1 "_law_every_text" spEvt) (c_allows : Cal P w K mg base 1 "_law_allows" (spAlw K)) (c_swapped_fates : Cal P w K mg base 1 "_law_swapped_fates" spSwf) (c_same_sizes : Cal P w K mg base 11 "_law_same_sizes" (spSss C K)) (c_views_swapped : Cal P w K mg base 6 "_law_views_swapped" spVsw) (in_Machine : InO P w K mg base 2 C (spInL C K)) : FnOk P w K mg base CX0 13 f fd P_law (spLaw K) := by
  refine F.ok sc_law (fun vs H Q E h => ?_) (fun cdv A outer s H vs Q E hr h => ?_)
  · obtain ⟨s, ns, rfl, _⟩ := h
    rfl
  · obtain ⟨s0, ns, rfl, hS, ln, q⟩ := h
    obtain ⟨t15, h15, w15⟩ := law_t15 (P := P) (w := w) (base := base) (outer := outer) (H := H) (E := E) (s := s) F m_int m_len m_range m_max cls n_letters n_rows n_good c_cell c_draws c_take c_exchange c_drawn_text c_every_text c_allows c_swapped_fates c_same_sizes c_views_swapped in_Machine hr
    refine ⟨_, PSs.nox (pss_cons (ps_set (i := 1) sc_law.nd rfl (by first | exact .inl rfl | exact .inr rfl) (pe_cl c_draws hr (by decide) (by rfl) (pa_cons (pe_cl c_cell hr (by decide) (by rfl) (pa_cons (pv 0) (pa_cons pe_int pa_nil))) (pa_cons pe_int pa_nil))))
      (pss_cons (ps_set (i := 2) sc_law.nd rfl (by first | exact .inl rfl | exact .inr rfl) (pe_lst (pa_cons pe_int pa_nil)))
      (pss_cons (ps_set (i := 3) sc_law.nd rfl (by first | exact .inl rfl | exact .inr rfl) (pe_cl c_table hr (by decide) (by rfl) (pa_cons (pv 1) (pa_cons (pv 2) pa_nil))))
      (pss_cons (ps_set (i := 4) sc_law.nd rfl (by first | exact .inl rfl | exact .inr rfl) (pe_cl c_good hr (by decide) (by rfl) (pa_cons (pe_callB call_len_seq (by rfl) m_len PySem.boot_len (pa_cons (pv 3) pa_nil)) (pa_cons (pv 1) (pa_cons (pv 2) pa_nil)))))
      (pss_cons (ps_set (i := 5) sc_law.nd rfl (by first | exact .inl rfl | exact .inr rfl) (pe_cl c_unending hr (by decide) (by rfl) (pa_cons (pv 3) (pa_cons (pv 4) pa_nil))))
      (pss_cons (ps_set (i := 6) sc_law.nd rfl (by first | exact .inl rfl | exact .inr rfl) (pe_cl c_draws hr (by decide) (by rfl) (pa_cons (pe_cl c_cell hr (by decide) (by rfl) (pa_cons (pv 0) (pa_cons pe_int pa_nil))) (pa_cons pe_int pa_nil))))
      (pss_cons (ps_set (i := 7) sc_law.nd rfl (by first | exact .inl rfl | exact .inr rfl) (pe_lst (pa_cons pe_int pa_nil)))
      (pss_cut (ps_if (pt_cmpR op_eq (pe_op op_mod (pe_callTy call_int1 (by rfl) m_int (by decide +kernel) (pa_cons (pe_cl c_take hr (by decide) (by rfl) (pa_cons (pv 6) (pa_cons (pv 7) pa_nil))) pa_nil)) pe_int) pe_int (nomark _)) (pss_one (ps_set (i := 5) sc_law.nd rfl (by first | exact .inl rfl | exact .inr rfl) (pe_cl c_sure hr (by decide) (by rfl) (pa_cons (pv 3) (pa_cons (pv 4) (pa_cons (pv 1) (pa_cons (pv 2) pa_nil))))))) pss_nil)
      (pss_cons (ps_set (i := 8) sc_law.nd rfl (by first | exact .inl rfl | exact .inr rfl) (pe_cl c_rule hr (by decide) (by rfl) (pa_cons (pv 3) (pa_cons (pv 4) pa_nil))))
      (pss_cons (ps_set (i := 9) sc_law.nd rfl (by first | exact .inl rfl | exact .inr rfl) (pe_tup (pa_cons (pe_fld (pv 8) rfl) (pa_cons (pe_fld (pv 8) rfl) (pa_cons (pe_fld (pv 8) rfl) pa_nil)))))
      (pss_cons (ps_setLc (i := 11) (own := [("_law_row_here", 10)]) (g := (gName 10)) (tt := tYes) (by rfl) sc_law.nd rfl rfl (sw_true rfl rfl rfl (by decide +kernel)) (pi_list (pv 5)) (blkOk_by (own := [("_law_row_here", 10)]) (N := N_law) (sc := defScope s_law) (by decide +kernel)) (fun _ _ _ _ _ => (pg_name (i := 10) sc_law.nd rfl (by first | exact .inl rfl | exact .inr rfl))) (fun _ _ _ _ _ => pts_nil) (fun _ _ _ _ _ => (pe_lst (pa_cons (pe_ix (ix_list_K (K := K) rfl) (pv 10) pe_int (fun _ _ => rfl)) (pa_cons (pe_ix (ix_list_K (K := K) rfl) (pv 10) pe_int (fun _ _ => rfl)) (pa_cons (pe_ix (ix_list_K (K := K) rfl) (pv 10) pe_int (fun _ _ => rfl)) (pa_cons (pe_ix (ix_list_K (K := K) rfl) (pv 10) pe_int (fun _ _ => rfl)) pa_nil)))))))
      (pss_cons (ps_set (i := 12) sc_law.nd rfl (by first | exact .inl rfl | exact .inr rfl) (pe_cl c_swapped hr (by decide) (by rfl) (pa_cons (pv 8) pa_nil)))
      (pss_cons (ps_if (PW.pt (pw_or (pt_not (pt_val (pe_callB (C8.call_isC isC) (by rfl) m_isinstance (by decide +kernel) (pa_cons (pv 12) (pa_cons (pe_glob (by rfl) g_Machine relv_ref) pa_nil))))) (pw_or1 (pt_cmpR op_ne (pe_fld (pv 12) rfl) pe_str (nomark _))))) (pss_one (ps_ret pe_bl)) pss_nil)
      (pss_cons (ps_if (PW.pt (pw_or (pt_cmpR (op_neD hr.units) (pe_lc (own := [("_law_row_here", 10)]) (g := (gName 10)) (tt := tYes) (by rfl) sc_law.nd (pi_tup (pe_fld (pv 12) rfl)) (blkOk_by (own := [("_law_row_here", 10)]) (N := N_law) (sc := defScope s_law) (by decide +kernel)) (fun _ _ _ _ _ => (pg_name (i := 10) sc_law.nd rfl (by first | exact .inl rfl | exact .inr rfl))) (fun _ _ _ _ _ => pts_nil) (fun _ _ _ _ _ => (pe_callTy (call_list_of_K (K := K) rfl) (by rfl) m_list (by decide +kernel) (pa_cons (pv 10) pa_nil)))) (pe_cl c_normal hr (by decide) (by rfl) (pa_cons (pv 11) pa_nil)) (nomark _)) (pw_or1 (pt_cmpR (op_neD hr.units) (pe_fld (pv 12) rfl) (pe_tupRg rfl (by rfl) m_tuple (prg_1 (by rfl) m_range (pe_callB call_len_seq (by rfl) m_len PySem.boot_len (pa_cons (pe_fld (pv 12) rfl) pa_nil)))) (nomark _))))) (pss_one (ps_ret pe_bl)) pss_nil)
      (pss_cons (ps_if (PW.pt (pw_or (pt_not (pt_cmpR (op_own e_Machine hr (by decide)) (pe_cl c_swapped hr (by decide) (by rfl) (pa_cons (pv 12) pa_nil)) (pe_me0 me_unending (pv 8) hr (by decide)) (nomark _))) (pw_or (pt_not (pt_cmpR (op_own e_Machine hr (by decide)) (pe_me0 me_unending (pv 12) hr (by decide)) (pv 12) (nomark _))) (pw_or1 (pt_not (pt_cmpR (op_own e_Machine hr (by decide)) (pe_cl c_swapped hr (by decide) (by rfl) (pa_cons (pv 8) pa_nil)) (pv 12) (nomark _))))))) (pss_one (ps_ret pe_bl)) pss_nil)
      h15))))))))))))))), ?_⟩
    rw [show L2.start N_law [V.ref s0] = some (.ref s0) :: List.replicate 18 none from rfl]
    dsimp only [List.replicate, List.set]
    walk_at "go"
    refine ⟨s0, ns, 0, rfl, hS, ?_⟩
    walk_at "go"
    intro d1 ds1 nd1 dr1
    have sd1 := same_new (o := .lst (ds1.map V.int)) nd1
    have ed1 : (upd H d1 (.lst (ds1.map V.int))) d1 = some (.lst (ds1.map V.int)) := upd_same
    generalize upd H d1 (.lst (ds1.map V.int)) = J5 at sd1 ed1
    walk_at "go"
    intro pp npp
    generalize eH_ : upd J5 pp _ = J6
    have s6 : Same J5 J6 := by rw [← eH_]; exact same_new npp
    have epp : J6 pp = some (.lst [.int 0]) := by rw [← eH_]; exact upd_same
    clear eH_
    have hT0 : Tk K d1 pp ds1 190 J6 J6 := ⟨s6 _ _ ed1, dr1, ne_of_none ed1 npp, Z.Same.sb (Same.refl _), 0, epp⟩
    have nppH := none_of sd1 npp
    have s56 := sd1.trans s6
    have ed6 := s6 _ _ ed1
    walk_at "go"
    refine ⟨d1, pp, 190, ds1, rfl, hT0, fun A zs J7 hT2 nA tr nzz wf lz => ?_⟩
    have App : A ≠ pp := (ne_of_none epp nA).symm
    have zpp : ∀ z ∈ zs, z.1 ≠ pp := fun z m => (ne_of_none epp (nzz z m)).symm
    have zd1 : ∀ z ∈ zs, z.1 ≠ d1 := fun z m => (ne_of_none ed6 (nzz z m)).symm
    have zH : ∀ z ∈ zs, H z.1 = none := fun z m => none_of s56 (nzz z m)
    have s57 : Same H J7 := fun c u e => hT2.sb c u (fun z => by rw [z, nppH] at e; cases e) (s56 c u e)
    walk_at "go"
    refine ⟨A, _, rfl, .inl (SqL.of tr.sq), ?_⟩
    rw [List.length_map]
    walk_at "go"
    refine ⟨d1, pp, zs.length, 190, ds1, rfl, hT2.slf, lz, fun gv gs J8 hT3 ngv hG => ?_⟩
    have s58 : Same H J8 := fun c u e => hT3.sb c u (fun z => by rw [z, nppH] at e; cases e) (s57 c u e)
    have tr8 : TbR J8 A zs := ⟨hT3.up tr.sq App, fun z m => hT3.up (tr.at_ z m) (zpp z m)⟩
    have gvs : ∀ g, gv = .ref g → g ≠ pp ∧ ∀ z ∈ zs, z.1 ≠ g := fun g e => by
      have ng := ngv g e
      obtain ⟨m, em⟩ := hT2.pl
      exact ⟨(ne_of_none em ng).symm, fun z m => ne_of_none (tr.at_ z m) ng⟩
    obtain ⟨mp, emp⟩ := hT3.pl
    have hA8 := hT3.hA
    walk_at "go"
    refine ⟨A, gv, zs, gs, rfl, tr8, wf, lz, hG, fun U zu J9 s9 nU trU wfU lzU hL => ?_⟩
    walk_at "go"
    refine ⟨s0, ns, 1, rfl, (s58.trans s9).seq hS, ?_⟩
    walk_at "go"
    intro d2 ds2 nd2 dr2
    have sd2 := same_new (o := .lst (ds2.map V.int)) nd2
    have ed2 : (upd J9 d2 (.lst (ds2.map V.int))) d2 = some (.lst (ds2.map V.int)) := upd_same
    generalize upd J9 d2 (.lst (ds2.map V.int)) = J10 at sd2 ed2
    walk_at "go"
    intro p2 np2
    generalize eH_ : upd J10 p2 _ = J11
    have s11 : Same J10 J11 := by rw [← eH_]; exact same_new np2
    have ep2 : J11 p2 = some (.lst [.int 0]) := by rw [← eH_]; exact upd_same
    clear eH_
    have hT20 : Tk K d2 p2 ds2 70 J11 J11 := ⟨s11 _ _ ed2, dr2, ne_of_none ed2 np2, Z.Same.sb (Same.refl _), 0, ep2⟩
    have s811 := s9.trans (sd2.trans s11)
    have s911 := sd2.trans s11
    have np2J8 : J8 p2 = none := none_of (s9.trans sd2) np2
    have np2J9 : J9 p2 = none := none_of sd2 np2
    have ne1 : d1 ≠ pp := hT0.ne
    have d2H : H d2 = none := none_of (s58.trans s9) nd2
    have p2H : H p2 = none := none_of s58 np2J8
    have d2A : ∀ x : Addr, (∃ o, J8 x = some o) → x ≠ d2 := fun x ⟨o, e⟩ => ne_of_none (s9 _ _ e) nd2
    have p2A : ∀ x : Addr, (∃ o, J8 x = some o) → x ≠ p2 := fun x ⟨o, e⟩ => ne_of_none e np2J8
    walk_at "go"
    refine ⟨fun σ J => Same H J ∧ Tk K d2 p2 ds2 70 J J ∧ ∃ (U : Addr) (zs' : List (Addr × List (Option Nat))), TbR J A zs' ∧ Wf (tb zs') 4 ∧ zs'.length ≤ 12 ∧ GoL J zs'.length gv gs ∧ LvT J U zs' gs ∧ σ = [some (.ref s0), some (.ref d1), some (.ref pp), some (.ref A), some gv, some (.ref U), some (.ref d2), some (.ref p2), none, none, none, none, none, none, none, none, none, none, none], ?_, ?_⟩
    · walk_at "go"
      refine ⟨d2, p2, 70, 0, ds2, rfl, SqL.of hT20.hA, hT20.hd, ep2, hT20.ne, fun r1 r10 r11 => ?_⟩
      obtain ⟨hT21, sb12⟩ := hT20.next ep2
      generalize upd J11 p2 (.lst [.int ((0 + 1 : Nat) : Int)]) = J12 at hT21 sb12
      have s812 : Same J8 J12 := fun c u e => sb12 c u (p2A c ⟨u, e⟩) (s811 c u e)
      have s912 : Same J9 J12 := fun c u e => sb12 c u (fun z => by rw [z, np2J9] at e; cases e) (s911 c u e)
      walk_at "go"
      refine ite2 (fun _ => ?_) (fun _ => ?_)
      · walk_at "go"
        refine ⟨A, d1, pp, gv, zs, gs, 190, mp, ds1, rfl, tr8.mono s812, wf, lz, hG.mono s812, s812 _ _ hA8, dr1, s812 _ _ emp, ne1, App, zpp, zd1, gvs, fun U' zs' J' fr tr' wf' ez' hG' hL' => ?_⟩
        have lz' : zs'.length = zs.length := by
          have := congrArg List.length ez'
          rw [List.length_map, List.length_map] at this
          exact this
        have sH : Same H J' := fun b u e => fr b u (fun z => by rw [z, nppH] at e; cases e) (fun z hz w => by have := zH z hz; rw [w, e] at this; cases this) (s812 _ _ (s58 _ _ e))
        have zx : ∀ x, J8 x = none → ∀ z ∈ zs, z.1 ≠ x := fun x e z hz w => by have := tr8.at_ z hz; rw [w, e] at this; cases this
        have hTk : Tk K d2 p2 ds2 70 J' J' := by
          obtain ⟨m2, em2⟩ := hT21.pl
          refine ⟨fr _ _ (fun z => ?_) (zx d2 (none_of s9 nd2)) hT21.hA, hT21.hd, hT21.ne, Z.Same.sb (Same.refl _), m2, fr _ _ (fun z => ?_) (zx p2 np2J8) em2⟩
          · exact d2A pp ⟨_, emp⟩ z.symm
          · exact p2A pp ⟨_, emp⟩ z.symm
        walk_at "go"
        first | exact ⟨U', zs', tr', wf', by omega, hG', hL', rfl⟩ | exact ⟨hTk, U', zs', tr', wf', by omega, hG', hL', rfl⟩
      · exact ⟨s58.trans s812, hT21.slf, U, zs, tr8.mono s812, wf, lz, hG.mono s812, ⟨zu, trU.mono s912, wfU, lzU, hL⟩, rfl⟩
    rintro σ J ⟨sH, hTk, U', zs', tr', wf', lz', hG', ⟨zu', trU', wfU', lzU', hL'⟩, rfl⟩
    clear hT0 hT2 hT3 s6 sd1 ed1 epp s56 tr nzz App zpp zd1 zH hA8 emp tr8 hG trU wfU lzU hL sd2 ed2 s9 s58 s57 gvs ed6 dr1 dr2 hT20 s811 s911 d2A p2A np2J8 np2J9 s11 ep2 np2
    walk_at "go"
    refine ⟨A, gv, zs', gs, rfl, tr', wf', lz', hG', fun n J1 s1 nn hM => ?_⟩
    have hM := hM.le lz'
    have trU1 := trU'.mono s1
    have sH1 := sH.trans s1
    have hT1 := (hTk.more s1).slf
    generalize AccS (tb zs') (inG gs) = Lg0 at hM hL'
    have lzu : zu'.length ≤ 12 := by omega
    clear hTk tr' hG' trU' sH s1 wf' lz' lzU'
    obtain ⟨R0, g0, T0, G0, m0, f0, f1, f2⟩ := hM.ex
    obtain ⟨dx0, r0, u0, z0, en0, hR0, hu0, q0⟩ := m0.ex
    walk_at "go"
    intro kp nkp
    have s2 := same_new (o := .tup [.str (S LT), .ref r0, .ref u0]) nkp
    have ekp : (upd J1 kp (.tup [.str (S LT), .ref r0, .ref u0])) kp = some (.tup [.str (S LT), .ref r0, .ref u0]) := upd_same
    generalize upd J1 kp (.tup [.str (S LT), .ref r0, .ref u0]) = J2 at s2 ekp
    have kep : KepA C K J2 n kp := ⟨dx0, r0, u0, z0, g0, s2 _ _ en0, ekp, hR0.mono s2, s2 _ _ hu0⟩
    have trU2 := trU1.mono s2
    walk_at "go"
    refine ⟨⟨_, SqL.of trU2.sq⟩, ?_⟩
    intro B nB
    refine lc_tbl true swR (zr := zu') (by omega) nB (fun k J hk s5 => ⟨_, _, SqL.of (s5 _ _ trU2.sq), by rw [List.getElem?_map, List.getElem?_eq_getElem hk]; rfl⟩) (fun J s5 => ⟨_, SqL.of (s5 _ _ trU2.sq), by rw [List.length_map]; exact Nat.le_refl _⟩) (fun k x J1 J2 hk s5 y => ?_) (fun k hk J1 Q1 s5 q1 => ?_) (fun J3 hs s3 eB hat hnn et => ?_)
    · obtain ⟨rfl, y⟩ := y
      have y := y _ (SqL.of (s5 _ _ trU2.sq))
      rw [List.getElem?_map, List.getElem?_eq_getElem hk] at y
      cases y
      exact ⟨rfl, rfl⟩
    · have lr := wfU'.row (zu'[k]).2 (List.mem_map.mpr ⟨_, List.getElem_mem hk, rfl⟩)
      have hz := s5 _ _ (trU2.at_ _ (List.getElem_mem hk))
      obtain ⟨o0, o1, o2, o3, e4⟩ := four_of lr
      rw [e4] at hz q1
      walk_at "go"
      refine ⟨_, _, _, _, rfl, rfl, SqL.of hz, atI_nat (j := 0) rfl, ?_⟩
      walk_at "go"
      refine ⟨_, _, _, _, rfl, rfl, SqL.of hz, atI_nat (j := 2) rfl, ?_⟩
      walk_at "go"
      refine ⟨_, _, _, _, rfl, rfl, SqL.of hz, atI_nat (j := 1) rfl, ?_⟩
      walk_at "go"
      refine ⟨_, _, _, _, rfl, rfl, SqL.of hz, atI_nat (j := 3) rfl, ?_⟩
      walk_at "go"
      exact q1
    have hat : ∀ z ∈ hs, J3 z.1 = some (.lst (z.2.map eV)) := hat
    have trB : TbR J3 B hs := ⟨eB, hat⟩
    have et : tb hs = swT (tb zu') := et
    have hM3 := hM.mono (s2.trans s3)
    walk_at "go"
    dsimp only [List.set]
    refine ⟨n, 12, Lg0, rfl, hM3, Nat.le_refl _, fun o R J4 s4 no hU hO => ?_⟩
    have s14 := s2.trans (s3.trans s4)
    obtain ⟨Ro, go, To, Go, mo, fo0, fo1, fo2⟩ := hO.ex
    obtain ⟨dxo, ro, uo, zo, eno, hRo, huo, qo⟩ := mo.ex
    have hM4 := hM3.mono s4
    have trB4 := trB.mono s4
    have trU4 := trU1.mono s14
    have kep4 := kep.mono (s3.trans s4)
    have hT4 := (hT1.more s14).slf
    have sH4 := sH1.trans s14
    walk_at "go"
    refine ⟨o, dxo, _, rfl, eno, ?_⟩
    walk_at "go"
    refine ⟨⟨_, hRo.sq⟩, ?_⟩
    have lzo : zo.length ≤ 12 := by
      have := fo1
      rw [qo] at this
      unfold tb at this
      rw [List.length_map] at this
      exact this
    intro D nD
    refine lc_tbl true id (zr := zo) (by omega) nD (fun k J hk s5 => ⟨_, _, Z.Same.sqK s5 (b := false) hRo.sq, by rw [List.getElem?_map, List.getElem?_eq_getElem hk]; rfl⟩) (fun J s5 => ⟨_, Z.Same.sqK s5 (b := false) hRo.sq, by rw [List.length_map]; exact Nat.le_refl _⟩) (fun k x J1 J2 hk s5 y => ?_) (fun k hk J1 Q1 s5 q1 => ?_) (fun J5 hd s5 eD hdt hdn ed => ?_)
    · obtain ⟨rfl, y⟩ := y
      have y := y _ (Z.Same.sqK s5 (b := false) hRo.sq)
      rw [List.getElem?_map, List.getElem?_eq_getElem hk] at y
      cases y
      exact ⟨rfl, rfl⟩
    · have hz := Z.Same.sqK s5 (b := false) (hRo.at_ _ (List.getElem_mem hk))
      walk_at "go"
      exact ⟨_, _, rfl, .inr hz, q1⟩
    have hdt : ∀ z ∈ hd, J5 z.1 = some (.lst (z.2.map eV)) := hdt
    have trD : TbR J5 D hd := ⟨eD, hdt⟩
    have lhs : hs.length ≤ 12 := by
      have := congrArg List.length et
      unfold tb swT at this
      rw [List.length_map, List.length_map, List.length_map] at this
      omega
    walk_at "go"
    refine ⟨B, hs, rfl, trB4.mono s5, by rw [et]; exact wf_swT wfU', lhs, fun N zr J6 s6 nN trN hNn nfN => ?_⟩
    have hlen : (tb hs).length = (tb zu').length := by rw [et]; exact List.length_map ..
    obtain ⟨eN, eG⟩ := Nf.uniq nfN fo0 fun w => by
      rw [fo2, hlen, et, acc_swT wfU']
      exact hL' _
    walk_at "go"
    refine ⟨_, _, ((trD.mono s6).tb (K := K)).dp, (trN.tb (K := K)).dp, shaped_tb _ _ _, shaped_tb _ _ _, ?_⟩
    have s46 := s5.trans s6
    rw [eqv_tb, decide_eq_true (show tb hd = tb zr by rw [ed, eN, qo, List.map_id])]
    have eno6 := s46 _ _ eno
    have hRo6 := hRo.mono s46
    have huo6 := s46 _ _ huo
    walk_at "go"
    refine ⟨ro, _, rfl, .inr hRo6.sq, ?_⟩
    rw [List.length_map]
    walk_at "go"
    intro q1 nq1
    have s7 := same_new (o := .tup (rgV 0 (zo.length : Int))) nq1
    have eq1 : (upd J6 q1 (.tup (rgV 0 (zo.length : Int)))) q1 = some (.tup (gsq (List.range zo.length))) := by rw [← rgV_nat]; exact upd_same
    generalize upd J6 q1 (.tup (rgV 0 (zo.length : Int))) = J7 at s7 eq1
    refine ⟨_, _, dp_nat (b := false) (SqT.of (s7 _ _ huo6)), dp_nat (b := false) (SqT.of eq1), shaped_nat _ _, shaped_nat _ _, ?_⟩
    have ego : go = List.range zo.length := by
      rw [← eG, eN, qo]
      unfold tb
      rw [List.length_map]
    rw [eqv_nat, decide_eq_true ego]
    have s47 := s46.trans s7
    have hM7 := hM4.mono s47
    have trB7 := trB4.mono s47
    have trU7 := trU4.mono s47
    have kep7 := kep4.mono s47
    have hT7 := (hT4.more s47).slf
    have sH7 := sH4.trans s47
    have hO7 := hO.mono s47
    clear s46 s47 s7 hM4 trB4 trU4 kep4 hT4 sH4 hO eq1 nq1 eno6 hRo6 huo6 trN hNn nfN trD eD hdt hdn s5 s6 eno hRo huo mo fo0 fo1 fo2 hM3 hM trU1 sH1 hT1 kep
    have ndL : LT.Nodup := by decide
    walk_at "go"
    refine ⟨o, 12, _, rfl, hO7, Nat.le_refl _, fun o2 R2 J8 s8 no2 hU2 hO2 => ?_⟩
    have hM8 := hM7.mono s8
    obtain ⟨dxa, ra, ua, ena⟩ := hM8.ins
    walk_at "go"
    refine ⟨n, dxa, _, rfl, ena, by rfl, ?_⟩
    refine ⟨n, LT, 12, Lg0, rfl, hM8, ndL, by decide, by decide, by decide, fun n2 J9 s9 nn2 hN2 => ?_⟩
    obtain ⟨dxb, rb, ub, enb⟩ := (hO2.mono s9).ins
    obtain ⟨dxc, rc, uc, enc⟩ := hN2.ins
    refine ⟨o2, n2, dxb, dxc, _, _, rfl, rfl, enb, enc, o2, n2, LT, LT, 12, 12, _, _, rfl, hO2.mono s9, hN2, fun b1 hb1 => ⟨b1, rfl, ?_⟩⟩
    rw [hb1.mpr ⟨rfl, unl_rule⟩]
    have hO9 := hO7.mono (s8.trans s9)
    walk_at "go"
    obtain ⟨dxd, rd, ud, ed⟩ := hO9.ins
    refine ⟨o, dxd, _, rfl, ed, by rfl, ?_⟩
    refine ⟨o, LT, 12, _, rfl, hO9, ndL, by decide, by decide, by decide, fun o3 J10 s10 no3 hO3 => ?_⟩
    have hO10 := hO9.mono s10
    obtain ⟨dxe, re, ue, ee⟩ := hO3.ins
    walk_at "go"
    refine ⟨o3, o, dxe, dxd, _, _, rfl, rfl, ee, s10 _ _ ed, o3, o, LT, LT, 12, 12, _, _, rfl, hO3, hO10, fun b2 hb2 => ⟨b2, rfl, ?_⟩⟩
    rw [hb2.mpr ⟨rfl, unl_other⟩]
    have hM10 := (hM8.mono s9).mono s10
    walk_at "go"
    refine ⟨n, 12, _, rfl, hM10, Nat.le_refl _, fun o4 R4 J11 s11 no4 hU4 hO4 => ?_⟩
    have hO11 := hO10.mono s11
    obtain ⟨dxf, rf, uf, ef⟩ := hO4.ins
    walk_at "go"
    refine ⟨o4, o, dxf, dxd, _, _, rfl, rfl, ef, s11 _ _ (s10 _ _ ed), o4, o, LT, LT, 12, 12, _, _, rfl, hO4, hO11, fun b3 hb3 => ⟨b3, rfl, ?_⟩⟩
    rw [hb3.mpr ⟨rfl, fun _ => Iff.rfl⟩]
    have s711 := s8.trans (s9.trans (s10.trans s11))
    walk_at "go"
    exact w15 _ _ _ _ _ _ _ _ _ _ _ _ _ _ _ _ _ _ _ _ _ ⟨(sH7.trans s711).seq hS, ln, (hT7.more s711).slf, hM7.mono s711, kep7.mono s711, trU7.mono s711, wfU', lzu, hL', trB7.mono s711, et, hO11, hU, hU2⟩ q
end
end Z
set_option pp.maxSteps 700
set_option Elab.async false
set_option linter.all false
set_option maxRecDepth 100000
set_option maxHeartbeats 4000000
set_option maxHeartbeats 0
namespace Z
open PySem PySem.Spec PyProof.Rows L2 Mc
open Zr hiding s_check_rounds s_check_letters s_check_rows s_flags_of s_live_rows s_state_classes s_normal_table s_unending_rows s_leads_on s_passable_levels s_numbers_of s_passable s_closed_states s_rounds_needed s_swapped s_passage_lengths s_check_bit s_check_fates s_check_end s_arrives s_Machine___init__ s_Machine___contains__ s_Machine___eq__ s_Machine_after s_Machine_unending s_Exchange___init__ s_Exchange_seen s_Chain___init__ s_Decider___init__ s_cell s_draws s_take s_exchange s_row s_table s_good s_rule s_goes_on s_kept s_unending s_mark s_normal s_leads s_flags s_sure s_drawn_text s_swapped_fates s_allows s_every_text s_length s_decider_rounds s_same_sizes s_views_swapped s_law s_Chain_length s_Decider_round_count
theorem kb_chain {K : PySem.W.Frag} {f : Addr} {fd : FuncData} (F : FunD K "__init__" "Chain.__init__" (defArgs s_Chain___init__) (defBody s_Chain___init__) (defScope s_Chain___init__) [] [] f fd) : KBn K fd P_Chain___init__ 2 ["rounds"] (fun us ws => us ++ ws) (fun vs zs => vs ++ zs) := by
  obtain ⟨oc, od, dV, kV, doc, pm, an, cdv, ct, osl, rfl, lk, hcd, hD, hK⟩ := F.ex
  rcases hD with ⟨_, rfl⟩ | ⟨e, _⟩
  · exact ⟨fun s us ws X l1 l2 => .of_eq (match us, l1, ws, l2 with | [_, _], _, [_], _ => rfl), fun r1 r2 => r1.append r2⟩
  · exact absurd rfl e
theorem kb_passable {K : PySem.W.Frag} {f : Addr} {fd : FuncData} (F : FnP K "passable" s_passable f fd) : KBn K fd P_passable 1 ["rounds"] (fun us ws => us ++ ws) (fun vs zs => vs ++ zs) := by
  obtain ⟨oc, od, dV, kV, doc, pm, an, cdv, ct, osl, rfl, lk, hcd, hD, hK⟩ := F.ex
  rcases hD with ⟨_, rfl⟩ | ⟨e, _⟩
  · exact ⟨fun s us ws X l1 l2 => .of_eq (match us, l1, ws, l2 with | [_], _, [_], _ => rfl), fun r1 r2 => r1.append r2⟩
  · exact absurd rfl e
theorem endsB_ok {K : PySem.W.Frag} {a : Addr} (h : endsB K a = true) : EndsA K a := by
  unfold endsB at h
  split at h
  · rename_i t d its n sl e
    obtain ⟨h1, h2⟩ := He.ba h
    have h1 := of_decide_eq_true h1
    split at h2
    · rename_i x tx y ty e2
      obtain ⟨h3, h4⟩ := He.ba h2
      have h3 := of_decide_eq_true h3
      have h4 := of_decide_eq_true h4
      subst h3 h4
      refine .inr ⟨_, its, n, e, by rw [h1], rfl, ?_, by rw [e2]; exact .cons ⟨tx, rfl⟩ (.cons ⟨ty, rfl⟩ .nil)⟩
      have : its.size = 2 := by rw [← Array.length_toList, e2]; rfl
      rw [this]
      decide
    · cases h2
  · cases h
theorem facts {P : Program} {w : World} {K : PySem.W.Frag} {h : Heap} {mg : Str → Option Value} {f : Addr} (X : K.In h) (G : h.Ns mainGlobals mg) (hfa : mg ("law" : Str) = some (.ref f)) (c : He.SaysD fa fn K) (cs : xns.map (fun f => f K) = xvs) (cx : ex K = true) (hfl : ((P.main.file : Str) == fl) = true) (htop : (P.main.scope.names.lookup ("super" : Str)).isSome = false) :
    ∃ fd : FuncData, (∀ (s : Shared) (v : Value), BindsTo s fd ⟨[v], []⟩ [("_law_script", v)]) ∧ ∀ base : Heap, K.In base → base.Ns mainGlobals mg → FnOk P w K mg base CX0 13 f fd ["_law_script"] (spLaw K) := by
  obtain ⟨cx, cy⟩ := He.ba cx
  obtain ⟨cy, cp⟩ := He.ba cy
  obtain ⟨fd_check_rounds, F_check_rounds⟩ := c.def_ 0 (d := d_check_rounds) rfl
  have F_check_rounds : FnP K "check_rounds" s_check_rounds _ fd_check_rounds := F_check_rounds
  have g_check_rounds := He.glo_ok X G (c.fact 0 (f := .glo "check_rounds") rfl)
  have b_check_rounds : Binds K fd_check_rounds P_check_rounds [] := F_check_rounds.bindsN fun _ _ _ _ _ _ us hl => match us, hl with | [_], _ => rfl
  obtain ⟨fd_check_letters, F_check_letters⟩ := c.def_ 1 (d := d_check_letters) rfl
  have F_check_letters : FnP K "check_letters" s_check_letters _ fd_check_letters := F_check_letters
  have g_check_letters := He.glo_ok X G (c.fact 1 (f := .glo "check_letters") rfl)
  have b_check_letters : Binds K fd_check_letters P_check_letters [] := F_check_letters.bindsN fun _ _ _ _ _ _ us hl => match us, hl with | [_], _ => rfl
  obtain ⟨fd_check_rows, F_check_rows⟩ := c.def_ 2 (d := d_check_rows) rfl
  have F_check_rows : FnP K "check_rows" s_check_rows _ fd_check_rows := F_check_rows
  have g_check_rows := He.glo_ok X G (c.fact 2 (f := .glo "check_rows") rfl)
  have b_check_rows : Binds K fd_check_rows P_check_rows [] := F_check_rows.bindsN fun _ _ _ _ _ _ us hl => match us, hl with | [_, _], _ => rfl
  obtain ⟨fd_flags_of, F_flags_of⟩ := c.def_ 3 (d := d_flags_of) rfl
  have F_flags_of : FnP K "flags_of" s_flags_of _ fd_flags_of := F_flags_of
  have g_flags_of := He.glo_ok X G (c.fact 3 (f := .glo "flags_of") rfl)
  have b_flags_of : Binds K fd_flags_of P_flags_of [] := F_flags_of.bindsN fun _ _ _ _ _ _ us hl => match us, hl with | [_, _], _ => rfl
  obtain ⟨fd_live_rows, F_live_rows⟩ := c.def_ 4 (d := d_live_rows) rfl
  have F_live_rows : FnP K "live_rows" s_live_rows _ fd_live_rows := F_live_rows
  have g_live_rows := He.glo_ok X G (c.fact 4 (f := .glo "live_rows") rfl)
  have b_live_rows : Binds K fd_live_rows P_live_rows [] := F_live_rows.bindsN fun _ _ _ _ _ _ us hl => match us, hl with | [_, _], _ => rfl
  obtain ⟨fd_state_classes, F_state_classes⟩ := c.def_ 5 (d := d_state_classes) rfl
  have F_state_classes : FnP K "state_classes" s_state_classes _ fd_state_classes := F_state_classes
  have g_state_classes := He.glo_ok X G (c.fact 5 (f := .glo "state_classes") rfl)
  have b_state_classes : Binds K fd_state_classes P_state_classes [] := F_state_classes.bindsN fun _ _ _ _ _ _ us hl => match us, hl with | [_, _], _ => rfl
  obtain ⟨fd_normal_table, F_normal_table⟩ := c.def_ 6 (d := d_normal_table) rfl
  have F_normal_table : FnP K "normal_table" s_normal_table _ fd_normal_table := F_normal_table
  have g_normal_table := He.glo_ok X G (c.fact 6 (f := .glo "normal_table") rfl)
  have b_normal_table : Binds K fd_normal_table P_normal_table [] := F_normal_table.bindsN fun _ _ _ _ _ _ us hl => match us, hl with | [_, _], _ => rfl
  obtain ⟨fd_unending_rows, F_unending_rows⟩ := c.def_ 7 (d := d_unending_rows) rfl
  have F_unending_rows : FnP K "unending_rows" s_unending_rows _ fd_unending_rows := F_unending_rows
  have g_unending_rows := He.glo_ok X G (c.fact 7 (f := .glo "unending_rows") rfl)
  have b_unending_rows : Binds K fd_unending_rows P_unending_rows [] := F_unending_rows.bindsN fun _ _ _ _ _ _ us hl => match us, hl with | [_, _], _ => rfl
  obtain ⟨fd_leads_on, F_leads_on⟩ := c.def_ 8 (d := d_leads_on) rfl
  have F_leads_on : FnP K "leads_on" s_leads_on _ fd_leads_on := F_leads_on
  have g_leads_on := He.glo_ok X G (c.fact 8 (f := .glo "leads_on") rfl)
  have b_leads_on : Binds K fd_leads_on P_leads_on [] := F_leads_on.bindsN fun _ _ _ _ _ _ us hl => match us, hl with | [_, _], _ => rfl
  obtain ⟨fd_passable_levels, F_passable_levels⟩ := c.def_ 9 (d := d_passable_levels) rfl
  have F_passable_levels : FnP K "passable_levels" s_passable_levels _ fd_passable_levels := F_passable_levels
  have g_passable_levels := He.glo_ok X G (c.fact 9 (f := .glo "passable_levels") rfl)
  have b_passable_levels : Binds K fd_passable_levels P_passable_levels [] := F_passable_levels.bindsN fun _ _ _ _ _ _ us hl => match us, hl with | [_, _], _ => rfl
  obtain ⟨fd_numbers_of, F_numbers_of⟩ := c.def_ 10 (d := d_numbers_of) rfl
  have F_numbers_of : FnP K "numbers_of" s_numbers_of _ fd_numbers_of := F_numbers_of
  have g_numbers_of := He.glo_ok X G (c.fact 10 (f := .glo "numbers_of") rfl)
  have b_numbers_of : Binds K fd_numbers_of P_numbers_of [] := F_numbers_of.bindsN fun _ _ _ _ _ _ us hl => match us, hl with | [_], _ => rfl
  obtain ⟨fd_passable, F_passable⟩ := c.def_ 11 (d := d_passable) rfl
  have F_passable : FnP K "passable" s_passable _ fd_passable := F_passable
  have g_passable := He.glo_ok X G (c.fact 11 (f := .glo "passable") rfl)
  obtain ⟨fd_closed_states, F_closed_states⟩ := c.def_ 12 (d := d_closed_states) rfl
  have F_closed_states : FnP K "closed_states" s_closed_states _ fd_closed_states := F_closed_states
  have g_closed_states := He.glo_ok X G (c.fact 12 (f := .glo "closed_states") rfl)
  have b_closed_states : Binds K fd_closed_states P_closed_states [] := F_closed_states.bindsN fun _ _ _ _ _ _ us hl => match us, hl with | [_], _ => rfl
  obtain ⟨fd_rounds_needed, F_rounds_needed⟩ := c.def_ 13 (d := d_rounds_needed) rfl
  have F_rounds_needed : FnP K "rounds_needed" s_rounds_needed _ fd_rounds_needed := F_rounds_needed
  have g_rounds_needed := He.glo_ok X G (c.fact 13 (f := .glo "rounds_needed") rfl)
  have b_rounds_needed : Binds K fd_rounds_needed P_rounds_needed [] := F_rounds_needed.bindsN fun _ _ _ _ _ _ us hl => match us, hl with | [_], _ => rfl
  obtain ⟨fd_swapped, F_swapped⟩ := c.def_ 14 (d := d_swapped) rfl
  have F_swapped : FnP K "swapped" s_swapped _ fd_swapped := F_swapped
  have g_swapped := He.glo_ok X G (c.fact 14 (f := .glo "swapped") rfl)
  have b_swapped : Binds K fd_swapped P_swapped [] := F_swapped.bindsN fun _ _ _ _ _ _ us hl => match us, hl with | [_], _ => rfl
  obtain ⟨fd_passage_lengths, F_passage_lengths⟩ := c.def_ 15 (d := d_passage_lengths) rfl
  have F_passage_lengths : FnP K "passage_lengths" s_passage_lengths _ fd_passage_lengths := F_passage_lengths
  have g_passage_lengths := He.glo_ok X G (c.fact 15 (f := .glo "passage_lengths") rfl)
  have b_passage_lengths : Binds K fd_passage_lengths P_passage_lengths [] := F_passage_lengths.bindsN fun _ _ _ _ _ _ us hl => match us, hl with | [_, _], _ => rfl
  obtain ⟨fd_check_bit, F_check_bit⟩ := c.def_ 16 (d := d_check_bit) rfl
  have F_check_bit : FnP K "check_bit" s_check_bit _ fd_check_bit := F_check_bit
  have g_check_bit := He.glo_ok X G (c.fact 16 (f := .glo "check_bit") rfl)
  have b_check_bit : Binds K fd_check_bit P_check_bit [] := F_check_bit.bindsN fun _ _ _ _ _ _ us hl => match us, hl with | [_], _ => rfl
  obtain ⟨fd_check_fates, F_check_fates⟩ := c.def_ 17 (d := d_check_fates) rfl
  have F_check_fates : FnP K "check_fates" s_check_fates _ fd_check_fates := F_check_fates
  have g_check_fates := He.glo_ok X G (c.fact 17 (f := .glo "check_fates") rfl)
  have b_check_fates : Binds K fd_check_fates P_check_fates [] := F_check_fates.bindsN fun _ _ _ _ _ _ us hl => match us, hl with | [_], _ => rfl
  obtain ⟨fd_check_end, F_check_end⟩ := c.def_ 18 (d := d_check_end) rfl
  have F_check_end : FnP K "check_end" s_check_end _ fd_check_end := F_check_end
  have g_check_end := He.glo_ok X G (c.fact 18 (f := .glo "check_end") rfl)
  have b_check_end : Binds K fd_check_end P_check_end [] := F_check_end.bindsN fun _ _ _ _ _ _ us hl => match us, hl with | [_], _ => rfl
  obtain ⟨fd_arrives, F_arrives⟩ := c.def_ 19 (d := d_arrives) rfl
  have F_arrives : FnP K "arrives" s_arrives _ fd_arrives := F_arrives
  have g_arrives := He.glo_ok X G (c.fact 19 (f := .glo "arrives") rfl)
  have b_arrives : Binds K fd_arrives P_arrives [] := F_arrives.bindsN fun _ _ _ _ _ _ us hl => match us, hl with | [_, _], _ => rfl
  obtain ⟨fd_Machine___init__, F_Machine___init__⟩ := c.def_ 20 (d := d_Machine___init__) rfl
  obtain ⟨fd_Machine___contains__, F_Machine___contains__⟩ := c.def_ 21 (d := d_Machine___contains__) rfl
  have F_Machine___contains__ : FnM K "__contains__" "Machine.__contains__" s_Machine___contains__ (He.ma K (He.ga K "Machine") "__contains__") fd_Machine___contains__ := F_Machine___contains__
  have b_Machine___contains__ : Binds K fd_Machine___contains__ P_Machine___contains__ [] := F_Machine___contains__.bindsN fun _ _ _ _ _ _ us hl => match us, hl with | [_, _], _ => rfl
  obtain ⟨fd_Machine___eq__, F_Machine___eq__⟩ := c.def_ 22 (d := d_Machine___eq__) rfl
  have F_Machine___eq__ : FnM K "__eq__" "Machine.__eq__" s_Machine___eq__ (He.ma K (He.ga K "Machine") "__eq__") fd_Machine___eq__ := F_Machine___eq__
  have b_Machine___eq__ : Binds K fd_Machine___eq__ P_Machine___eq__ [] := F_Machine___eq__.bindsN fun _ _ _ _ _ _ us hl => match us, hl with | [_, _], _ => rfl
  obtain ⟨fd_Machine_after, F_Machine_after⟩ := c.def_ 23 (d := d_Machine_after) rfl
  have F_Machine_after : FnM K "after" "Machine.after" s_Machine_after (He.ma K (He.ga K "Machine") "after") fd_Machine_after := F_Machine_after
  have b_Machine_after : Binds K fd_Machine_after P_Machine_after [] := F_Machine_after.bindsN fun _ _ _ _ _ _ us hl => match us, hl with | [_, _], _ => rfl
  obtain ⟨fd_Machine_unending, F_Machine_unending⟩ := c.def_ 24 (d := d_Machine_unending) rfl
  have F_Machine_unending : FnM K "unending" "Machine.unending" s_Machine_unending (He.ma K (He.ga K "Machine") "unending") fd_Machine_unending := F_Machine_unending
  have b_Machine_unending : Binds K fd_Machine_unending P_Machine_unending [] := F_Machine_unending.bindsN fun _ _ _ _ _ _ us hl => match us, hl with | [_], _ => rfl
  obtain ⟨fd_Exchange___init__, F_Exchange___init__⟩ := c.def_ 25 (d := d_Exchange___init__) rfl
  have F_Exchange___init__ : FnM K "__init__" "Exchange.__init__" s_Exchange___init__ (He.ma K (He.ga K "Exchange") "__init__") fd_Exchange___init__ := F_Exchange___init__
  have b_Exchange___init__ : Binds K fd_Exchange___init__ P_Exchange___init__ [] := F_Exchange___init__.bindsN fun _ _ _ _ _ _ us hl => match us, hl with | [_, _, _, _], _ => rfl
  obtain ⟨fd_Exchange_seen, F_Exchange_seen⟩ := c.def_ 26 (d := d_Exchange_seen) rfl
  have F_Exchange_seen : FnM K "seen" "Exchange.seen" s_Exchange_seen (He.ma K (He.ga K "Exchange") "seen") fd_Exchange_seen := F_Exchange_seen
  have b_Exchange_seen : Binds K fd_Exchange_seen P_Exchange_seen [] := F_Exchange_seen.bindsN fun _ _ _ _ _ _ us hl => match us, hl with | [_, _], _ => rfl
  obtain ⟨fd_Chain___init__, F_Chain___init__⟩ := c.def_ 27 (d := d_Chain___init__) rfl
  have F_Chain___init__ : FnM K "__init__" "Chain.__init__" s_Chain___init__ (He.ma K (He.ga K "Chain") "__init__") fd_Chain___init__ := F_Chain___init__
  obtain ⟨fd_Decider___init__, F_Decider___init__⟩ := c.def_ 28 (d := d_Decider___init__) rfl
  obtain ⟨fd_cell, F_cell⟩ := c.def_ 29 (d := d_cell) rfl
  have F_cell : FnP K "_law_cell" s_cell _ fd_cell := F_cell
  have g_cell := He.glo_ok X G (c.fact 20 (f := .glo "_law_cell") rfl)
  have b_cell : Binds K fd_cell P_cell [] := F_cell.bindsN fun _ _ _ _ _ _ us hl => match us, hl with | [_, _], _ => rfl
  obtain ⟨fd_draws, F_draws⟩ := c.def_ 30 (d := d_draws) rfl
  have F_draws : FnP K "_law_draws" s_draws _ fd_draws := F_draws
  have g_draws := He.glo_ok X G (c.fact 21 (f := .glo "_law_draws") rfl)
  have b_draws : Binds K fd_draws P_draws [] := F_draws.bindsN fun _ _ _ _ _ _ us hl => match us, hl with | [_, _], _ => rfl
  obtain ⟨fd_take, F_take⟩ := c.def_ 31 (d := d_take) rfl
  have F_take : FnP K "_law_take" s_take _ fd_take := F_take
  have g_take := He.glo_ok X G (c.fact 22 (f := .glo "_law_take") rfl)
  have b_take : Binds K fd_take P_take [] := F_take.bindsN fun _ _ _ _ _ _ us hl => match us, hl with | [_, _], _ => rfl
  obtain ⟨fd_exchange, F_exchange⟩ := c.def_ 32 (d := d_exchange) rfl
  have F_exchange : FnP K "_law_exchange" s_exchange _ fd_exchange := F_exchange
  have g_exchange := He.glo_ok X G (c.fact 23 (f := .glo "_law_exchange") rfl)
  have b_exchange : Binds K fd_exchange P_exchange [] := F_exchange.bindsN fun _ _ _ _ _ _ us hl => match us, hl with | [_, _, _], _ => rfl
  obtain ⟨fd_row, F_row⟩ := c.def_ 33 (d := d_row) rfl
  have F_row : FnP K "_law_row" s_row _ fd_row := F_row
  have g_row := He.glo_ok X G (c.fact 24 (f := .glo "_law_row") rfl)
  have b_row : Binds K fd_row P_row [] := F_row.bindsN fun _ _ _ _ _ _ us hl => match us, hl with | [_, _, _, _, _], _ => rfl
  obtain ⟨fd_table, F_table⟩ := c.def_ 34 (d := d_table) rfl
  have F_table : FnP K "_law_table" s_table _ fd_table := F_table
  have g_table := He.glo_ok X G (c.fact 25 (f := .glo "_law_table") rfl)
  have b_table : Binds K fd_table P_table [] := F_table.bindsN fun _ _ _ _ _ _ us hl => match us, hl with | [_, _], _ => rfl
  obtain ⟨fd_good, F_good⟩ := c.def_ 35 (d := d_good) rfl
  have F_good : FnP K "_law_good" s_good _ fd_good := F_good
  have g_good := He.glo_ok X G (c.fact 26 (f := .glo "_law_good") rfl)
  have b_good : Binds K fd_good P_good [] := F_good.bindsN fun _ _ _ _ _ _ us hl => match us, hl with | [_, _, _], _ => rfl
  obtain ⟨fd_rule, F_rule⟩ := c.def_ 36 (d := d_rule) rfl
  have F_rule : FnP K "_law_rule" s_rule _ fd_rule := F_rule
  have g_rule := He.glo_ok X G (c.fact 27 (f := .glo "_law_rule") rfl)
  have b_rule : Binds K fd_rule P_rule [] := F_rule.bindsN fun _ _ _ _ _ _ us hl => match us, hl with | [_, _], _ => rfl
  obtain ⟨fd_goes_on, F_goes_on⟩ := c.def_ 37 (d := d_goes_on) rfl
  have F_goes_on : FnP K "_law_goes_on" s_goes_on _ fd_goes_on := F_goes_on
  have g_goes_on := He.glo_ok X G (c.fact 28 (f := .glo "_law_goes_on") rfl)
  have b_goes_on : Binds K fd_goes_on P_goes_on [] := F_goes_on.bindsN fun _ _ _ _ _ _ us hl => match us, hl with | [_, _], _ => rfl
  obtain ⟨fd_kept, F_kept⟩ := c.def_ 38 (d := d_kept) rfl
  have F_kept : FnP K "_law_kept" s_kept _ fd_kept := F_kept
  have g_kept := He.glo_ok X G (c.fact 29 (f := .glo "_law_kept") rfl)
  have b_kept : Binds K fd_kept P_kept [] := F_kept.bindsN fun _ _ _ _ _ _ us hl => match us, hl with | [_, _], _ => rfl
  obtain ⟨fd_unending, F_unending⟩ := c.def_ 39 (d := d_unending) rfl
  have F_unending : FnP K "_law_unending" s_unending _ fd_unending := F_unending
  have g_unending := He.glo_ok X G (c.fact 30 (f := .glo "_law_unending") rfl)
  have b_unending : Binds K fd_unending P_unending [] := F_unending.bindsN fun _ _ _ _ _ _ us hl => match us, hl with | [_, _], _ => rfl
  obtain ⟨fd_mark, F_mark⟩ := c.def_ 40 (d := d_mark) rfl
  have F_mark : FnP K "_law_mark" s_mark _ fd_mark := F_mark
  have g_mark := He.glo_ok X G (c.fact 31 (f := .glo "_law_mark") rfl)
  have b_mark : Binds K fd_mark P_mark [] := F_mark.bindsN fun _ _ _ _ _ _ us hl => match us, hl with | [_, _], _ => rfl
  obtain ⟨fd_normal, F_normal⟩ := c.def_ 41 (d := d_normal) rfl
  have F_normal : FnP K "_law_normal" s_normal _ fd_normal := F_normal
  have g_normal := He.glo_ok X G (c.fact 32 (f := .glo "_law_normal") rfl)
  have b_normal : Binds K fd_normal P_normal [] := F_normal.bindsN fun _ _ _ _ _ _ us hl => match us, hl with | [_], _ => rfl
  obtain ⟨fd_leads, F_leads⟩ := c.def_ 42 (d := d_leads) rfl
  have F_leads : FnP K "_law_leads" s_leads _ fd_leads := F_leads
  have g_leads := He.glo_ok X G (c.fact 33 (f := .glo "_law_leads") rfl)
  have b_leads : Binds K fd_leads P_leads [] := F_leads.bindsN fun _ _ _ _ _ _ us hl => match us, hl with | [_, _], _ => rfl
  obtain ⟨fd_flags, F_flags⟩ := c.def_ 43 (d := d_flags) rfl
  have F_flags : FnP K "_law_flags" s_flags _ fd_flags := F_flags
  have g_flags := He.glo_ok X G (c.fact 34 (f := .glo "_law_flags") rfl)
  have b_flags : Binds K fd_flags P_flags [] := F_flags.bindsN fun _ _ _ _ _ _ us hl => match us, hl with | [_, _], _ => rfl
  obtain ⟨fd_sure, F_sure⟩ := c.def_ 44 (d := d_sure) rfl
  have F_sure : FnP K "_law_sure" s_sure _ fd_sure := F_sure
  have g_sure := He.glo_ok X G (c.fact 35 (f := .glo "_law_sure") rfl)
  have b_sure : Binds K fd_sure P_sure [] := F_sure.bindsN fun _ _ _ _ _ _ us hl => match us, hl with | [_, _, _, _], _ => rfl
  obtain ⟨fd_drawn_text, F_drawn_text⟩ := c.def_ 45 (d := d_drawn_text) rfl
  have F_drawn_text : FnP K "_law_drawn_text" s_drawn_text _ fd_drawn_text := F_drawn_text
  have g_drawn_text := He.glo_ok X G (c.fact 36 (f := .glo "_law_drawn_text") rfl)
  have b_drawn_text : Binds K fd_drawn_text P_drawn_text [] := F_drawn_text.bindsN fun _ _ _ _ _ _ us hl => match us, hl with | [_, _, _, _], _ => rfl
  obtain ⟨fd_swapped_fates, F_swapped_fates⟩ := c.def_ 46 (d := d_swapped_fates) rfl
  have F_swapped_fates : FnP K "_law_swapped_fates" s_swapped_fates _ fd_swapped_fates := F_swapped_fates
  have g_swapped_fates := He.glo_ok X G (c.fact 37 (f := .glo "_law_swapped_fates") rfl)
  have b_swapped_fates : Binds K fd_swapped_fates P_swapped_fates [] := F_swapped_fates.bindsN fun _ _ _ _ _ _ us hl => match us, hl with | [_], _ => rfl
  obtain ⟨fd_allows, F_allows⟩ := c.def_ 47 (d := d_allows) rfl
  have F_allows : FnP K "_law_allows" s_allows _ fd_allows := F_allows
  have g_allows := He.glo_ok X G (c.fact 38 (f := .glo "_law_allows") rfl)
  have b_allows : Binds K fd_allows P_allows [] := F_allows.bindsN fun _ _ _ _ _ _ us hl => match us, hl with | [_, _], _ => rfl
  obtain ⟨fd_every_text, F_every_text⟩ := c.def_ 48 (d := d_every_text) rfl
  have F_every_text : FnP K "_law_every_text" s_every_text _ fd_every_text := F_every_text
  have g_every_text := He.glo_ok X G (c.fact 39 (f := .glo "_law_every_text") rfl)
  have b_every_text : Binds K fd_every_text P_every_text [] := F_every_text.bindsN fun _ _ _ _ _ _ us hl => match us, hl with | [_], _ => rfl
  obtain ⟨fd_length, F_length⟩ := c.def_ 49 (d := d_length) rfl
  have F_length : FnP K "_law_length" s_length _ fd_length := F_length
  have g_length := He.glo_ok X G (c.fact 40 (f := .glo "_law_length") rfl)
  have b_length : Binds K fd_length P_length [] := F_length.bindsN fun _ _ _ _ _ _ us hl => match us, hl with | [_, _], _ => rfl
  obtain ⟨fd_decider_rounds, F_decider_rounds⟩ := c.def_ 50 (d := d_decider_rounds) rfl
  have F_decider_rounds : FnP K "_law_decider_rounds" s_decider_rounds _ fd_decider_rounds := F_decider_rounds
  have g_decider_rounds := He.glo_ok X G (c.fact 41 (f := .glo "_law_decider_rounds") rfl)
  have b_decider_rounds : Binds K fd_decider_rounds P_decider_rounds [] := F_decider_rounds.bindsN fun _ _ _ _ _ _ us hl => match us, hl with | [_], _ => rfl
  obtain ⟨fd_same_sizes, F_same_sizes⟩ := c.def_ 51 (d := d_same_sizes) rfl
  have F_same_sizes : FnP K "_law_same_sizes" s_same_sizes _ fd_same_sizes := F_same_sizes
  have g_same_sizes := He.glo_ok X G (c.fact 42 (f := .glo "_law_same_sizes") rfl)
  have b_same_sizes : Binds K fd_same_sizes P_same_sizes [] := F_same_sizes.bindsN fun _ _ _ _ _ _ us hl => match us, hl with | [_, _, _], _ => rfl
  obtain ⟨fd_views_swapped, F_views_swapped⟩ := c.def_ 52 (d := d_views_swapped) rfl
  have F_views_swapped : FnP K "_law_views_swapped" s_views_swapped _ fd_views_swapped := F_views_swapped
  have g_views_swapped := He.glo_ok X G (c.fact 43 (f := .glo "_law_views_swapped") rfl)
  have b_views_swapped : Binds K fd_views_swapped P_views_swapped [] := F_views_swapped.bindsN fun _ _ _ _ _ _ us hl => match us, hl with | [_], _ => rfl
  obtain ⟨fd_law, F_law⟩ := c.def_ 53 (d := d_law) rfl
  have F_law : FnP K "law" s_law _ fd_law := F_law
  have g_law := He.glo_ok X G (c.fact 44 (f := .glo "law") rfl)
  have m_abs := He.free_ok X G (c.fact 45 (f := .free "abs") rfl)
  have m_all := He.free_ok X G (c.fact 46 (f := .free "all") rfl)
  have m_any := He.free_ok X G (c.fact 47 (f := .free "any") rfl)
  have m_enumerate := He.free_ok X G (c.fact 48 (f := .free "enumerate") rfl)
  have m_int := He.free_ok X G (c.fact 49 (f := .free "int") rfl)
  have m_isinstance := He.free_ok X G (c.fact 50 (f := .free "isinstance") rfl)
  have m_len := He.free_ok X G (c.fact 51 (f := .free "len") rfl)
  have m_list := He.free_ok X G (c.fact 52 (f := .free "list") rfl)
  have m_max := He.free_ok X G (c.fact 53 (f := .free "max") rfl)
  have m_range := He.free_ok X G (c.fact 54 (f := .free "range") rfl)
  have m_sum := He.free_ok X G (c.fact 55 (f := .free "sum") rfl)
  have m_super := He.free_ok X G (c.fact 56 (f := .free "super") rfl)
  have m_tuple := He.free_ok X G (c.fact 57 (f := .free "tuple") rfl)
  have g_Machine := He.glo_ok X G (c.fact 58 (f := .glo "Machine") rfl)
  have cls_Machine := He.cls_ok (c.fact 59 (f := .cls "Machine") rfl)
  have mk_Machine := He.mkr_ok (c.fact 60 (f := .mkr "Machine") rfl)
  have n_Machine_letters := He.noat_ok (c.fact 61 (f := .noat "Machine" "letters") rfl)
  have n_Machine_rows := He.noat_ok (c.fact 62 (f := .noat "Machine" "rows") rfl)
  have n_Machine_good := He.noat_ok (c.fact 63 (f := .noat "Machine" "good") rfl)
  have me_Machine_unending := He.meth_ok (c.fact 64 (f := .meth "Machine" "unending") rfl)
  have me_Machine_after := He.meth_ok (c.fact 65 (f := .meth "Machine" "after") rfl)
  have g_Exchange := He.glo_ok X G (c.fact 66 (f := .glo "Exchange") rfl)
  have cls_Exchange := He.cls_ok (c.fact 67 (f := .cls "Exchange") rfl)
  have mk_Exchange := He.mkr_ok (c.fact 68 (f := .mkr "Exchange") rfl)
  have n_Exchange_first_bit := He.noat_ok (c.fact 69 (f := .noat "Exchange" "first_bit") rfl)
  have n_Exchange_second_bit := He.noat_ok (c.fact 70 (f := .noat "Exchange" "second_bit") rfl)
  have n_Exchange_fates := He.noat_ok (c.fact 71 (f := .noat "Exchange" "fates") rfl)
  have me_Exchange_seen := He.meth_ok (c.fact 72 (f := .meth "Exchange" "seen") rfl)
  have g_Chain := He.glo_ok X G (c.fact 73 (f := .glo "Chain") rfl)
  have cls_Chain := He.cls_ok (c.fact 74 (f := .cls "Chain") rfl)
  have mk_Chain := He.mkr_ok (c.fact 75 (f := .mkr "Chain") rfl)
  have n_Chain_kept_rows := He.noat_ok (c.fact 76 (f := .noat "Chain" "kept_rows") rfl)
  have n_Chain_kept_lengths := He.noat_ok (c.fact 77 (f := .noat "Chain" "kept_lengths") rfl)
  have g_Decider := He.glo_ok X G (c.fact 78 (f := .glo "Decider") rfl)
  have cls_Decider := He.cls_ok (c.fact 79 (f := .cls "Decider") rfl)
  have mk_Decider := He.mkr_ok (c.fact 80 (f := .mkr "Decider") rfl)
  have n_Decider_kept_rule := He.noat_ok (c.fact 81 (f := .noat "Decider" "kept_rule") rfl)
  have n_Decider_kept_rounds := He.noat_ok (c.fact 82 (f := .noat "Decider" "kept_rounds") rfl)
  have n_Decider_kept_levels := He.noat_ok (c.fact 83 (f := .noat "Decider" "kept_levels") rfl)
  have g0_MOST_ROUNDS := He.int_ok X G (c.fact 84 (f := .int "MOST_ROUNDS" (40)) rfl)
  obtain ⟨tok_MOST_ROUNDS, g_MOST_ROUNDS⟩ := g0_MOST_ROUNDS
  have g0_FATES := He.str_ok X G (c.fact 85 (f := .str "FATES" "bfsn") rfl)
  obtain ⟨tok_FATES, g_FATES⟩ := g0_FATES
  have g_NoChain := He.glo_ok X G (c.fact 86 (f := .glo "NoChain") rfl)
  have g_CannotDecide := He.glo_ok X G (c.fact 87 (f := .glo "CannotDecide") rfl)
  have g_ENDS := He.glo_ok X G (c.fact 88 (f := .glo "ENDS") rfl)
  have g_BadCount := He.glo_ok X G (c.fact 89 (f := .glo "BadCount") rfl)
  have g_BadBit := He.glo_ok X G (c.fact 90 (f := .glo "BadBit") rfl)
  have g_BadEnd := He.glo_ok X G (c.fact 91 (f := .glo "BadEnd") rfl)
  have g_BadFate := He.glo_ok X G (c.fact 92 (f := .glo "BadFate") rfl)
  obtain ⟨fd_Chain_length, p_Chain_length, F_Chain_length⟩ := prop_of (x := "Chain") (m := "length") (q := "Chain.length") (st := s_Chain_length) (y_at cs 4) (all_at cp 0)
  have b_Chain_length : Binds K fd_Chain_length P_Chain_length [] := F_Chain_length.bindsN fun _ _ _ _ _ _ us hl => match us, hl with | [_], _ => rfl
  obtain ⟨fd_Decider_round_count, p_Decider_round_count, F_Decider_round_count⟩ := prop_of (x := "Decider") (m := "round_count") (q := "Decider.round_count") (st := s_Decider_round_count) (y_at cs 5) (all_at cp 1)
  have b_Decider_round_count : Binds K fd_Decider_round_count P_Decider_round_count [] := F_Decider_round_count.bindsN fun _ _ _ _ _ _ us hl => match us, hl with | [_], _ => rfl
  have f_BadCount := exnB_ok (all_at cy 0)
  have x_BadCount : ∀ base : Heap, Exn P w K mg base "BadCount" (He.ga K "BadCount") "value" := fun base => xn_BadCount (y_at cs 0) f_BadCount hfl htop g_BadCount m_super
  have f_BadBit := exnB_ok (all_at cy 1)
  have x_BadBit : ∀ base : Heap, Exn P w K mg base "BadBit" (He.ga K "BadBit") "bit" := fun base => xn_BadBit (y_at cs 1) f_BadBit hfl htop g_BadBit m_super
  have f_BadEnd := exnB_ok (all_at cy 2)
  have x_BadEnd : ∀ base : Heap, Exn P w K mg base "BadEnd" (He.ga K "BadEnd") "end" := fun base => xn_BadEnd (y_at cs 2) f_BadEnd hfl htop g_BadEnd m_super
  have f_BadFate := exnB_ok (all_at cy 3)
  have x_BadFate : ∀ base : Heap, Exn P w K mg base "BadFate" (He.ga K "BadFate") "at" := fun base => xn_BadFate (y_at cs 3) f_BadFate hfl htop g_BadFate m_super
  have isC := isB_ok cls_Machine (all_at cx 0)
  obtain ⟨z1, z2, z3⟩ := spB_ok (all_at cx 1)
  obtain ⟨y1, y2, y3⟩ := spB_ok (all_at cx 2)
  have hE := endsB_ok (all_at cx 3)
  have teN := of_decide_eq_true (all_at cx 4)
  have teD := of_decide_eq_true (all_at cx 5)
  have x0_NoChain : Exn0 K mg "NoChain" (He.ga K "NoChain") := ⟨all_at cx 6, all_at cx 7, of_decide_eq_true (all_at cx 8), of_decide_eq_true (all_at cx 9), g_NoChain⟩
  have x0_CannotDecide : Exn0 K mg "CannotDecide" (He.ga K "CannotDecide") := ⟨all_at cx 10, all_at cx 11, of_decide_eq_true (all_at cx 12), of_decide_eq_true (all_at cx 13), g_CannotDecide⟩
  have e := hfa.symm.trans g_law
  cases e
  have b := FunD.bindsA (ps := ["_law_script"]) F_law fun _ _ _ _ _ _ us hl => match us, hl with | [_], _ => rfl
  refine ⟨fd_law, fun s v => b s [v] rfl, fun base _ _ => ?_⟩
  have c_cell : Cal P w K mg base 1 "_law_cell" (spCell K) := cal_of F_cell g_cell b_cell (ok_cell F_cell m_len m_int)
  have c_draws : Cal P w K mg base 1 "_law_draws" spDraws := cal_of F_draws g_draws b_draws (ok_draws F_draws m_int m_abs m_range)
  have c_take : Cal P w K mg base 1 "_law_take" (spTake K) := cal_of F_take g_take b_take (ok_take F_take m_len)
  have c_check_letters : Cal P w K mg base 1 "check_letters" spCkL := cal_of F_check_letters g_check_letters b_check_letters (ok_check_letters F_check_letters m_enumerate)
  have c_check_rows : Cal P w K mg base 1 "check_rows" (spCkR K) := cal_of F_check_rows g_check_rows b_check_rows (ok_check_rows F_check_rows m_enumerate m_len)
  have c_flags_of : Cal P w K mg base 1 "flags_of" (spFlags K) := cal_of F_flags_of g_flags_of b_flags_of (ok_flags_of F_flags_of m_range)
  have c_live_rows : Cal P w K mg base 2 "live_rows" (spLive K) := cal_of F_live_rows g_live_rows b_live_rows (ok_live_rows F_live_rows m_len m_any m_enumerate c_flags_of)
  have c_state_classes : Cal P w K mg base 2 "state_classes" (spClasses K) := cal_of F_state_classes g_state_classes b_state_classes (ok_state_classes F_state_classes m_int m_tuple m_len m_enumerate c_flags_of)
  have c_normal_table : Cal P w K mg base 3 "normal_table" (spNorm K) := cal_of F_normal_table g_normal_table b_normal_table (ok_normal_table F_normal_table m_len m_tuple m_enumerate c_flags_of c_live_rows c_state_classes)
  have c_unending_rows : Cal P w K mg base 2 "unending_rows" (spUnr K) := cal_of F_unending_rows g_unending_rows b_unending_rows (ok_unending_rows F_unending_rows m_len m_any m_enumerate c_flags_of)
  have Fi : FnMq K "__init__" "Machine.__init__" s_Machine___init__ [.non] _ fd_Machine___init__ := F_Machine___init__
  have o_init := ok_minit (P := P) (w := w) (mg := mg) (base := base) F_Machine___init__ m_len m_list m_range cls_Machine n_Machine_letters n_Machine_rows n_Machine_good c_check_letters c_check_rows c_normal_table
  obtain ⟨d3, v3, b3⟩ := FunD.binds1 (ps := P_Machine___init__) Fi 3 0 (by simp) rfl fun T kV doc pm an cdv ct us its hu hi => match us, hu, its, hi with | [_, _, _], _, [_], _ => ⟨_, rfl, rfl⟩
  obtain ⟨d4, v4, b4⟩ := FunD.binds1 (ps := P_Machine___init__) Fi 4 1 (by simp) rfl fun T kV doc pm an cdv ct us its hu hi => match us, hu, its, hi with | [_, _, _, _], _, [_], _ => ⟨_, rfl, rfl⟩
  cases v4
  have k_Machine : Mak P w K mg base 4 "Machine" (spL3 (He.ga K "Machine") K) := ⟨_, _, _, _, _, mk_Machine, o_init, g_Machine, b4, l3_imp⟩
  have kd_Machine : MakD P w K mg base 4 "Machine" [.non] (spL2 (He.ga K "Machine") K) := ⟨_, _, _, _, _, _, mk_Machine, o_init, g_Machine, v3, b3, l2_imp⟩
  have e_Machine : Eqo P w K mg base 1 (He.ga K "Machine") (spEqL (He.ga K "Machine") K) := ⟨_, _, _, (ok_eq F_Machine___eq__ isC m_isinstance g_Machine cls_Machine n_Machine_letters n_Machine_rows n_Machine_good).imp eqL_imp, z1, z2, b_Machine___eq__⟩
  have me_after : Met P w K mg base 1 (He.ga K "Machine") "after" (spAfter (He.ga K "Machine") K) := ⟨_, _, _, cls_Machine, me_Machine_after, ok_after F_Machine_after m_len cls_Machine n_Machine_letters n_Machine_rows, b_Machine_after⟩
  have in_Machine : InO P w K mg base 2 (He.ga K "Machine") (spInL (He.ga K "Machine") K) := ⟨_, _, _, (ok_contains F_Machine___contains__ cls_Machine n_Machine_good me_after).imp inL_imp, y1, y2, b_Machine___contains__⟩
  have me_unending : Met P w K mg base 6 (He.ga K "Machine") "unending" (spMe UnL (He.ga K "Machine") K) := ⟨_, _, _, cls_Machine, me_Machine_unending, ok_unending F_Machine_unending cls_Machine n_Machine_letters n_Machine_rows n_Machine_good c_unending_rows kd_Machine, b_Machine_unending⟩
  have c_row : Cal P w K mg base 2 "_law_row" (spRow K) := cal_of F_row g_row b_row (ok_row F_row m_int m_range c_take)
  have c_table : Cal P w K mg base 3 "_law_table" (spTbl K) := cal_of F_table g_table b_table (ok_table F_table m_int m_range c_take c_row)
  have c_good : Cal P w K mg base 2 "_law_good" (spGod K) := cal_of F_good g_good b_good (ok_good F_good m_int m_range c_take)
  have c_rule : Cal P w K mg base 6 "_law_rule" (spRul (He.ga K "Machine") K) := cal_of F_rule g_rule b_rule (ok_rule F_rule m_list k_Machine kd_Machine)
  have c_goes_on : Cal P w K mg base 1 "_law_goes_on" (spGo K) := cal_of F_goes_on g_goes_on b_goes_on (ok_goes_on F_goes_on m_len)
  have c_kept : Cal P w K mg base 1 "_law_kept" (spKpt K) := cal_of F_kept g_kept b_kept (ok_kept F_kept)
  have c_unending : Cal P w K mg base 2 "_law_unending" (spUnd K) := cal_of F_unending g_unending b_unending (ok_unending_ F_unending m_len m_range c_goes_on c_kept)
  have c_mark : Cal P w K mg base 1 "_law_mark" (spMrk K) := cal_of F_mark g_mark b_mark (ok_mark F_mark)
  have c_normal : Cal P w K mg base 2 "_law_normal" (spNrl K) := cal_of F_normal g_normal b_normal (ok_normal F_normal m_len m_range c_mark)
  have c_leads_on : Cal P w K mg base 1 "leads_on" (spLdo K) := cal_of F_leads_on g_leads_on b_leads_on (ok_leads_on F_leads_on m_all)
  have c_passable_levels : Cal P w K mg base 2 "passable_levels" (spPlv K) := cal_of F_passable_levels g_passable_levels b_passable_levels (ok_passable_levels F_passable_levels m_len m_range c_leads_on)
  have c_numbers_of : Cal P w K mg base 1 "numbers_of" spNum := cal_of F_numbers_of g_numbers_of b_numbers_of (ok_numbers_of F_numbers_of m_tuple m_enumerate)
  have c_check_rounds : CalX P w K mg base 3 "check_rounds" (spCkR9 (He.ga K "BadCount")) := ⟨_, _, _, ok_check_rounds F_check_rounds tok_MOST_ROUNDS g_MOST_ROUNDS (x_BadCount base), g_check_rounds, F_check_rounds.kp, b_check_rounds⟩
  have c_closed_states : Cal P w K mg base 7 "closed_states" (spCls (He.ga K "Machine") K) := cal_of F_closed_states g_closed_states b_closed_states (ok_closed_states F_closed_states m_len cls_Machine n_Machine_rows c_numbers_of c_passable_levels me_unending)
  have c_rounds_needed : Cal P w K mg base 7 "rounds_needed" (spNed (He.ga K "Machine") K) := cal_of F_rounds_needed g_rounds_needed b_rounds_needed (ok_rounds_needed F_rounds_needed m_len m_enumerate cls_Machine n_Machine_rows c_passable_levels me_unending)
  have c_passable : CalKX P w K mg base 7 "passable" 1 ["rounds"] (fun vs zs => vs ++ zs) (spPas (He.ga K "Machine") (He.ga K "BadCount") K) := ⟨_, _, _, _, ok_passable_ F_passable cls_Machine n_Machine_rows c_check_rounds c_numbers_of c_passable_levels me_unending, g_passable, F_passable.kp, kb_passable F_passable⟩
  have c_leads : Cal P w K mg base 1 "_law_leads" (spLds K) := cal_of F_leads g_leads b_leads (ok_leads F_leads m_len)
  have c_flags : Cal P w K mg base 2 "_law_flags" (spFlg K) := cal_of F_flags g_flags b_flags (ok_flags F_flags m_range c_leads)
  have c_passage_lengths : Cal P w K mg base 1 "passage_lengths" (spPl K) := cal_of F_passage_lengths g_passage_lengths b_passage_lengths (ok_passage_lengths F_passage_lengths m_len m_range m_sum)
  have c_sure : Cal P w K mg base 3 "_law_sure" (spSure K) := cal_of F_sure g_sure b_sure (ok_sure F_sure m_len m_range m_int c_take c_unending c_flags)
  have c_check_fates : CalX P w K mg base 3 "check_fates" (spCkF (He.ga K "BadFate")) := ⟨_, _, _, ok_check_fates F_check_fates m_enumerate tok_FATES g_FATES (x_BadFate base), g_check_fates, F_check_fates.kp, b_check_fates⟩
  have c_check_end : CalX P w K mg base 3 "check_end" (spCkE (He.ga K "BadEnd")) := ⟨_, _, _, ok_check_end F_check_end g_ENDS hE (x_BadEnd base), g_check_end, F_check_end.kp, b_check_end⟩
  have c_check_bit : CalX P w K mg base 3 "check_bit" (spCkB (He.ga K "BadBit")) := ⟨_, _, _, ok_check_bit F_check_bit (x_BadBit base), g_check_bit, F_check_bit.kp, b_check_bit⟩
  have c_arrives : Cal P w K mg base 1 "arrives" spArr := cal_of F_arrives g_arrives b_arrives (ok_arrives F_arrives)
  have k_Exchange : MakX P w K mg base 4 "Exchange" (He.ga K "Exchange") (spEx1 (He.ga K "Exchange") (He.ga K "BadBit") (He.ga K "BadFate")) := ⟨_, _, _, mk_Exchange, ok_init F_Exchange___init__ cls_Exchange n_Exchange_first_bit n_Exchange_second_bit n_Exchange_fates c_check_bit c_check_fates, g_Exchange, b_Exchange___init__⟩
  have me_seen : MetX P w K mg base 4 (He.ga K "Exchange") "seen" (spSeen (He.ga K "Exchange") (He.ga K "BadEnd")) := ⟨_, _, _, cls_Exchange, me_Exchange_seen, ok_seen F_Exchange_seen m_range m_len cls_Exchange n_Exchange_first_bit n_Exchange_second_bit n_Exchange_fates c_check_end c_arrives, b_Exchange_seen⟩
  have pp_length : PrpO P w K mg base 1 (He.ga K "Chain") "length" (spLen (He.ga K "Chain") K) := ⟨_, _, _, _, cls_Chain, p_Chain_length, ok_length F_Chain_length cls_Chain n_Chain_kept_lengths, b_Chain_length⟩
  have pp_round_count : PrpO P w K mg base 1 (He.ga K "Decider") "round_count" (spRct (He.ga K "Decider")) := ⟨_, _, _, _, cls_Decider, p_Decider_round_count, ok_round_count F_Decider_round_count cls_Decider n_Decider_kept_rounds, b_Decider_round_count⟩
  have ko_Chain : MakKX P w K mg base 7 "Chain" (He.ga K "Chain") 1 ["rounds"] (fun vs zs => vs ++ zs) (spCh1 (He.ga K "Chain") (He.ga K "Machine") (He.ga K "NoChain") K) := ⟨_, _, _, _, mk_Chain, ok_chain F_Chain___init__ m_len cls_Chain n_Chain_kept_rows n_Chain_kept_lengths cls_Machine n_Machine_rows x0_NoChain c_check_rounds c_passage_lengths me_unending, g_Chain, kb_chain F_Chain___init__⟩
  obtain ⟨dsD, vD, bD⟩ := FunD.binds0 (ps := P_Decider___init__) F_Decider___init__ 2 (by show [(("rounds" : Str), V.non)] ≠ []; simp) rfl fun D doc pm an cdv ct us ks hu hk => match us, hu, ks, hk with | [_, _], _, [_], _ => ⟨_, _, _, _, _, _, rfl, rfl, rfl⟩
  have mkd_Decider : MakDX P w K mg base 8 "Decider" (He.ga K "Decider") [.non] (spDe0 (He.ga K "Decider") (He.ga K "Machine") (He.ga K "CannotDecide") K) := ⟨_, _, _, _, mk_Decider, ok_decider0 F_Decider___init__ cls_Decider n_Decider_kept_rule n_Decider_kept_rounds n_Decider_kept_levels cls_Machine n_Machine_rows x0_CannotDecide c_check_rounds c_rounds_needed c_passable_levels me_unending, g_Decider, vD, bD⟩
  have c_exchange : Cal P w K mg base 2 "_law_exchange" (spLex K) := cal_of F_exchange g_exchange b_exchange (ok_exchange F_exchange m_int m_len m_range c_take)
  have c_swapped : Cal P w K mg base 7 "swapped" (spSwp (He.ga K "Machine") K) := cal_of F_swapped g_swapped b_swapped (ok_swapped F_swapped tok_FATES g_FATES cls_Machine n_Machine_rows me_unending kd_Machine)
  have c_swapped_fates : Cal P w K mg base 1 "_law_swapped_fates" spSwf := cal_of F_swapped_fates g_swapped_fates b_swapped_fates (ok_swapped_fates F_swapped_fates)
  have c_allows : Cal P w K mg base 1 "_law_allows" (spAlw K) := cal_of F_allows g_allows b_allows (ok_allows F_allows m_len)
  have c_every_text : Cal P w K mg base 1 "_law_every_text" spEvt := cal_of F_every_text g_every_text b_every_text (ok_every_text F_every_text m_list m_range)
  have c_drawn_text : Cal P w K mg base 2 "_law_drawn_text" (spDwt K) := cal_of F_drawn_text g_drawn_text b_drawn_text (ok_drawn_text F_drawn_text m_range m_int m_len c_take)
  have c_length : Cal P w K mg base 9 "_law_length" (spLgt (He.ga K "Machine") K) := cal_of F_length g_length b_length (ok_length_ F_length g_NoChain teN pp_length ko_Chain)
  have c_decider_rounds : Cal P w K mg base 10 "_law_decider_rounds" (spDcr (He.ga K "Machine") K) := cal_of F_decider_rounds g_decider_rounds b_decider_rounds (ok_decider_rounds F_decider_rounds g_CannotDecide teD pp_round_count mkd_Decider)
  have c_same_sizes : Cal P w K mg base 11 "_law_same_sizes" (spSss (He.ga K "Machine") K) := cal_of F_same_sizes g_same_sizes b_same_sizes (ok_same_sizes F_same_sizes m_len c_rounds_needed c_decider_rounds c_closed_states c_passable c_length)
  have c_views_swapped : Cal P w K mg base 6 "_law_views_swapped" spVsw := cal_of F_views_swapped g_views_swapped b_views_swapped (ok_views_swapped F_views_swapped k_Exchange me_seen c_swapped_fates)
  exact ok_law F_law isC m_isinstance g_Machine m_int m_len m_list m_tuple m_range m_max cls_Machine n_Machine_letters n_Machine_rows n_Machine_good c_cell c_draws c_take c_table c_good c_unending c_sure c_rule c_normal c_swapped me_unending e_Machine c_exchange c_drawn_text c_every_text c_allows c_swapped_fates c_same_sizes c_views_swapped in_Machine
end Z
open PySem PySem.W PySem.Calls PyProof.Rows
theorem PySem.Challenge.cw_signedpacts_k84_swapped_ends_holds : PySem.Challenge.rw_signedpacts_k84_swapped_ends.Holds := by
  w_on; o_law
  refine HandSHeadRun.head_any (r := OpenLaw.row PySem.Challenge.rw_signedpacts_k84_swapped_ends) (q := view (OpenLaw.row PySem.Challenge.rw_signedpacts_k84_swapped_ends).prog [87]) (H := Zr.hk) (ob := Zr.ob) (M := 8000) (loose := Zr.loose) (d := HandSHeadRun.topDef (OpenLaw.row PySem.Challenge.rw_signedpacts_k84_swapped_ends).prog 87) (kwd := []) Zr.ob_eq
    (by kernel_rfl) (fun s => by kernel_rfl) Zr.run (by kernel_rfl) (by kernel_rfl) (by kernel_rfl) (by rfl) (by first | assumption | decide +kernel) (by decide +kernel) ⟨rfl, rfl, rfl, rfl, rfl, by decide +kernel⟩ ?hw ?hc
  case hw => w_witness2
  case hc =>
    refine L2.walk_ofE (l := PySem.Challenge.rw_signedpacts_k84_swapped_ends) (n := 63) (k := 13) (x := "_law_script") (CX := L2.CX0) rfl (by decide) (by kernel_rfl) ⟨rfl, by decide, by decide⟩ ?F (fun _ _ _ _ z => z)
    intro w mg fa h Y G hmg0
    obtain ⟨K, KX, c, cs, cx⟩ := Y
    have hmg : mg ("law" : PySem.Str) = some (.ref fa) := by
      have e : (HandSHeadRun.topDef (OpenLaw.row PySem.Challenge.rw_signedpacts_k84_swapped_ends).prog 87).name = ("law" : PySem.Str) := by kernel_rfl
      rw [← e]
      exact hmg0
    obtain ⟨fd, hb, hF⟩ := Z.facts (P := (PySem.Challenge.rw_signedpacts_k84_swapped_ends).prog) (w := w) KX G hmg c cs cx (by kernel_rfl) (by kernel_rfl)
    exact ⟨K, fd, Z.spLaw K, KX, hb, fun H a ns hl _ hS => ⟨a, ns, rfl, hS, hl, fun _ => rfl⟩, hF⟩
