import PyProof.Rows.All
import Wide.All
import OpenK.AllK
import Wide.FinOn
import HandS.ForMost
import HandS.Zip
import HandS.TupMul
import HandS.Codes
import KE.GoesMore
import KE.GoesEnum
import HandS.Defaults
import HandS.IsInst
import HandS.Wide
import HandS.WideBits
import HandS.NoneIn
import HandS.OwnEq
import HandS.Star
import HandS.SetTxtIn
import HandS.ExcInit
import HandS.ExcField
import HandS.ExcIs
import HandS.Nested
import HandS.ClsMeth
import HandS.HeadHook1
import KE.KSuper
import KE.KExcSuper
import HandS.WordsExc
import HandS.ExcInitHot
import KE.KExcIs
import HandS.HeadHook2
import HandS.Property
import HandS.Head0
import HandS.Head1
import HandS.Head2
import HandS.HeadEnd
import KE.KOpsOwn
import HandS.NamedTupGet
import HandS.ExcCtx
import HandS.ExcOwn
import PyProof.StrOps2
import HandS.More
import HandS.FStr
import HandS.SortKw
import KE.DatumOrd
import HandS.Strs
import KE.KDictList
import HandS.Sort
import HandS.ListItems
import HandS.Call
import PyProof.Rows.RuleB_pow
import KE.KIntText
import HandS.List
import HandS.Iter
import HandS.DictComp
import HandS.TupAny
import PySem.Challenge.RW_signedpacts_k27_play_steps
set_option Elab.async false
set_option linter.all false
set_option maxRecDepth 100000
set_option maxHeartbeats 4000000
namespace Z
open PySem PySem.Spec PyProof.Rows L2
/-! ### zip over two sequences, each a list (true) or a tuple (false) -/
def SqK (b : Bool) (K : PySem.W.Frag) (H : Hp) (a : Addr) (xs : List V) : Prop := match b with
  | true => SqL K H a xs
  | false => SqT K H a xs
def ItK (b : Bool) (h : Heap) (it l : Addr) (i : Nat) : Prop := match b with
  | true => h.IsListIter it l i
  | false => h.IsTupleIter it l i
def IsK (b : Bool) (h : Heap) (l : Addr) (xs : Array Value) : Prop := match b with
  | true => h.IsList l xs
  | false => h.IsTuple l xs
theorem ItK.at' {b : Bool} {h h' : Heap} {it l : Addr} {i : Nat} (x : ItK b h it l i) (k : ∀ o, h.get? it = some o → h'.get? it = some o) : ItK b h' it l i := by
  cases b
  · exact Heap.IsTupleIter.at x k
  · exact Heap.IsListIter.at x k
theorem ItK.obj {b : Bool} {h : Heap} {it l : Addr} {i : Nat} (x : ItK b h it l i) : ∃ o, h.get? it = some o ∧ ∀ v, o.data ≠ .cell v := by
  cases b
  · obtain ⟨o, e, _, d⟩ := (show h.IsTupleIter it l i from x)
    exact ⟨o, e, fun v q => by rw [d] at q; cases q⟩
  · obtain ⟨o, e, _, d⟩ := (show h.IsListIter it l i from x)
    exact ⟨o, e, fun v q => by rw [d] at q; cases q⟩
theorem sqk_is {X : Cx} {pins : List (Addr × Obj)} {σ : L2.St} {H : Hp} {s : Shared} {b : Bool} {a : Addr} {xs : List V} (I : Inv X pins σ H s) (h : SqK b X.K H a xs) :
    ∃ its : List Value, Vals xs its ∧ IsK b s.heap a its.toArray ∧ a < s.heap.objs.size := by
  cases b
  · obtain ⟨its, r, p, _⟩ := I.tuple h
    obtain ⟨o, ho, _⟩ := id p
    exact ⟨its, r, p, Heap.lt_size ho⟩
  · obtain ⟨its, r, p, _⟩ := I.list h
    exact ⟨its, r, p.isList, p.lt⟩
theorem sqk_inj {X : Cx} {pins : List (Addr × Obj)} {σ : L2.St} {H : Hp} {s : Shared} {b : Bool} {a : Addr} {xs ys : List V} (I : Inv X pins σ H s) (h : SqK b X.K H a xs) (h' : SqK b X.K H a ys) : xs = ys := by
  cases b
  · exact I.tuple_inj h h'
  · exact I.list_inj h h'
theorem drawsK {prog : Program} {w : World} {A : Around} (b : Bool) (hh : A.handled = none) (it l : Addr) (hne : l ≠ it) (items : Array Value) :
    Draws prog w A it [it, l] items.size (fun i v => items[i]? = some v) (fun i h => ItK b h it l i ∧ IsK b h l items) := by
  cases b
  · exact Draws.tuple hh it l hne items
  · exact Draws.list hh it l hne items
def ItzM (p q : Bool) (K : PySem.W.Frag) (a b : Addr) : It :=
  ⟨fun i H => ∃ (xs ys : List V) (x y : V), SqK p K H a xs ∧ SqK q K H b ys ∧ xs[i]? = some x ∧ ys[i]? = some y,
   fun i H v H' => ∃ T x y, v = .ref T ∧ H T = none ∧ H' = upd H T (.tup [x, y]) ∧ (∀ xs, SqK p K H a xs → xs[i]? = some x) ∧ (∀ ys, SqK q K H b ys → ys[i]? = some y),
   fun i H => ∃ xs ys : List V, SqK p K H a xs ∧ SqK q K H b ys ∧ (xs.length ≤ i ∨ ys.length ≤ i) ∧ i ≤ xs.length ∧ i ≤ ys.length⟩
theorem zsep {z TI TO i1 i2 a b : Addr} (D : ZipApart z TI TO i1 i2 a b) : ZipSep2 z TI TO i1 i2 [i1, a] [i2, b] where
  TIz := D.TIz
  TOz := D.TOz
  TITO := D.TITO
  TIi1 := D.TIi1
  mem1 := List.mem_cons_self
  zf1 := fun h => by rcases List.mem_cons.mp h with e | h; exact D.i1z e.symm; exact D.l1z (List.mem_singleton.mp h).symm
  Tf1 := fun h => by rcases List.mem_cons.mp h with e | h; exact D.TOi1 e; exact D.l1TO (List.mem_singleton.mp h).symm
  TIi2 := D.TIi2
  mem2 := List.mem_cons_self
  zf2 := fun h => by rcases List.mem_cons.mp h with e | h; exact D.i2z e.symm; exact D.l2z (List.mem_singleton.mp h).symm
  Tf2 := fun h => by rcases List.mem_cons.mp h with e | h; exact D.TOi2 e; exact D.l2TO (List.mem_singleton.mp h).symm
  sep1_2 := fun h => by rcases List.mem_cons.mp h with e | h; exact D.i12 e; exact D.l2i1 (List.mem_singleton.mp h).symm
  sep2_1 := fun h => by rcases List.mem_cons.mp h with e | h; exact D.i12 e.symm; exact D.l1i2 (List.mem_singleton.mp h).symm
theorem five {c z TI TO i1 i2 : Addr} {Pr : Addr → Prop} (hc : c ∈ [z, TI, TO, i1, i2]) (a : Pr z) (b : Pr TI) (d : Pr TO) (e : Pr i1) (f : Pr i2) : Pr c := by
  have q : c = z ∨ c = TI ∨ c = TO ∨ c = i1 ∨ c = i2 := by simpa using hc
  rcases q with rfl | rfl | rfl | rfl | rfl <;> assumption
theorem turn_zipM {p q : Bool} {P : Program} {w : World} {K : PySem.W.Frag} {elts : List Expr} {kk : Nat} {tpos : Pos} {a b z TI TO i1 i2 : Addr} (D : ZipApart z TI TO i1 i2 a b) :
    Turn P w K (.Tuple elts kk tpos) (ItzM p q K a b) [z, TI, TO, i1, i2] z (fun i h => IsZip h z TI TO .none ∧ IsTupOf2 h TI (.ref i1) (.ref i2) ∧ (∃ x y, IsTupOf2 h TO x y) ∧ ItK p h i1 a i ∧ ItK q h i2 b i) where
  mem := by simp
  obj := fun i h st c hc => by
    obtain ⟨hz, hI, ⟨x, y, hO⟩, h1, h2⟩ := st
    exact five (Pr := fun c => ∃ o, h.get? c = some o ∧ ∀ v, o.data ≠ .cell v) hc ⟨_, hz, fun v q => nomatch q⟩ ⟨_, hI, fun v q => nomatch q⟩ ⟨_, hO, fun v q => nomatch q⟩ h1.obj h2.obj
  keep := fun i h h' st k => by
    obtain ⟨hz, hI, ⟨x, y, hO⟩, h1, h2⟩ := st
    exact ⟨k z (by simp) _ hz, k TI (by simp) _ hI, ⟨x, y, k TO (by simp) _ hO⟩, h1.at' (fun o e => k i1 (by simp) o e), h2.at' (fun o e => k i2 (by simp) o e)⟩
  item := by
    intro X hP hw hK hc i pins s σ H E I hf st hg
    subst hP hw hK
    obtain ⟨hz, hI, ⟨x0, y0, hO⟩, h1, h2⟩ := st
    obtain ⟨xs, ys, x, y, qx, qy, ex, ey⟩ := hg
    obtain ⟨us, rx, kx, _⟩ := sqk_is I qx
    obtain ⟨vs, ry, ky, _⟩ := sqk_is I qy
    obtain ⟨u, eu, ru⟩ := rx.get ex
    obtain ⟨v, ev, rv⟩ := ry.get ey
    have hzl : z < s.heap.objs.size := Heap.lt_size hz
    have lu : i < us.toArray.size := by simpa using (List.getElem?_eq_some_iff.mp eu).1
    have lv : i < vs.toArray.size := by simpa using (List.getElem?_eq_some_iff.mp ev).1
    have hh : X.A.in1.handled = none := I.ok.hd hc
    refine wpAny_pyNext_zipD2_item (zsep D) (drawsK p hh i1 a D.l1i1 us.toArray) (drawsK q hh i2 b D.l2i2 vs.toArray) hz hI hO ⟨h1, kx⟩ ⟨h2, ky⟩ lu lv fun m1 m2 g tk p1 p2 gz gO g1 g2 gT gs gk => ?_
    have e1 : m1 = u := by
      have t1 : us.toArray[i]? = some u := by simpa using eu
      exact Option.some.inj (p1.symm.trans t1)
    have e2 : m2 = v := by
      have t1 : vs.toArray[i]? = some v := by simpa using ev
      exact Option.some.inj (p2.symm.trans t1)
    subst e1 e2
    refine ⟨_, rfl, wpAny_letOwnedTupleGo_zip (s := { s with heap := g, toks := tk }) gz fun g' gz' sb => ?_⟩
    have gT' : g'.get? s.heap.objs.size = some { cls := .type "tuple", data := .seq #[m1, m2] } := (sb.2 _ (Nat.ne_of_gt hzl)).trans gT
    have nw : ObjOk X.prog X.w (upd H s.heap.objs.size (.tup [x, y])) g' s.heap.objs.size (.tup [x, y]) := ⟨by show 2 ≤ sizeLine; decide, [m1, m2], .cons ru (.cons rv .nil), ⟨_, gT', rfl, _, rfl⟩⟩
    have I1 : Inv X pins σ (upd H s.heap.objs.size (.tup [x, y])) { s with heap := g', toks := tk } :=
      I.turnedNew (t' := tk) (ch := [z, TI, TO, i1, i2]) (fun c o nb e => (sb.2 c (fun w => nb (by simp [w]))).trans (gk c o (fun w => nb (by simp [w])) (fun w => nb (by simp [w])) (fun w => nb (by simp [w])) (fun w => nb (by simp [w])) e)) hf (Nat.le_refl _) nw
    refine ⟨.ref s.heap.objs.size, _, I1, rfl, ⟨_, x, y, rfl, I.hok.fresh (Nat.le_refl _), rfl, fun l hl => by rw [sqk_inj I hl qx]; exact ex, fun l hl => by rw [sqk_inj I hl qy]; exact ey⟩, ⟨gz', ?_, ⟨m1, m2, ?_⟩, ?_, ?_⟩, fun c hcm => ?_⟩
    · exact (sb.2 _ D.TIz).trans (gk _ _ D.TIz D.TITO D.TIi1 D.TIi2 hI)
    · exact (sb.2 _ D.TOz).trans gO
    · exact ItK.at' g1.1 (fun o e => (sb.2 _ D.i1z).trans e)
    · exact ItK.at' g2.1 (fun o e => (sb.2 _ D.i2z).trans e)
    · have lt : c < s.heap.objs.size := by
        obtain ⟨o1, q1, _⟩ := h1.obj
        obtain ⟨o2, q2, _⟩ := h2.obj
        exact five (Pr := fun c => c < s.heap.objs.size) hcm hzl (Heap.lt_size hI) (Heap.lt_size hO) (Heap.lt_size q1) (Heap.lt_size q2)
      rw [upd_ne (Nat.ne_of_lt lt)]
      exact (hf c hcm).1
  done := by
    intro X hP hw hK hc i pins s σ H E I hf st hg
    subst hP hw hK
    obtain ⟨hz, hI, ⟨x0, y0, hO⟩, h1, h2⟩ := st
    obtain ⟨xs, ys, qx, qy, hend, le1, le2⟩ := hg
    obtain ⟨us, rx, kx, _⟩ := sqk_is I qx
    obtain ⟨vs, ry, ky, _⟩ := sqk_is I qy
    have l1 := rx.length
    have l2 := ry.length
    have n1 : us.toArray.size = us.length := by simp
    have n2 : vs.toArray.size = vs.length := by simp
    have hh : X.A.in1.handled = none := I.ok.hd hc
    refine wpAny_pyNext_zipD2_end (i := i) (zsep D) (drawsK p hh i1 a D.l1i1 us.toArray) (drawsK q hh i2 b D.l2i2 vs.toArray) hz hI hO ⟨h1, kx⟩ ⟨h2, ky⟩ (by omega) (by omega) (by omega) fun g tk gk => ?_
    exact ⟨rfl, I.turnedL (t' := tk) (ch := [z, TI, TO, i1, i2]) (fun c o nb e => gk c o (fun w => nb (by simp [w])) (fun w => nb (by simp [w])) (fun w => nb (by simp [w])) (fun w => nb (by simp [w])) e) hf⟩
  self := fun A i s Q E st h => wpAny_pyIter_zip st.1 h
def iZipM (K : PySem.W.Frag) (ta : TA) : TI := fun σ H R => ta σ H fun vs H1 => ∃ p q a b xs ys, vs = [.ref a, .ref b] ∧ SqK p K H1 a xs ∧ SqK q K H1 b ys ∧ R (ItzM p q K a b) H1
theorem begK {p : Bool} {h : Heap} {a : Addr} {xs : Array Value} (k : IsK p h a xs) : ∃ o Hp', Begins (.ref a) o Hp' ∧ Hp' h ∧ ∀ h' it, h'.get? it = some o → ItK p h' it a 0 := by
  cases p
  · exact ⟨_, _, begins_tuple a xs, k, fun h' it e => ⟨_, e, rfl, rfl⟩⟩
  · exact ⟨_, _, begins_list a xs, k, fun h' it e => ⟨_, e, rfl, rfl⟩⟩
theorem pi_zipM {X : Cx} {e e2 : Expr} {ta : TA} {p pos tpos : Pos} {elts : List Expr} {kk : Nat} (hg : Gl X "zip") (hm : X.mg "zip" = none) (ha : PA X [e, e2] ta)
    (hs : starEach [e, e2] X.env = (false, eval e X.env) :: starEach [e2] X.env := by rfl) (hpl : (backTo pos (starEach [e2] X.env)).any (·.1) = false := by rfl) :
    PI X (.Tuple elts kk tpos) (.Call (.Name "zip" p) [e, e2] [] pos) (iZipM X.K ta) := by
  constructor
  intro pins s σ H R I h
  refine Call_ (ld_blt I hg hm PyProof.Rows.boot_zip (PyProof.Rows.callWith_type1 (thn (ha.run pos pins s σ H _ I h) fun us s1 ⟨vs, H1, I1, r1, q1⟩ => ?_) hs hpl))
  obtain ⟨k1, k2, a, b, xs, ys, ex, qx, qy, q⟩ := q1
  subst ex
  obtain ⟨u, v, rfl, ru, rv⟩ := Vals.two r1
  cases ru
  cases rv
  obtain ⟨i1, _, p1, lt1⟩ := sqk_is I1 qx
  obtain ⟨i2, _, p2, lt2⟩ := sqk_is I1 qy
  obtain ⟨o1, G1, B1, g1, w1⟩ := begK p1
  obtain ⟨o2, G2, B2, g2, w2⟩ := begK p2
  refine zip_begins2 B1 B2 g1 g2 fun h' hz hI hO e1 e2 hsz hk => wpAny_pyIter_zip hz ?_
  have I2 : Inv X pins σ H1 { s1 with heap := h' } := I1.kept (t' := s1.toks) hk
  refine ⟨s1.heap.objs.size + 4, [s1.heap.objs.size + 4, s1.heap.objs.size + 2, s1.heap.objs.size + 3, s1.heap.objs.size, s1.heap.objs.size + 1], _, _, H1, rfl, I2, turn_zipM (PySem.W.ktu_apart s1.heap.objs.size a b lt1 lt2), ⟨hz, hI, ⟨_, _, hO⟩, w1 _ _ e1, w2 _ _ e2⟩, fun c hcm => ?_, q⟩
  have hle : s1.heap.objs.size ≤ c := five (Pr := fun c => s1.heap.objs.size ≤ c) hcm (Nat.le_add_right _ _) (Nat.le_add_right _ _) (Nat.le_add_right _ _) (Nat.le_refl _) (Nat.le_add_right _ _)
  exact I1.fpOk hle (I1.hok.fresh hle)
end Z
set_option Elab.async false
set_option linter.all false
set_option maxRecDepth 100000
set_option maxHeartbeats 4000000
namespace Z
open PySem PySem.Spec PyProof.Rows L2
/-! ### (v,) * k for 0 ≤ k -/
theorem tmul0 (l : Addr) (v : Value) (n : Nat) (dd : Option Addr) (sl : Array (Option Value)) (u : Tok) :
    Meets (Builtin.«tuple.__mul__» ⟨[.ref l, .int 0 u], []⟩) (fun _ R s => s.heap.get? l = some { cls := .type "tuple", dict := dd, data := .seq #[v] n, slots := sl } ∧
      R (.ok (.ret (Value.ref s.heap.objs.size))) { s with heap := s.heap.push { cls := Value.type "tuple", data := Data.seq #[] }, toks := s.toks }) :=
  .of_wp fun prog w A R s h => by
    obtain ⟨hp, g, d, tk, os⟩ := s
    obtain ⟨hl, h⟩ := h
    have f1 := AutoSeq1.idx_int
    wp_walk using AutoSeq1.wpAny_loadPart' hl
    exact ⟨_, rfl, h⟩
theorem tmul1 (l : Addr) (items : Array Value) (n : Nat) (dd : Option Addr) (sl : Array (Option Value)) (u : Tok) :
    Meets (Builtin.«tuple.__mul__» ⟨[.ref l, .int 1 u], []⟩) (fun _ R s => s.heap.get? l = some { cls := .type "tuple", dict := dd, data := .seq items n, slots := sl } ∧ R (.ok (.ret (Value.ref l))) s) :=
  .of_wp fun prog w A R s h => by
    obtain ⟨hp, g, d, tk, os⟩ := s
    obtain ⟨hl, h⟩ := h
    have f1 := AutoSeq1.idx_int
    wp_walk using AutoSeq1.wpAny_loadPart' hl
    exact ⟨_, rfl, h⟩
theorem same_new {H : Hp} {p : Addr} {o : HO} (h : H p = none) : Same H (upd H p o) := fun b x e => by
  rw [upd_ne (ne_of_none e h)]
  exact e
def rRepU : R2 := fun x y H Q => ∃ l k v, x = .ref l ∧ y = .int k ∧ H l = some (.tup [v]) ∧ 0 ≤ k ∧ k ≤ 1000 ∧ ∀ p H', Same H H' → H' p = some (.tup (List.replicate k.toNat v)) → Q (.ref p) H'
theorem op_repU {X : Cx} : OpR X (binaryOp .Mult) rRepU := by
  intro pins s σ H x y vv uu Q I rx ry h
  obtain ⟨l, k, v, rfl, rfl, hT, h0, h1, q⟩ := id h
  by_cases k2 : 2 ≤ k
  · refine op_repT pins s σ H _ _ vv uu Q I rx ry ⟨l, k, [v], rfl, rfl, .inl (.inl hT), by simp, k2, h1, by simp, fun p np => q p _ (same_new np) ?_⟩
    rw [upd_same]
    congr 2
    generalize k.toNat = m
    induction m with
    | zero => rfl
    | succ m ih => rw [List.replicate_succ, List.flatten_cons, ih, List.replicate_succ]; rfl
  · cases rx
    obtain ⟨t, rfl⟩ := ry
    obtain ⟨its, r, ⟨⟨cls, dd, data, sl⟩, ho, hc, n, hd⟩, hs⟩ := I.tuple (.inl (.inl hT) : SqT X.K H l [v])
    simp only at hc hd
    subst hc hd
    obtain ⟨u, rfl, ru⟩ := Vals.one r
    by_cases k1 : k = 1
    · subst k1
      refine wpAny_binaryOp_repeat_ref (T := "tuple") (U := "int") (by decide) ⟨_, ho, rfl⟩ (fun s' => typeIs_int s' 1 t) noFill_tuple_mul F.fills_int_mul F.slot_int_rmul repeat_tuple F.slot_int_index.lookup
        (call_meets F.slot_int_rmul (typeIs_int s 1 t) F.entry_int_rmul (F.args_int_rmul_2 _ _) (int_rmul_tuple 1 t l [u].toArray n dd sl)
          ⟨ho, rfl, ⟨_, ho, rfl⟩, call_meets F.slot_tuple_mul ⟨_, ho, rfl⟩ F.entry_tuple_mul (F.args_tuple_mul_2 _ _) (tmul1 l [u].toArray n dd sl t) ⟨ho, ?_⟩⟩)
      exact ⟨.ref l, H, I, rfl, q l H (Same.refl H) hT⟩
    · have k0 : k = 0 := by omega
      subst k0
      refine wpAny_binaryOp_repeat_ref (T := "tuple") (U := "int") (by decide) ⟨_, ho, rfl⟩ (fun s' => typeIs_int s' 0 t) noFill_tuple_mul F.fills_int_mul F.slot_int_rmul repeat_tuple F.slot_int_index.lookup
        (call_meets F.slot_int_rmul (typeIs_int s 0 t) F.entry_int_rmul (F.args_int_rmul_2 _ _) (int_rmul_tuple 0 t l [u].toArray n dd sl)
          ⟨ho, rfl, ⟨_, ho, rfl⟩, call_meets F.slot_tuple_mul ⟨_, ho, rfl⟩ F.entry_tuple_mul (F.args_tuple_mul_2 _ _) (tmul0 l u n dd sl t) ⟨ho, ?_⟩⟩)
      refine ⟨.ref s.heap.objs.size, _, I.laid (t' := s.toks) (o := .tup []) (fun b ob z => Heap.get?_push_of_some _ z) (Nat.le_refl _) ?_, rfl, q _ _ (same_new (I.hok.fresh (Nat.le_refl _))) upd_same⟩
      exact ⟨Nat.zero_le _, [], .nil, IsTup.new _ _⟩
/-! ### loops and comprehensions over any iterator -/
def forW (J : It) (g : TG) (tb : TS) (D : Ends) (σ : L2.St) (H : Hp) : Prop := ∃ W : Nat → Nat → L2.St → Hp → Prop, (∃ m, W 0 m σ H) ∧ ∀ i m σ H, W i m σ H →
  (J.stop i H ∧ D.nx σ H) ∨ (J.go i H ∧ ∃ N : L2.St → Hp → Prop, (∀ σ' H', N σ' H' → ∃ m', m' < m ∧ W (i + 1) m' σ' H') ∧ ∀ x H', J.yld i H x H' → g x σ H' fun σ2 H2 => tb { D with nx := N, ct := N, bk := D.nx } σ2 H2)
theorem for_gen {J : It} {n : Nat} {g : TG} {tb : TS} {D : Ends} {σ : L2.St} {H : Hp} (Pv : Nat → L2.St → Hp → Prop) (h0 : Pv 0 σ H) (hgo : ∀ i σ H, i < n → Pv i σ H → J.go i H) (hst : ∀ σ H, Pv n σ H → J.stop n H)
    (hs : ∀ i σ H x H', i < n → Pv i σ H → J.yld i H x H' → g x σ H' fun σ2 H2 => tb { D with nx := Pv (i + 1), ct := Pv (i + 1), bk := D.nx } σ2 H2) (hd : ∀ σ H, Pv n σ H → D.nx σ H) : forW J g tb D σ H := by
  refine ⟨fun i m σ H => m = n - i ∧ i ≤ n ∧ Pv i σ H, ⟨n, by omega, Nat.zero_le _, h0⟩, fun i m σ H w => ?_⟩
  obtain ⟨rfl, hi, p⟩ := w
  by_cases hlt : i < n
  · exact .inr ⟨hgo i σ H hlt p, Pv (i + 1), fun σ' H' z => ⟨n - (i + 1), by omega, rfl, hlt, z⟩, fun x H' y => hs i σ H x H' hlt p y⟩
  · have e : i = n := by omega
    subst e
    exact .inl ⟨hst σ H p, hd σ H p⟩
def lcW (J : It) (g : TG) (tt : TT) (te : TE) (vs : List Nat) (σ : L2.St) (D : Addr) (Qd : Hp → Prop) (H1 : Hp) : Prop := ∃ W : Nat → Nat → Hp → Prop, (∃ m, W 0 m (upd H1 D (.lst []))) ∧ ∀ i m H, W i m H →
  (J.stop i H ∧ Qd H) ∨ (J.go i H ∧ ∃ Nx : Hp → Prop, (∀ H', Nx H' → ∃ m', m' < m ∧ W (i + 1) m' H') ∧ ∀ x H', J.yld i H x H' → g x (wipe σ vs) H' fun σ2 H2 => wipe σ2 vs = wipe σ vs ∧ tt σ2 H2 fun b H3 =>
    if b = true then te σ2 H3 fun y H4 => ∃ acc, H4 D = some (.lst acc) ∧ acc.length < sizeLine ∧ Nx (upd H4 D (.lst (acc ++ [y]))) else Nx H3)
theorem lc_gen {J : It} {n : Nat} {g : TG} {tt : TT} {te : TE} {vs : List Nat} {σ : L2.St} {H1 : Hp} {D : Addr} {Qd : Hp → Prop} (Pv : Nat → Hp → Prop) (h0 : Pv 0 (upd H1 D (.lst []))) (hgo : ∀ i H, i < n → Pv i H → J.go i H) (hst : ∀ H, Pv n H → J.stop n H)
    (hs : ∀ i H x H', i < n → Pv i H → J.yld i H x H' → g x (wipe σ vs) H' fun σ2 H2 => wipe σ2 vs = wipe σ vs ∧ tt σ2 H2 fun b H3 =>
      if b = true then te σ2 H3 fun y H4 => ∃ acc, H4 D = some (.lst acc) ∧ acc.length < sizeLine ∧ Pv (i + 1) (upd H4 D (.lst (acc ++ [y]))) else Pv (i + 1) H3) (hd : ∀ H, Pv n H → Qd H) : lcW J g tt te vs σ D Qd H1 := by
  refine ⟨fun i m H => m = n - i ∧ i ≤ n ∧ Pv i H, ⟨n, by omega, Nat.zero_le _, h0⟩, fun i m H w => ?_⟩
  obtain ⟨rfl, hi, p⟩ := w
  by_cases hlt : i < n
  · exact .inr ⟨hgo i H hlt p, Pv (i + 1), fun H' z => ⟨n - (i + 1), by omega, rfl, hlt, z⟩, fun x H' y => hs i H x H' hlt p y⟩
  · have e : i = n := by omega
    subst e
    exact .inl ⟨hst H p, hd H p⟩
/-! ### a def of the module that may be called by its name -/
structure Cal (P : Program) (w : World) (K : PySem.W.Frag) (mg : Str → Option Value) (base : Heap) (k : Nat) (x : Str) (sp : Sp) : Prop where
  ex : ∃ (f : Addr) (fd : FuncData) (ps : List Str), FnOk P w K mg base CX0 k f fd ps sp ∧ mg x = some (.ref f) ∧ PySem.W.keepIn K (.ref f) = true ∧ Binds K fd ps []
section
variable {X : Cx} {k j : Nat} {x : Str} {sp : Sp} {p pos : Pos} {e : Expr} {es : List Expr} {t : TA}
theorem pe_cl (c : Cal X.prog X.w X.K X.mg X.base k x sp) (hr : Room j X.A) (hk : k ≤ j) (hg : Gl X x) (ha : PA X (e :: es) t)
    (hdb : (x == ("__debug__" : Str)) = false := by decide) (he : starEach (e :: es) X.env = (false, eval e X.env) :: starEach es X.env := by rfl) (hpl : (backTo pos (starEach es X.env)).any (·.1) = false := by rfl) : PE X (.Call (.Name x p) (e :: es) [] pos) (tCall sp [] E0 t) := by
  obtain ⟨f, fd, ps, F, hm, kp, b⟩ := c.ex
  exact pe_call F (hr.mono hk) hg hm kp b .nil pass0 ha hdb he hpl
end
structure CalK (P : Program) (w : World) (K : PySem.W.Frag) (mg : Str → Option Value) (base : Heap) (k : Nat) (x : Str) (n : Nat) (ks : List Str) (gV : List V → List V → List V) (sp : Sp) : Prop where
  ex : ∃ (f : Addr) (fd : FuncData) (ps : List Str) (g : List Value → List Value → List Value), FnOk P w K mg base CX0 k f fd ps sp ∧ mg x = some (.ref f) ∧ PySem.W.keepIn K (.ref f) = true ∧ KBn K fd ps n ks g gV
section
variable {X : Cx} {k j n : Nat} {x : Str} {sp : Sp} {ks : List Str} {gV : List V → List V → List V} {p pos : Pos} {e : Expr} {es : List Expr} {kws : List Keyword} {t tk : TA}
theorem pe_clK (c : CalK X.prog X.w X.K X.mg X.base k x n ks gV sp) (hr : Room j X.A) (hk : k ≤ j) (hg : Gl X x) (ha : PA X (e :: es) t) (hkw : PK X kws tk)
    (hall : (backToKw pos (keywordEach kws X.env)).all (·.1.isSome) = true := by rfl) (hks : (backToKw pos (keywordEach kws X.env)).filterMap (·.1) = ks := by rfl) (hdb : (x == ("__debug__" : Str)) = false := by decide)
    (he : starEach (e :: es) X.env = (false, eval e X.env) :: starEach es X.env := by rfl) (hpl : ((backTo pos (starEach (e :: es) X.env)).any (·.1) || (backToKw pos (keywordEach kws X.env)).any (·.1.isNone)) = false := by rfl) :
    PE X (.Call (.Name x p) (e :: es) kws pos) (tCallN n ks.length sp gV E0 t tk) := by
  obtain ⟨f, fd, ps, g, F, hm, kp, b⟩ := c.ex
  exact pe_callN F (hr.mono hk) hg hm kp b pass0 ha hkw hall hks hdb he hpl
end
/-! ### heaps -/
/-- all but p stands -/
def SB (p : Addr) (H H' : Hp) : Prop := ∀ b o, b ≠ p → H b = some o → H' b = some o
theorem Same.sb {p : Addr} {H H' : Hp} (s : Same H H') : SB p H H' := fun b o _ h => s b o h
theorem SB.trans {p : Addr} {H H1 H2 : Hp} (a : SB p H H1) (b : SB p H1 H2) : SB p H H2 := fun c o n h => b c o n (a c o n h)
theorem SB.upd {p : Addr} {H H' : Hp} {o : HO} (s : SB p H H') : SB p H (upd H' p o) := fun b u n h => by
  rw [upd_ne n]
  exact s b u n h
theorem SB.same {p : Addr} {H H' : Hp} (s : SB p H H') (n : H p = none) : Same H H' := fun b o h => s b o (ne_of_none h n) h
theorem Same.mut {p : Addr} {H H' : Hp} {o : HO} (s : Same H H') (n : H p = none) : Same H (L2.upd H' p o) := fun b u h => by
  rw [upd_ne (ne_of_none h n)]
  exact s b u h
theorem SB.sq {K : PySem.W.Frag} {p a : Addr} {H H' : Hp} {xs : List V} (s : SB p H H') (n : a ≠ p) (h : SqL K H a xs) : SqL K H' a xs := by
  rcases h with (h | ⟨o, h⟩) | h
  · exact .inl (.inl (s _ _ n h))
  · exact .inl (.inr ⟨o, s _ _ n h⟩)
  · exact .inr h
theorem Same.sqT {K : PySem.W.Frag} {a : Addr} {H H' : Hp} {xs : List V} (s : Same H H') (h : SqT K H a xs) : SqT K H' a xs := by
  rcases h with (h | ⟨o, h⟩) | h
  · exact .inl (.inl (s _ _ h))
  · exact .inl (.inr ⟨o, s _ _ h⟩)
  · exact .inr h
theorem Same.sqK {b : Bool} {K : PySem.W.Frag} {a : Addr} {H H' : Hp} {xs : List V} (s : Same H H') (h : SqK b K H a xs) : SqK b K H' a xs := by
  cases b
  · exact Z.Same.sqT s h
  · exact s.seq h
theorem at_map {α : Type} {f : α → V} {xs : List α} {i : Nat} {x : α} (h : xs[i]? = some x) : atI (xs.map f) (i : Int) = some (f x) := atI_nat (by rw [List.getElem?_map, h]; rfl)
theorem of_map {α : Type} {f : α → V} {xs : List α} {i : Nat} {v : V} (h : (xs.map f)[i]? = some v) : ∃ x, xs[i]? = some x ∧ v = f x := by
  rw [List.getElem?_map] at h
  cases e : xs[i]? with
  | none => rw [e] at h; cases h
  | some x => rw [e] at h; exact ⟨x, rfl, (Option.some.inj h).symm⟩
end Z
set_option Elab.async false
set_option linter.all false
set_option maxRecDepth 100000
set_option maxHeartbeats 4000000
namespace Z
open PySem PySem.Spec PyProof.Rows L2
/-! ### data -/
def sqD (b : Bool) (ds : List PyData) : PyData := match b with
  | true => .list ds
  | false => .tuple ds
def intsD (b : Bool) (ns : List Int) : PyData := sqD b (ns.map PyData.int)
def matD (b : Bool) (rs : List (List Int)) : PyData := sqD b (rs.map (intsD b))
theorem dp_sq {b : Bool} {K : PySem.W.Frag} {H : Hp} {a : Addr} {xs : List V} {ds : List PyData} (h : SqK b K H a xs) (d : DpAll K H xs ds) : Dp K H (.ref a) (sqD b ds) := by
  cases b
  · exact .tup h d
  · exact .lst h d
theorem dpa_ints {K : PySem.W.Frag} {H : Hp} : ∀ ns : List Int, DpAll K H (ns.map V.int) (ns.map PyData.int)
  | [] => .nil
  | n :: r => .cons (.int n) (dpa_ints r)
theorem dp_ints {b : Bool} {K : PySem.W.Frag} {H : Hp} {a : Addr} {ns : List Int} (h : SqK b K H a (ns.map V.int)) : Dp K H (.ref a) (intsD b ns) := dp_sq h (dpa_ints ns)
/-- a matrix: a list (or tuple) of lists (or tuples) of ints, at ps -/
def Mat (b : Bool) (K : PySem.W.Frag) (H : Hp) (a : Addr) (ps : List Addr) (rs : List (List Int)) : Prop := SqK b K H a (ps.map V.ref) ∧ ps.length = rs.length ∧ ∀ (i : Nat) (p : Addr) (r : List Int), ps[i]? = some p → rs[i]? = some r → SqK b K H p (r.map V.int)
theorem Mat.mono {b : Bool} {K : PySem.W.Frag} {H H' : Hp} {a : Addr} {ps : List Addr} {rs : List (List Int)} (s : Same H H') (m : Mat b K H a ps rs) : Mat b K H' a ps rs := ⟨Z.Same.sqK s m.1, m.2.1, fun i p r h1 h2 => Z.Same.sqK s (m.2.2 i p r h1 h2)⟩
theorem dpa_mat {b : Bool} {K : PySem.W.Frag} {H : Hp} : ∀ (ps : List Addr) (rs : List (List Int)), ps.length = rs.length → (∀ (i : Nat) (p : Addr) (r : List Int), ps[i]? = some p → rs[i]? = some r → SqK b K H p (r.map V.int)) → DpAll K H (ps.map V.ref) (rs.map (intsD b))
  | [], [], _, _ => .nil
  | p :: ps, r :: rs, hl, h => .cons (dp_ints (h 0 p r rfl rfl)) (dpa_mat ps rs (by simpa using hl) fun i q s h1 h2 => h (i + 1) q s h1 h2)
theorem Mat.dp {b : Bool} {K : PySem.W.Frag} {H : Hp} {a : Addr} {ps : List Addr} {rs : List (List Int)} (m : Mat b K H a ps rs) : Dp K H (.ref a) (matD b rs) := dp_sq m.1 (dpa_mat ps rs m.2.1 m.2.2)
theorem lay_ints : ∀ ns : List Int, PyData.canLayAll0 (ns.map PyData.int) = true
  | [] => rfl
  | n :: r => by
    rw [List.map_cons, PyData.canLayAll0, lay_ints r]
    rfl
theorem dep_ints : ∀ ns : List Int, PyData.depthAll (ns.map PyData.int) = 0
  | [] => rfl
  | n :: r => by
    rw [List.map_cons, PyData.depthAll, dep_ints r]
    rfl
theorem shaped_ints (b : Bool) (ns : List Int) : SeqAt.shaped (intsD b ns) = true := by
  unfold SeqAt.shaped intsD
  cases b
  · show (PyData.canLayAll0 (ns.map PyData.int) && decide (PyData.depthAll (ns.map PyData.int) + 1 ≤ 64)) = true
    rw [lay_ints, dep_ints]
    rfl
  · show (PyData.canLayAll0 (ns.map PyData.int) && decide (PyData.depthAll (ns.map PyData.int) + 1 ≤ 64)) = true
    rw [lay_ints, dep_ints]
    rfl
theorem lay_mat (b : Bool) : ∀ rs : List (List Int), PyData.canLayAll0 (rs.map (intsD b)) = true
  | [] => rfl
  | n :: r => by
    rw [List.map_cons, PyData.canLayAll0, lay_mat b r, SeqAt.canLay_of_shaped (shaped_ints b n)]
    rfl
theorem dep_mat (b : Bool) : ∀ rs : List (List Int), PyData.depthAll (rs.map (intsD b)) ≤ 1
  | [] => Nat.zero_le _
  | n :: r => by
    rw [List.map_cons, PyData.depthAll]
    have h := dep_mat b r
    have h2 : (intsD b n).depth = 1 := by
      cases b
      · show PyData.depthAll (n.map PyData.int) + 1 = 1
        rw [dep_ints]
      · show PyData.depthAll (n.map PyData.int) + 1 = 1
        rw [dep_ints]
    omega
theorem shaped_mat (b : Bool) (rs : List (List Int)) : SeqAt.shaped (matD b rs) = true := by
  have h := dep_mat b rs
  unfold SeqAt.shaped matD
  cases b
  · show (PyData.canLayAll0 (rs.map (intsD false)) && decide (PyData.depthAll (rs.map (intsD false)) + 1 ≤ 64)) = true
    rw [lay_mat, decide_eq_true (by omega)]
    rfl
  · show (PyData.canLayAll0 (rs.map (intsD true)) && decide (PyData.depthAll (rs.map (intsD true)) + 1 ≤ 64)) = true
    rw [lay_mat, decide_eq_true (by omega)]
    rfl
theorem same2 {K : PySem.W.Frag} {H : Hp} {x y : V} {d : PyData} {R : PyData → PyData → Prop} (hx : Dp K H x d) (hy : Dp K H y d) (hs : SeqAt.shaped d = true) (q : R d d) : ∃ d' e', Dp K H x d' ∧ Dp K H y e' ∧ SeqAt.shaped d' = true ∧ SeqAt.shaped e' = true ∧ R d' e' := ⟨d, d, hx, hy, hs, hs, q⟩
theorem eqv_same {d : PyData} (hs : SeqAt.shaped d = true) : PyData.eqv d d = true := SeqAt.eqv_refl d (SeqAt.canLay_of_shaped hs)
/-! ### a target that is one of two kinds -/
def gOr (t u : TG) : TG := fun v σ H Q => t v σ H Q ∨ u v σ H Q
theorem pg_or {X : Cx} {e : Expr} {t u : TG} (h1 : PG X e t) (h2 : PG X e u) : PG X e (gOr t u) := by
  refine ⟨fun pins s σ H v uu Q I r hw => ?_⟩
  rcases hw with h | h
  · exact h1.run pins s σ H v uu Q I r h
  · exact h2.run pins s σ H v uu Q I r h
/-! ### isinstance of built-in kinds -/
theorem isi {K : PySem.W.Frag} {H : Hp} {x : V} {T c : String} {b : Bool} {R : Bool → Prop} (t : TyOf K H x (.type T)) (h : kitB T c = some b) (q : R b) : ∃ (x' c' : V) (t' u' : Value) (b' : Bool), [x, .ty c] = [x', c'] ∧ ClsV c' u' ∧ TyX K H x' t' ∧ PySem.W.kitOne K t' u' = some b' ∧ R b' :=
  ⟨x, .ty c, .type T, .type c, b, rfl, .ty c, .base t, kit_ty h, q⟩
/-! ### rules by the written part itself (within a comprehension's block) -/
section
variable {X : Cx} {K : PySem.W.Frag}
theorem ix_list_K (h : X.K = K) : IxR X (rIxL K) := by subst h; exact ix_list
theorem ix_tup_K (h : X.K = K) : IxR X (rIxT K) := by subst h; exact ix_tup
theorem ix_seq_K (h : X.K = K) : IxR X (rIx K) := by subst h; exact ix_seq
theorem call_len_seq_K (h : X.K = K) : CallR X (.builtin "len") (fun xs H Q => ∃ p ys, xs = [.ref p] ∧ (SqL K H p ys ∨ SqT K H p ys) ∧ Q (.int ys.length) H) := by subst h; exact call_len_seq
theorem call_list_of_K (h : X.K = K) : CallR X (.type "list") (fun xs H Q => ∃ p ys, xs = [.ref p] ∧ (SqL K H p ys ∨ SqT K H p ys) ∧ ∀ l, H l = none → Q (.ref l) (upd H l (.lst ys))) := by subst h; exact call_list_of
theorem call_tuple_of_K (h : X.K = K) : CallR X (.type "tuple") (fun xs H Q => ∃ p ys, xs = [.ref p] ∧ ((SqL K H p ys ∧ ∀ l, H l = none → Q (.ref l) (upd H l (.tup ys))) ∨ (SqT K H p ys ∧ Q (.ref p) H))) := by subst h; exact call_tuple_of
theorem op_in_seq_K (h : X.K = K) : OpR X (compareOp .In) (rIn K false) := by subst h; exact op_in_seq
theorem op_notIn_seq_K (h : X.K = K) : OpR X (compareOp .NotIn) (rIn K true) := by subst h; exact op_notIn_seq
theorem op_eqD_K (h : X.K = K) (hu : X.A.units + 64 < cLine) : OpR X (compareOp .Eq) (rEqD K) := by subst h; exact op_eqD hu
theorem op_neD_K (h : X.K = K) (hu : X.A.units + 64 < cLine) : OpR X (compareOp .NotEq) (rNeD K) := by subst h; exact op_neD hu
theorem call_isi_K (h : X.K = K) : CallR X (.builtin "isinstance") (rIsi K) := by subst h; exact call_isi
end
/-! ### great products -/
theorem big_mul {i j : Int} (hi : i.natAbs < 2 ^ 4000) (hj : j.natAbs < 2 ^ 4000) : CMulX i j := mulx_ok hi hj (by decide)
/-! ### sums of multiples of rows -/
def combN (rs : List (List Int)) (fs : List Int) (w : Nat) : Nat → List Int
  | 0 => List.replicate w 0
  | n + 1 => List.zipWith (fun a b => a + fs.getD n 0 * b) (combN rs fs w n) (rs.getD n [])
theorem combN_len {rs : List (List Int)} {fs : List Int} {w : Nat} (h : ∀ r ∈ rs, r.length = w) : ∀ n, n ≤ rs.length → (combN rs fs w n).length = w
  | 0, _ => List.length_replicate
  | n + 1, hn => by
    rw [combN, List.length_zipWith, combN_len h n (by omega), List.getD_eq_getElem?_getD, List.getElem?_eq_getElem (by omega), Option.getD_some, h _ (List.getElem_mem _)]
    omega
theorem combN_at {rs : List (List Int)} {fs : List Int} {w i c : Nat} (hi : i < rs.length) (hf : i < fs.length) (c1 : c < (combN rs fs w i).length) (c2 : c < rs[i].length) : (combN rs fs w (i + 1))[c]? = some ((combN rs fs w i)[c] + fs[i] * rs[i][c]) := by
  have g1 : fs.getD i 0 = fs[i] := by rw [List.getD_eq_getElem?_getD, List.getElem?_eq_getElem hf]; rfl
  have g2 : rs.getD i [] = rs[i] := by rw [List.getD_eq_getElem?_getD, List.getElem?_eq_getElem hi]; rfl
  rw [combN, List.getElem?_zipWith, g1, g2, List.getElem?_eq_getElem c1, List.getElem?_eq_getElem c2]
end Z
set_option Elab.async false
set_option linter.all false
set_option maxRecDepth 100000
set_option maxHeartbeats 4000000
namespace Z
open PySem PySem.Spec PyProof.Rows L2
open C8 (pss_cut tCut)
local macro_rules | `(tactic| walk_at "num") => `(tactic| first | omega | decide | exact ⟨by omega, by omega⟩ | exact ⟨by omega, by omega, by omega⟩ | exact ⟨by decide, by decide, by decide⟩ | exact Or.inl ⟨by omega, by omega⟩ | exact Or.inr ⟨by omega, by omega⟩)
local macro_rules | `(tactic| walk_at "go") => `(tactic| repeat (first | refine ⟨_, rfl, ?_⟩ | refine ⟨_, _, rfl, rfl, ?_⟩ | refine ⟨_, _, rfl, rfl, (by walk_at "num"), ?_⟩ | refine Or.inl ⟨_, rfl, ?_⟩ | refine ⟨rfl, ?_⟩ | refine And.intro (by walk_at "num") ?_))
def topS (i : Nat) : Stmt := PySem.Challenge.pw_signedpacts_k27_play_steps.main.body.getD i (.Pass ⟨0, 0, 0, 0⟩)
abbrev s_cell : Stmt := topS 47
abbrev N_cell : List Str := ["_law_script", "_law_k"]
abbrev P_cell : List Str := ["_law_script", "_law_k"]
theorem sc_cell : FnScope N_cell P_cell (defScope s_cell) := ⟨rfl, rfl, rfl, by decide +kernel, rfl, by decide +kernel, by decide +kernel⟩
abbrev s_draws : Stmt := topS 48
abbrev N_draws : List Str := ["_law_cell_here", "_law_many", "_law_rest", "_law_large", "_law_seed", "_law_found", "_law_k"]
abbrev P_draws : List Str := ["_law_cell_here", "_law_many"]
theorem sc_draws : FnScope N_draws P_draws (defScope s_draws) := ⟨rfl, rfl, rfl, by decide +kernel, rfl, by decide +kernel, by decide +kernel⟩
abbrev s_take : Stmt := topS 49
abbrev N_take : List Str := ["_law_draws_here", "_law_place"]
abbrev P_take : List Str := ["_law_draws_here", "_law_place"]
theorem sc_take : FnScope N_take P_take (defScope s_take) := ⟨rfl, rfl, rfl, by decide +kernel, rfl, by decide +kernel, by decide +kernel⟩
abbrev FnP (K : PySem.W.Frag) (x : Str) (st : Stmt) (f : Addr) (fd : FuncData) : Prop := FunD K x x (defArgs st) (defBody st) (defScope st) [] [] f fd
section
variable {P : Program} {w : World} {K : PySem.W.Frag} {mg : Str → Option Value} {base : Heap} {f : Addr} {fd : FuncData}
theorem cal_of {k : Nat} {x : Str} {st : Stmt} {ps : List Str} {sp : Sp} (F : FnP K x st f fd) (g : mg x = some (.ref f)) (b : Binds K fd ps []) (h : FnOk P w K mg base CX0 k f fd ps sp) : Cal P w K mg base k x sp := ⟨f, fd, ps, h, g, F.kp, b⟩
/-! ### _law_cell -/
def spCell (K : PySem.W.Frag) : Sp := fun vs H Q _ => ∃ (a : Addr) (ns : List Int) (k : Nat), vs = [.ref a, .int (k : Int)] ∧ SqL K H a (ns.map V.int) ∧ Q (.int (ns.getD k 0)) H
theorem ok_cell (F : FnP K "_law_cell" s_cell f fd) (m_len : mg "len" = none) (m_int : mg "int" = none) : FnOk P w K mg base CX0 1 f fd P_cell (spCell K) := by
  refine F.ok sc_cell (fun vs H Q E h => ?_) (fun cdv A outer s H vs Q E hr h => ?_)
  · obtain ⟨a, ns, k, rfl, _⟩ := h
    rfl
  · obtain ⟨a, ns, k, rfl, hS, q⟩ := h
    refine ⟨_, PSs.nox (pss_cons (ps_if (pt_cmpR op_lt (pv 1) (pe_callB call_len_seq (by rfl) m_len PySem.boot_len (pa_cons (pv 0) pa_nil)) (nomark _)) (pss_one (ps_ret (pe_callTy call_int1 (by rfl) m_int (by decide +kernel) (pa_cons (pe_ix ix_list (pv 0) (pv 1) (fun _ _ => rfl)) pa_nil)))) pss_nil)
      (pss_one (ps_ret pe_int))), ?_⟩
    walk_at "go"
    refine ⟨a, _, rfl, .inl hS, ?_⟩
    walk_at "go"
    rw [List.length_map]
    refine ite2 (fun e => ?_) (fun e => ?_)
    · have hk : k < ns.length := by have := of_decide_eq_true e; omega
      walk_at "go"
      refine ⟨a, _, _, _, rfl, rfl, hS, at_map (List.getElem?_eq_getElem hk), ?_⟩
      walk_at "go"
      rw [List.getD_eq_getElem?_getD, List.getElem?_eq_getElem hk] at q
      exact q
    · have hk : ¬ k < ns.length := fun z => e (decide_eq_true (by omega))
      rw [List.getD_eq_getElem?_getD, List.getElem?_eq_none (by omega)] at q
      exact q
/-! ### _law_draws -/
def Dr (n : Nat) (ds : List Int) : Prop := ds.length = n ∧ ∀ d ∈ ds, 0 ≤ d ∧ d < 1000000
def spDraws : Sp := fun vs H Q _ => ∃ (c : Int) (n : Nat), vs = [.int c, .int (n : Int)] ∧ n ≤ 100000 ∧ ∀ p ds, H p = none → Dr n ds → Q (.ref p) (upd H p (.lst (ds.map V.int)))
theorem ok_draws (F : FnP K "_law_draws" s_draws f fd) (m_int : mg "int" = none) (m_abs : mg "abs" = none) (m_range : mg "range" = none) : FnOk P w K mg base CX0 1 f fd P_draws spDraws := by
  refine F.ok sc_draws (fun vs H Q E h => ?_) (fun cdv A outer s H vs Q E hr h => ?_)
  · obtain ⟨c, n, rfl, _⟩ := h
    rfl
  · obtain ⟨c, n, rfl, hn, q⟩ := h
    refine ⟨_, PSs.nox (pss_cons (ps_set (i := 2) sc_draws.nd rfl (by first | exact .inl rfl | exact .inr rfl) (pe_callB call_abs (by rfl) m_abs (by decide +kernel) (pa_cons (pe_callTy call_int1 (by rfl) m_int (by decide +kernel) (pa_cons (pv 0) pa_nil)) pa_nil)))
      (pss_cons (ps_set (i := 3) sc_draws.nd rfl (by first | exact .inl rfl | exact .inr rfl) (pe_cmpR op_ge (pv 2) (pe_op op_pow pe_int pe_int) (nomark _)))
      (pss_cons (ps_set (i := 4) sc_draws.nd rfl (by first | exact .inl rfl | exact .inr rfl) (pe_op op_mod (pe_callTy call_int1 (by rfl) m_int (by decide +kernel) (pa_cons (pv 2) pa_nil)) pe_int))
      (pss_cons (ps_set (i := 5) sc_draws.nd rfl (by first | exact .inl rfl | exact .inr rfl) (pe_lst pa_nil))
      (pss_cons (ps_for PassesOwn.never rfl (pi_range1 (by rfl) m_range (pa_cons (pv 1) pa_nil)) (pg_name (i := 6) sc_draws.nd rfl (by first | exact .inl rfl | exact .inr rfl))
        (pss_cons (ps_set (i := 4) sc_draws.nd rfl (by first | exact .inl rfl | exact .inr rfl) (pe_op op_mod (pe_callTy call_int1 (by rfl) m_int (by decide +kernel) (pa_cons (pe_op op_add (pe_op op_add (pe_op op_mul (pv 4) pe_int) (pe_op op_mul pe_int (pv 6))) pe_int) pa_nil)) pe_int))
      (pss_one (ps_if (PW.pt (pw_and (pt_val (pv 3)) (pw_and1 (pt_cmpR op_gt (pv 2) pe_int (nomark _))))) (pss_cons (ps_expr (pe_bm PySem.F.plainAttrs_list PySem.F.slot_list_append PySem.F.type_list_append mt_append (pv 5) (pa_cons (pe_op op_mod (pe_callTy call_int1 (by rfl) m_int (by decide +kernel) (pa_cons (pv 2) pa_nil)) pe_int) pa_nil)))
      (pss_one (ps_set (i := 2) sc_draws.nd rfl (by first | exact .inl rfl | exact .inr rfl) (pe_op op_fdiv (pv 2) pe_int)))) (pss_one (ps_expr (pe_bm PySem.F.plainAttrs_list PySem.F.slot_list_append PySem.F.type_list_append mt_append (pv 5) (pa_cons (pe_op op_mod (pe_callTy call_int1 (by rfl) m_int (by decide +kernel) (pa_cons (pe_op op_fdiv (pe_op op_mod (pe_callTy call_int1 (by rfl) m_int (by decide +kernel) (pa_cons (pe_op op_add (pe_op op_mul (pv 4) pe_int) (pe_op op_mul pe_int (pv 6))) pa_nil)) pe_int) pe_int) pa_nil)) pe_int) pa_nil))))))))
      (pss_one (ps_ret (pv 5)))))))), ?_⟩
    walk_at "go"
    intro p np
    walk_at "go"
    refine for_gen (n := n) (fun i σ H1 => ∃ (r : Int) (z : Int) (ds : List Int) (v : Option V), 0 ≤ r ∧ 0 ≤ z ∧ z < 2147483647 ∧ Dr i ds ∧ H1 = upd H p (.lst (ds.map V.int)) ∧
      σ = [some (.int c), some (.int (n : Int)), some (.int r), some (.bl (decide ((10 : Int) ^ 18 ≤ (if c < 0 then -c else c)))), some (.int z), some (.ref p), v]) ?_ ?_ ?_ ?_ ?_
    · refine ⟨_, _, [], none, ?_, ?_, ?_, ⟨rfl, fun d hd => nomatch hd⟩, rfl, rfl⟩
      · split <;> omega
      · omega
      · omega
    · intro i σ H1 hi _
      show i < (n : Int).toNat
      omega
    · intro σ H1 _
      show (n : Int).toNat ≤ n
      omega
    · rintro i σ H1 x H' hi ⟨r, z, ds, v, hr0, hz0, hz1, hd, rfl, rfl⟩ ⟨rfl, rfl⟩
      have hlen : (ds.map V.int).length < sizeLine := by
        rw [List.length_map, hd.1]
        exact Nat.lt_of_lt_of_le hi (Nat.le_trans hn (by decide))
      have fin : ∀ (r' z' d : Int) (u : Option V), 0 ≤ r' → 0 ≤ z' → z' < 2147483647 → 0 ≤ d → d < 1000000 → ∃ (r : Int) (z : Int) (es : List Int) (v : Option V), 0 ≤ r ∧ 0 ≤ z ∧ z < 2147483647 ∧ Dr (i + 1) es ∧ upd (upd H p (.lst (ds.map V.int))) p (.lst (ds.map V.int ++ [.int d])) = upd H p (.lst (es.map V.int)) ∧
          [some (.int c), some (.int (n : Int)), some (.int r'), some (.bl (decide ((10 : Int) ^ 18 ≤ (if c < 0 then -c else c)))), some (.int z'), some (.ref p), u] = [some (.int c), some (.int (n : Int)), some (.int r), some (.bl (decide ((10 : Int) ^ 18 ≤ (if c < 0 then -c else c)))), some (.int z), some (.ref p), v] := by
        intro r' z' d u a1 a2 a3 a4 a5
        refine ⟨r', z', ds ++ [d], u, a1, a2, a3, ⟨by rw [List.length_append, hd.1]; rfl, fun x hx => ?_⟩, ?_, rfl⟩
        · rcases List.mem_append.mp hx with h | h
          · exact hd.2 x h
          · rw [List.mem_singleton.mp h]
            exact ⟨a4, a5⟩
        · rw [upd_upd, List.map_append]
          rfl
      walk_at "go"
      refine ite2 (fun e => ?_) (fun e => ?_)
      · walk_at "go"
        refine ite2 (fun e2 => ?_) (fun e2 => ?_)
        · walk_at "go"
          refine ⟨.inl ⟨rfl, _, .inl (.inl upd_same)⟩, ?_⟩
          walk_at "go"
          refine ⟨_, _, _, rfl, rfl, upd_same, hlen, ?_⟩
          walk_at "go"
          exact fin _ _ _ _ (by omega) (by omega) (by omega) (by omega) (by omega)
        · walk_at "go"
          refine ⟨.inl ⟨rfl, _, .inl (.inl upd_same)⟩, ?_⟩
          walk_at "go"
          refine ⟨_, _, _, rfl, rfl, upd_same, hlen, ?_⟩
          walk_at "go"
          exact fin _ _ _ _ (by omega) (by omega) (by omega) (by omega) (by omega)
      · walk_at "go"
        refine ⟨.inl ⟨rfl, _, .inl (.inl upd_same)⟩, ?_⟩
        walk_at "go"
        refine ⟨_, _, _, rfl, rfl, upd_same, hlen, ?_⟩
        walk_at "go"
        exact fin _ _ _ _ (by omega) (by omega) (by omega) (by omega) (by omega)
    · rintro σ H1 ⟨r, z, ds, v, hr0, hz0, hz1, hd, rfl, rfl⟩
      walk_at "go"
      exact q p ds np hd
/-! ### _law_take -/
def spTake (K : PySem.W.Frag) : Sp := fun vs H Q _ => ∃ (a p : Addr) (n m : Nat) (ds : List Int), vs = [.ref a, .ref p] ∧ SqL K H a (ds.map V.int) ∧ Dr n ds ∧ H p = some (.lst [.int (m : Int)]) ∧ a ≠ p ∧ ∀ r : Int, 0 ≤ r → r < 1000000 → Q (.int r) (upd H p (.lst [.int ((m + 1 : Nat) : Int)]))
theorem ok_take (F : FnP K "_law_take" s_take f fd) (m_len : mg "len" = none) : FnOk P w K mg base CX0 1 f fd P_take (spTake K) := by
  refine F.ok sc_take (fun vs H Q E h => ?_) (fun cdv A outer s H vs Q E hr h => ?_)
  · obtain ⟨a, p, n, m, ds, rfl, _⟩ := h
    rfl
  · obtain ⟨a, p, n, m, ds, rfl, hS, hd, hp, ne, q⟩ := h
    refine ⟨_, PSs.nox (pss_cons (ps_asg (pe_op op_add (pe_ix ix_list (pv 1) pe_int (fun _ _ => rfl)) pe_int) (pg_sub (pv 1) pe_int set_list))
      (pss_cons (ps_if (pt_cmpR op_gt (pe_ix ix_list (pv 1) pe_int (fun _ _ => rfl)) (pe_callB call_len_seq (by rfl) m_len PySem.boot_len (pa_cons (pv 0) pa_nil)) (nomark _)) (pss_one (ps_ret pe_int)) pss_nil)
      (pss_one (ps_ret (pe_ix ix_list (pv 0) (pe_op op_sub (pe_ix ix_list (pv 1) pe_int (fun _ _ => rfl)) pe_int) (fun _ _ => rfl)))))), ?_⟩
    have sb : SB p H (upd H p (.lst [.int ((m + 1 : Nat) : Int)])) := SB.upd (Z.Same.sb (Same.refl H))
    have hS' := sb.sq ne hS
    walk_at "go"
    refine ⟨p, _, 0, _, rfl, rfl, SqL.of hp, rfl, ?_⟩
    walk_at "go"
    refine ⟨p, _, 0, 0, rfl, rfl, hp, rfl, ?_⟩
    show tSeq _ _ _ _ (upd H p (.lst [.int ((m : Int) + 1)]))
    rw [show ((m : Int) + 1) = ((m + 1 : Nat) : Int) by omega]
    walk_at "go"
    refine ⟨p, _, 0, _, rfl, rfl, SqL.of upd_same, rfl, ?_⟩
    walk_at "go"
    refine ⟨a, _, rfl, .inl hS', ?_⟩
    walk_at "go"
    rw [List.length_map]
    refine ite2 (fun e => ?_) (fun e => ?_)
    · exact q 0 (by omega) (by omega)
    · have hk : m < ds.length := by
        apply Decidable.byContradiction
        intro z
        exact e (decide_eq_true (by omega))
      walk_at "go"
      refine ⟨p, _, 0, _, rfl, rfl, SqL.of upd_same, rfl, ?_⟩
      walk_at "go"
      refine ⟨a, _, _, _, rfl, rfl, hS', at_of (by omega) (show (ds.map V.int)[m]? = some (.int ds[m]) by rw [List.getElem?_map, List.getElem?_eq_getElem hk]; rfl), ?_⟩
      have h1 := hd.2 ds[m] (List.getElem_mem hk)
      exact q _ h1.1 h1.2
end
end Z
set_option Elab.async false
set_option linter.all false
set_option maxRecDepth 100000
set_option maxHeartbeats 4000000
namespace Z
open PySem PySem.Spec PyProof.Rows L2
/-! ### own classes: making, methods, calls of instances, == -/
structure Mak (P : Program) (w : World) (K : PySem.W.Frag) (mg : Str → Option Value) (base : Heap) (k : Nat) (x : Str) (sp : Sp) : Prop where
  ex : ∃ (C f : Addr) (fd : FuncData) (ps : List Str) (si : Sp), Mk K C f ∧ FnOk P w K mg base CX0 k f fd ps si ∧ mg x = some (.ref C) ∧ Binds K fd ps [] ∧
    ∀ vs H Q E, sp vs H Q E → ∀ n dx, H n = none → H dx = none → dx ≠ n → si (.ref n :: vs) (upd (upd H dx (.own n)) n (.ins C dx [])) (fun v H2 => v = .non ∧ Q (.ref n) H2) E
structure Met (P : Program) (w : World) (K : PySem.W.Frag) (mg : Str → Option Value) (base : Heap) (k : Nat) (C : Addr) (m : Str) (sp : Sp) : Prop where
  ex : ∃ (f : Addr) (fd : FuncData) (ps : List Str), Cls K C ∧ Meth K C m f ∧ FnOk P w K mg base CX0 k f fd ps sp ∧ Binds K fd ps []
section
variable {X : Cx} {k j : Nat} {x m : Str} {sp : Sp} {C : Addr} {p pos apos : Pos} {e o : Expr} {es : List Expr} {t : TA} {ta : TE}
theorem pe_mk (c : Mak X.prog X.w X.K X.mg X.base k x sp) (hr : Room j X.A) (hk : k + 1 ≤ j) (hg : Gl X x) (ha : PA X (e :: es) t)
    (hdb : (x == ("__debug__" : Str)) = false := by decide) (he : starEach (e :: es) X.env = (false, eval e X.env) :: starEach es X.env := by rfl) (hpl : (backTo pos (starEach es X.env)).any (·.1) = false := by rfl) : PE X (.Call (.Name x p) (e :: es) [] pos) (tCall sp [] E0 t) := by
  obtain ⟨C, f, fd, ps, si, M, F, hm, b, imp⟩ := c.ex
  constructor
  intro pins s σ H Q I h
  refine wpAny_Call_Name_kw (ld_glob I hg hm ?_ hdb)
  refine PySem.W.callWith_K (h₀ := X.base) I.ok.mod.kin M.kp (thn (ha.run pos pins s σ H _ I h) fun us s1 ⟨vs, H1, I1, r, q⟩ => ⟨I1.kIn, ?_⟩) he hpl
  have q2 : sp vs H1 Q E0 := by
    have z : sp (vs ++ []) H1 Q E0 := q
    rw [List.append_nil] at z
    exact z
  refine run_make (dvs := []) M F (hr.mono hk) b .nil pass0 I1 r (fun n dx n1 n2 n3 => ?_)
  rw [List.append_nil]
  exact imp _ _ _ _ q2 n dx n1 n2 n3
theorem pe_me {pl : Sem Bool} (c : Met X.prog X.w X.K X.mg X.base k C m sp) (he : PE X o ta) (hr : Room j X.A) (hk : k ≤ j) (ha : PA X (e :: es) t)
    (hst : starEach (e :: es) X.env = (false, eval e X.env) :: starEach es X.env := by rfl) (hpl : (backTo pos (starEach es X.env)).any (·.1) = false := by rfl)
    (ht : eval (.Call (.Attribute o m apos) (e :: es) [] pos) X.env = (do
      let ov ← eval o X.env
      standAt apos.atName
      let (f, first) ← holding [ov] (getMethod ov m pl)
      callWith pos f first (backTo pos (starEach (e :: es) X.env)) (backToKw pos (keywordEach [] X.env))) := by rfl) : PE X (.Call (.Attribute o m apos) (e :: es) [] pos) (tMeth C m sp [] E0 ta t) := by
  obtain ⟨f, fd, ps, cl, me, F, b⟩ := c.ex
  exact pe_meth he cl me F (hr.mono hk) b .nil pass0 ha hst hpl ht
theorem pe_me0 {pl : Sem Bool} (c : Met X.prog X.w X.K X.mg X.base k C m sp) (he : PE X o ta) (hr : Room j X.A) (hk : k ≤ j)
    (ht : eval (.Call (.Attribute o m apos) [] [] pos) X.env = (do
      let ov ← eval o X.env
      standAt apos.atName
      let (f, first) ← holding [ov] (getMethod ov m pl)
      callWith pos f first (backTo pos (starEach [] X.env)) (backToKw pos (keywordEach [] X.env))) := by rfl) : PE X (.Call (.Attribute o m apos) [] [] pos) (tMeth C m sp [] E0 ta tNil) := by
  obtain ⟨f, fd, ps, cl, me, F, b⟩ := c.ex
  exact pe_meth0 he cl me F (hr.mono hk) b .nil pass0 ht
end
/-! ### f(e, ..), f an instance of C -/
structure Cob (P : Program) (w : World) (K : PySem.W.Frag) (mg : Str → Option Value) (base : Heap) (k : Nat) (C : Addr) (sp : Sp) : Prop where
  ex : ∃ g : Addr, StX.CallO K C g ∧ FnR P w K mg base CX0 k g sp
def tCo (C : Addr) (sp : Sp) (tf : TE) (t : TA) : TE := fun σ H Q => tf σ H fun y H1 => ∃ a, y = V.ref a ∧ t σ H1 fun vs H2 => (∃ dx fs, H2 a = some (.ins C dx fs)) ∧ sp (V.ref a :: vs) H2 Q E0
section
variable {X : Cx} {k j : Nat} {sp : Sp} {C : Addr} {pos : Pos} {e fe : Expr} {es : List Expr} {t : TA} {tf : TE}
theorem pe_co (c : Cob X.prog X.w X.K X.mg X.base k C sp) (hf : PE X fe tf) (hr : Room j X.A) (hk : k ≤ j) (ha : PA X (e :: es) t)
    (ht : eval (.Call fe (e :: es) [] pos) X.env = (do callWith pos (← eval fe X.env) [] (backTo pos (starEach (e :: es) X.env)) (backToKw pos (keywordEach [] X.env))) := by rfl)
    (he : starEach (e :: es) X.env = (false, eval e X.env) :: starEach es X.env := by rfl) (hpl : (backTo pos (starEach es X.env)).any (·.1) = false := by rfl) : PE X (.Call fe (e :: es) [] pos) (tCo C sp tf t) := by
  obtain ⟨g, co, F⟩ := c.ex
  constructor
  intro pins s σ H Q I h
  refine Call_ (thn (hf.run pins s σ H _ I h) fun u s1 ⟨y, H1, I1, ry, a, ey, q⟩ => ?_) ht
  subst ey
  obtain rfl : u = Value.ref a := ry
  refine StX.callO_with (thn (ha.run pos pins s1 σ H1 _ I1 q) fun us s2 ⟨vs, H2, I2, r, hi, q2⟩ => ?_) he hpl
  have hi2 : StX.InsC X H2 a C := .inr hi
  obtain ⟨ox, od, J, hd⟩ := StX.insC_at I2 hi2
  exact ⟨⟨C, ox, od, J, hd⟩, StX.run_callO co F (hr.mono hk) pass0 I2 hi2 r q2⟩
end
/-! ### a == b by the class's own __eq__ -/
structure Eqo (P : Program) (w : World) (K : PySem.W.Frag) (mg : Str → Option Value) (base : Heap) (k : Nat) (C : Addr) (sp : Sp) : Prop where
  ex : ∃ (f : Addr) (fd : FuncData) (ps : List Str), FnOk P w K mg base CX0 k f fd ps sp ∧ PySem.W.findIn K (.ref C) "__eq__" = some (some (.ref f)) ∧ PySem.W.isFn K (.ref f) = true ∧ Binds K fd ps []
def rOwn (C : Addr) (sp : Sp) : R2 := fun x y H Q => ∃ a b dx dy fs gs, x = .ref a ∧ y = .ref b ∧ H a = some (.ins C dx fs) ∧ H b = some (.ins C dy gs) ∧ sp [.ref a, .ref b] H (fun v H' => ∃ r, v = .bl r ∧ Q v H') E0
theorem op_own {X : Cx} {k j : Nat} {C : Addr} {sp : Sp} (c : Eqo X.prog X.w X.K X.mg X.base k C sp) (hr : Room j X.A) (hk : k ≤ j) : OpR X (compareOp .Eq) (rOwn C sp) := by
  intro pins s σ H x y v u Q I rx ry hq
  obtain ⟨f, fd, ps, F, hs, hf, hb⟩ := c.ex
  obtain ⟨a, b, dx, dy, fs, gs, rfl, rfl, ha, hb', q⟩ := hq
  cases rx
  cases ry
  obtain ⟨mA, J, _⟩ := ins_get I.hok ha
  obtain ⟨mB, J', _⟩ := ins_get I.hok hb'
  obtain ⟨od, J, _⟩ := J.look
  obtain ⟨od', J', _⟩ := J'.look
  obtain ⟨m, hF⟩ := I.fr
  show wpAny (model X.prog X.w) X.A (richCompare .Eq (Value.ref a) (Value.ref b)) (EP X pins σ Q) X.xe s
  refine PySem.W.cmp_K (op := .Eq) (tb := .ref C) (hr.mono hk).units0 hF I.ok.mod.kin J J'.type (by simp [PySem.W.notFirst]) hs hf ?_
  have r2 : Vals [V.ref a, V.ref b] [Value.ref a, Value.ref b] := .cons rfl (.cons rfl .nil)
  refine thn (run_fn (dvs := []) F (hr.mono hk) hb .nil pass0 I r2 q) fun r s' z => ?_
  obtain ⟨v, H', I', rv, b', rfl, q'⟩ := z
  cases rv
  exact ⟨.bl b', H', I', rfl, q'⟩
end Z
set_option Elab.async false
set_option linter.all false
set_option maxRecDepth 100000
set_option maxHeartbeats 4000000
namespace Z
open PySem PySem.Spec PyProof.Rows L2 NdefX
/-! ### an own exception whose __init__ begins with super().__init__(..) -/
/-- what the written part says of it: the function f of the class C (cell cc, code c) -/
structure SupK (P : Program) (K : PySem.W.Frag) (C f c cc : Addr) (fd : FuncData) : Prop where
  lk : ∃ oc od osl, K.lookup f = some ⟨oc, od, .func fd, osl⟩
  code : ∃ (ccl : Value) (cdd : Option Addr) (vs : Array Value) (ccs : Array (Option Value)) (file : Str) (tf : Tok), K.lookup c = some ⟨ccl, cdd, .fields vs, ccs⟩ ∧ vs[2]? = some (.str file tf) ∧ ((P.main.file : Str) == file) = true
  cell : ∃ cl cld csl, K.lookup cc = some ⟨cl, cld, .cell (some (.ref C)), csl⟩
  top : (P.main.scope.names.lookup ("super" : Str)).isSome = false
  mro : PySem.W.mroIn K C (.ref C) = some true
  opq : PySem.W.nsIn K cStatics "thirdparty.any" = some none
  ini : PySem.W.ks_superIn K C C "__init__" = some (some (.builtin "ValueError.__init__"))
  sub : PySem.W.subIn K (.ref C) (.type "ValueError") = some true
  exi : PySem.W.excInitIn K C He.veBase "ValueError.__new__" = true
  oex : OexC K C
section
variable {CX : CXT} {P : Program} {w : World} {K : PySem.W.Frag} {mg : Str → Option Value} {base : Heap} {N ps : List Str} {F : NF} {f C a cc : Addr} {A : Around} {outer : List Env} {s0 s : Shared} {H0 H : Hp} {E : XK} {σ : L2.St}
/-- the bound __init__ called -/
theorem call_mw {X : Cx} {pins : List (Addr × Obj)} {u : Addr} {us : List Value} {Q : Value → Shared → Prop} {E : Value → Shared → Prop} {A : Around} (S : SupK X.prog X.K C f c cc fd) (I : Inv X ((u, PySem.W.kxs_mw "ValueError.__init__" a) :: pins) σ H s) (e : H a = some (exo a C none)) (hz : us.length ≤ sizeLine)
    (h : ∀ s', Inv X ((u, PySem.W.kxs_mw "ValueError.__init__" a) :: pins) σ H s' → Q .none s') : wpAny (model X.prog X.w) A (call (.ref u) us) Q E s := by
  have FB := F.excBase_ValueError
  obtain ⟨nm, N', qn, bs, bm, hdct, sn, sub, ab, col, dd, k0, k1, k2, k3, k5, hC, hT⟩ := PySem.W.excInit_of I.kIn S.exi
  have hu := (I.pin (u, PySem.W.kxs_mw "ValueError.__init__" a) (List.mem_append_right _ (List.mem_cons_self ..))).1
  obtain ⟨t1, he⟩ := exo_at I.hok e
  obtain ⟨hh, g, d, tk, os⟩ := s
  refine wpAny_call (codeAny_of_tree ?_)
  show wpAny _ A.in1 (callAny (.ref u) ⟨us, []⟩) _ _ _
  simp only [callAny]
  refine wpAny_bind (wpAny_load hu ?_)
  simp only [PySem.W.kxs_mw, show (Value.type "method-wrapper" == Value.type "method" || Value.type "method-wrapper" == Value.type "builtin_function_or_method" || Value.type "method-wrapper" == Value.type "method-wrapper") = true by decide, if_true]
  refine PySem.W.KFB.if_so (by decide) ?_
  refine wpAny_bind (PySem.W.check_bound_init FB.toExcCallFacts hC he rfl ?_)
  refine wpAny_bind (wpAny_pure (wpAny_pure ?_))
  refine ⟨plainId_quiet FB.init.plain _, codeAny_builtin FB.initEntry ?_⟩
  refine PySem.W.exc_init_tree (cls := .ref C) (t0 := t1) (dv := none) (c2 := .none) (c3 := .none) (b4 := .bool false) he hz fun h' k hx _ => ?_
  have J := I.write (t' := tk) (x := a) (e := a) (o := exo a C none) (by rw [e]; exact True.intro) (.inl rfl) k ⟨_, hx⟩ (exo_ok hx)
  have eu : upd H a (exo a C none) = H := by
    funext b
    by_cases hb : b = a
    · rw [hb, upd_same, e]
    · rw [upd_ne hb]
  rw [eu] at J
  exact h _ J
/-- super().__init__(e, ..), the first statement -/
theorem super_first {pl : Sem Bool} {fd : FuncData} {ar : Arg} {t : TA} {e : Expr} {es : List Expr} {p0 p1 p2 pos pos2 : Pos} {Qn : Hp → Prop} (S : SupK P K C f F.c cc fd) (hcl : F.cl = [(("__class__" : Str), cc)]) (hp : (fd.params.posonlyargs ++ fd.params.args).head? = some ar)
    (hks : F.scope.names.lookup ("super" : Str) = some .globalImplicit) (hkc : F.scope.names.lookup ("__class__" : Str) = some .free) (hka : F.scope.names.lookup ar.arg = some .local) (hk : F.scope.kind = .function) (m_super : mg "super" = none)
    (hN : N[0]? = some ar.arg) (ha : PA (ncx CX P w K mg base N F f A outer s0 H0 E) (e :: es) t) (I : Inv (ncx CX P w K mg base N F f A outer s0 H0 E) [] σ H s) (hs : σ[0]? = some (some (.ref a))) (hx : H a = some (exo a C none))
    (ht : t σ H fun vs H1 => vs.length ≤ 1000 ∧ H1 a = some (exo a C none) ∧ Qn H1)
    (hint : interactive (ncx CX P w K mg base N F f A outer s0 H0 E).env = false := by rfl) (hsw : swapsWith (.Call (.Attribute (.Call (.Name "super" p0) [] [] p1) "__init__" p2) (e :: es) [] pos) none pos2.line (ncx CX P w K mg base N F f A outer s0 H0 E).env = pure false := by rfl)
    (hev : eval (.Call (.Attribute (.Call (.Name "super" p0) [] [] p1) "__init__" p2) (e :: es) [] pos) (ncx CX P w K mg base N F f A outer s0 H0 E).env = (do
      let ov ← attributeBase (.Call (.Name "super" p0) [] [] p1) "__init__" (ncx CX P w K mg base N F f A outer s0 H0 E).env (eval (.Call (.Name "super" p0) [] [] p1) (ncx CX P w K mg base N F f A outer s0 H0 E).env)
      standAt p2.atName
      let (g, first) ← holding [ov] (getMethod ov "__init__" pl)
      callWith pos g first (backTo pos (starEach (e :: es) (ncx CX P w K mg base N F f A outer s0 H0 E).env)) []) := by rfl)
    (he : starEach (e :: es) (ncx CX P w K mg base N F f A outer s0 H0 E).env = (false, eval e (ncx CX P w K mg base N F f A outer s0 H0 E).env) :: starEach es (ncx CX P w K mg base N F f A outer s0 H0 E).env := by rfl) (hpl : (backTo pos (starEach es (ncx CX P w K mg base N F f A outer s0 H0 E).env)).any (·.1) = false := by rfl) :
    _root_.PySem.wpAt (model P w) (ncx CX P w K mg base N F f A outer s0 H0 E).A (.func F.body (ncx CX P w K mg base N F f A outer s0 H0 E).env) (exec (.Expr (.Call (.Attribute (.Call (.Name "super" p0) [] [] p1) "__init__" p2) (e :: es) [] pos) pos2) (ncx CX P w K mg base N F f A outer s0 H0 E).env)
      (fun fl s' => fl = .next ∧ ∃ H1, Inv (ncx CX P w K mg base N F f A outer s0 H0 E) [] σ H1 s' ∧ H1 a = some (exo a C none) ∧ Qn H1) (ncx CX P w K mg base N F f A outer s0 H0 E).xe s := by
  obtain ⟨oc, od, osl, lkf⟩ := S.lk
  obtain ⟨ccl, cdd, vs, ccs, file, tf, lkc, hvs, hfile⟩ := S.code
  obtain ⟨cl, cld, csl, lkcc⟩ := S.cell
  have KX : K.In s.heap := I.kIn
  obtain ⟨m, hn, hl⟩ := I.loc
  obtain ⟨u, ru, lu⟩ := hl 0 ar.arg (.ref a) hN hs (.inl hka)
  obtain rfl : u = .ref a := ru
  have hma : m ar.arg = some (.ref a) := by
    rcases lu with ⟨_, z⟩ | ⟨z, _⟩
    · exact z
    · rcases z with z | z
      · rw [show (ncx CX P w K mg base N F f A outer s0 H0 E).env.kindOf ar.arg = some .local from hka] at z; cases z
      · rw [show (ncx CX P w K mg base N F f A outer s0 H0 E).env.kindOf ar.arg = some .local from hka] at z; cases z
  obtain ⟨nm, q, NN, bs, bm, sn, sub, ab, col, dd, k0, k1, k2, k3, k5, hC, hbm⟩ := S.oex.cls
  obtain ⟨t1, hox⟩ := exo_at I.hok hx
  refine ks_wpAt_Expr_any (ks_wpAt_MethodCall ?_ hev) hint hsw
  refine ks_wpAt_super_base (env := (ncx CX P w K mg base N F f A outer s0 H0 E).env) (cc := F.c) hks hkc (by decide) rfl (KX _ _ lkf) rfl hp rfl (KX _ _ lkc) rfl hvs hfile S.top ?_
  obtain ⟨mb, h1, h2⟩ := I.mod.blt
  refine PySem.W.ks_loadName_global hk hks (Calls.loadGlobal_builtin (by rw [I.ok.glob]; exact I.mod.glob.keeps I.bk) m_super (by rw [I.ok.blt]; exact h1.keeps I.bk) ((h2 "super" (by decide)).trans (by decide +kernel)) ⟨rfl, ?_⟩)
  refine wpAny_loadName_free hk hkc (c := cc) (by show F.cl.lookup _ = _; rw [hcl]; rfl) ⟨_, KX _ _ lkcc, rfl⟩ ?_
  refine wpAny_loadName_local hk hka hn hma ?_
  refine ks_wpAny_isType_cls (KX _ _ hC) rfl ⟨rfl, ?_⟩
  obtain ⟨hh, g, d, tk, os⟩ := s
  refine ks_wpAny_call_super (KX _ _ hC) rfl hox rfl (fun c z => by cases z) (PySem.W.looks_mroIn KX S.mro) (fun h' eso kso => ?_)
  have I2 : Inv (ncx CX P w K mg base N F f A outer s0 H0 E) [] σ H ⟨h', g, d, tk, os⟩ := I.kept kso
  have KX2 : K.In h' := I2.kIn
  have hox2 := kso _ _ hox
  have IA : PySem.W.InstAt h' a _ C none := ⟨hox2, rfl, rfl, trivial⟩
  have hI : PySem.W.Looks (model P w) h' (isInstance (.ref a) (.type "ValueError")) true := IA.type.andThen (PySem.W.looks_subIn KX2 S.sub)
  have hm := S.ini
  cases hc : PySem.W.clsIn K C with
  | none =>
    unfold PySem.W.ks_superIn at hm
    rw [hc] at hm
    cases hm
  | some cd =>
    unfold PySem.W.ks_superIn at hm
    rw [hc] at hm
    refine PySem.W.kxs_getMethod PySem.W.kxs_ValueError eso (PySem.W.looks_opaque KX2 S.opq) (l₀ := cd.mro) ?_ rfl KX2 hm hI (PySem.W.ks_ne KX2 IA hc) (by decide) ?_
    · exact fun A Q E s k q => wpAny_bind ((PySem.W.looks_clsIn KX2 hc) A _ E s k (wpAny_pure q))
    · have I3 : Inv (ncx CX P w K mg base N F f A outer s0 H0 E) [(h'.objs.size, PySem.W.kxs_mw "ValueError.__init__" a)] σ H ⟨h'.push (PySem.W.kxs_mw "ValueError.__init__" a), g, d, tk + 1, os⟩ := ClX.pin_new I2 (fun b o e => Heap.get?_push_of_some _ e) (Nat.le_refl _) (Heap.get?_push_at rfl rfl) (fun v z => by cases z)
      rw [he]
      refine PySem.W.kxs_callWith (i := "ValueError.__init__") (x := a) (by show (false || (backTo pos (starEach es _)).any (·.1)) = false; rw [hpl]; rfl) ?_
      refine PySem.Calls.evalArgs_plain ?_
      have hrun := ha.run pos _ _ σ H _ I3 ht
      rw [he] at hrun
      refine thn hrun fun us s3 ⟨ws, H3, I4, r, q1, q2, q3⟩ => ?_
      refine ⟨ClX.pin_at I4, ?_⟩
      refine call_mw (X := ncx CX P w K mg base N F f A outer s0 H0 E) S I4 q2 (by show us.length ≤ sizeLine; rw [← r.length]; exact Nat.le_trans q1 (by decide)) fun s' I5 => ⟨rfl, H3, ClX.unpin I5, q2, q3⟩
theorem wpAt_to {M : Model} {A : Around} {c : Code} {α : Type} {m : Sem α} {Q Q' : α → Shared → Prop} {E : Value → Shared → Prop} {s : Shared} (h : _root_.PySem.wpAt M A c m Q E s) (hq : ∀ a s', Q a s' → Q' a s') : _root_.PySem.wpAt M A c m Q' E s := ks_wpAt_mono h hq fun _ _ z => z
/-- THE RULE: such an __init__, the rest of its body by its readings -/
theorem sup_ok {pl : Sem Bool} {fd : FuncData} {dV kV doc pm ct : Value} {an : Option Addr} {ar : Arg} {k : Nat} {sp : Sp} {txt : Str} {j : Nat} {p0 p1 p2 p3 pos pos2 : Pos} {rest : List Stmt} (hfd : fd = PySem.W.fnX F.name F.qual F.params F.body F.scope F.cl dV kV doc pm an (.ref F.c) ct)
    (S : SupK P K C f F.c cc fd) (hcd : PySem.W.codeIn K (.ref F.c) F.qual = true) (NS : NScope N ps ["__class__"] F.scope) (hcl : F.cl = [(("__class__" : Str), cc)]) (hp : (F.params.posonlyargs ++ F.params.args).head? = some ar) (hks : F.scope.names.lookup ("super" : Str) = some .globalImplicit) (m_super : mg "super" = none)
    (hN : N[0]? = some ar.arg) (hka : F.scope.names.lookup ar.arg = some .local)
    (hb : F.body = .Expr (.Call (.Attribute (.Call (.Name "super" p0) [] [] p1) "__init__" p2) [.Constant (.str txt) j p3] [] pos) pos2 :: rest)
    (len : ∀ vs H Q E, sp vs H Q E → vs.length = ps.length) (hself : ∀ vs H Q E, sp vs H Q E → ∃ a vs', vs = .ref a :: vs' ∧ H a = some (exo a C none))
    (hint : ∀ (A : Around) (outer : List Env) (s : Shared) (H : Hp) (E : XK), interactive (ncx CX P w K mg base N F f A outer s H E).env = false)
    (hsw : ∀ (A : Around) (outer : List Env) (s : Shared) (H : Hp) (E : XK), swapsWith (.Call (.Attribute (.Call (.Name "super" p0) [] [] p1) "__init__" p2) [.Constant (.str txt) j p3] [] pos) none pos2.line (ncx CX P w K mg base N F f A outer s H E).env = pure false)
    (hev : ∀ (A : Around) (outer : List Env) (s : Shared) (H : Hp) (E : XK), eval (.Call (.Attribute (.Call (.Name "super" p0) [] [] p1) "__init__" p2) [.Constant (.str txt) j p3] [] pos) (ncx CX P w K mg base N F f A outer s H E).env = (do
      let ov ← attributeBase (.Call (.Name "super" p0) [] [] p1) "__init__" (ncx CX P w K mg base N F f A outer s H E).env (eval (.Call (.Name "super" p0) [] [] p1) (ncx CX P w K mg base N F f A outer s H E).env)
      standAt p2.atName
      let (g, first) ← holding [ov] (getMethod ov "__init__" pl)
      callWith pos g first (backTo pos (starEach [.Constant (.str txt) j p3] (ncx CX P w K mg base N F f A outer s H E).env)) []))
    (hrest : ∀ (A : Around) (outer : List Env) (s : Shared) (H : Hp) (vs : List V) (Q : VK) (E : XK), sp vs H Q E → ∃ t, PSs (ncx CX P w K mg base N F f A outer s H E) rest t ∧ t { nx := fun _ H' => Q .non H', rt := Q } (startF N vs [some (.ref C)]) H) : FnOk P w K mg base CX (k + 1) f fd ps sp := by
  refine ⟨len, fun A outer s H args us vs Q E hr e0 hbn r hsp => ?_⟩
  have hl := len _ _ _ _ hsp
  have KX : K.In s.heap := e0.mod.kin.keeps fun b o e => (e0.bs b o e).1
  have lim : s.heap.NoLimit := e0.mod.nolimit.keeps fun b o e => (e0.bs b o e).1
  obtain ⟨oc, od, osl, lkf⟩ := S.lk
  obtain ⟨cl, cld, csl, lkcc⟩ := S.cell
  have CA : CellsAt F.cl ["__class__"] [some (.ref C)] s.heap H := by
    refine ⟨rfl, fun y c e => ?_, fun x y c e1 e2 => ?_, fun i y e => ?_⟩
    · rw [hcl] at e
      have ec : c = cc := by
        unfold List.lookup at e
        split at e
        · exact (Option.some.inj e).symm
        · cases e
      subst ec
      exact ⟨(e0.bs _ _ (e0.mod.kin _ _ lkcc)).2, _, _, KX _ _ lkcc, rfl⟩
    · rw [hcl] at e1 e2
      have k : ∀ z : Str, ([(("__class__" : Str), cc)] : List (Str × Addr)).lookup z = some c → z = "__class__" := fun z e => by
        unfold List.lookup at e
        split at e
        · next h => exact beq_iff_eq.mp h
        · cases e
      rw [k x e1, k y e2]
    · have ey : y = "__class__" := by
        cases i with
        | zero => exact (Option.some.inj e).symm
        | succ i => cases e
      subst ey
      refine ⟨cc, by rw [hcl]; rfl, fun v hv => ?_⟩
      have ei : i = 0 := by
        cases i with
        | zero => rfl
        | succ i => cases e
      subst ei
      obtain rfl : V.ref C = v := Option.some.inj (Option.some.inj hv)
      exact ⟨.ref C, rfl, _, KX _ _ lkcc, rfl⟩
  subst hfd
  refine ks_codeAny_call_defAt hr.depth (KX _ _ lkf) rfl lim (PySem.W.codeRec_of KX hcd) rfl hbn NS.nocell (fun ⟨n, _⟩ hy => NS.par n (List.of_mem_zip hy).1) (fun h₁ hns kp => ?_) NS.co NS.gen NS.kind
  show _root_.PySem.wpAt _ (ncx CX P w K mg base N F f A outer s H E).A (.func F.body (ncx CX P w K mg base N F f A outer s H E).env) (execs F.body (ncx CX P w K mg base N F f A outer s H E).env) _ (ncx CX P w K mg base N F f A outer s H E).xe _
  have I : Inv (ncx CX P w K mg base N F f A outer s H E) [] (startF N vs [some (.ref C)]) H { s with heap := h₁, toks := s.toks + (ps.zip us).length } := inv_startN NS hr.hd e0 hl r CA hns kp
  obtain ⟨a, vs', rfl, hx⟩ := hself _ _ _ _ hsp
  have hexe : execs F.body (ncx CX P w K mg base N F f A outer s H E).env = execs (.Expr (.Call (.Attribute (.Call (.Name "super" p0) [] [] p1) "__init__" p2) [.Constant (.str txt) j p3] [] pos) pos2 :: rest) (ncx CX P w K mg base N F f A outer s H E).env := by rw [hb]
  rw [hexe]
  refine ks_wpAt_execs_cons (wpAt_to (super_first (Qn := fun H1 => H1 = H) S hcl hp hks (NS.frk _ (List.mem_cons_self ..)) hka NS.kind m_super hN (pa_cons pe_str pa_nil) I rfl hx ⟨by simp, hx, rfl⟩ (hint A outer s H E) (hsw A outer s H E) (hev A outer s H E)) ?_)
  rintro fl s1 ⟨rfl, H1, I1, _, rfl⟩
  obtain ⟨t, ht, hq⟩ := hrest A outer s H1 _ Q E hsp
  refine wpAt_of_wpAny (wpAny_mono (ht.run [] _ _ H1 _ I1 hq) (fun fl s' hs => ?_) fun e s' hs => hs)
  have fin : ∀ {σ' : L2.St} {H' : Hp} {v : V} {u : Value}, Inv (ncx CX P w K mg base N F f A outer s H1 E) [] σ' H' s' → L2.RelV v u → Q v H' → CE outer P w H1 s Q u s' :=
    fun {σ' H' v u} J rv q => ⟨v, H', J.os, J.bare, J.base, J.hok, rv, q⟩
  cases fl with
  | ret u =>
    obtain ⟨v, σ', H', J, rv, q⟩ := hs
    exact fin J rv q
  | next =>
    obtain ⟨σ', H', J, q⟩ := hs
    exact fin (v := V.non) (u := Value.none) J rfl q
  | brk =>
    obtain ⟨_, _, _, q⟩ := hs
    exact False.elim q
  | cont =>
    obtain ⟨_, _, _, q⟩ := hs
    exact False.elim q
end
end Z
set_option Elab.async false
set_option linter.all false
set_option maxRecDepth 100000
set_option maxHeartbeats 4000000
namespace Z
open PySem PySem.Spec PyProof.Rows L2 NdefX
/-! ### class X(..): def __init__(self, v): super().__init__("text"); self.field = v -/
def spEx (C : Addr) (field : Str) : Sp := fun vs H Q _ => ∃ (a : Addr) (v : V), vs = [.ref a, v] ∧ H a = some (exo a C none) ∧ ∀ dx, H dx = none → dx ≠ a → Q .non (upd (upd H dx (exd dx [(field, v)])) a (exo a C (some dx)))
theorem exn_ok {P : Program} {w : World} {K : PySem.W.Frag} {mg : Str → Option Value} {base : Heap} {F : NF} {f C cc : Addr} {pl : Sem Bool} {fd : FuncData} {dV kV doc pm ct : Value} {an : Option Addr} {ar : Arg} {txt v field : Str} {j : Nat} {p0 p1 p2 p3 pos pos2 q1 q2 q3 q4 : Pos} (hfd : fd = PySem.W.fnX F.name F.qual F.params F.body F.scope F.cl dV kV doc pm an (.ref F.c) ct)
    (S : SupK P K C f F.c cc fd) (hcd : PySem.W.codeIn K (.ref F.c) F.qual = true) (NS : NScope ["self", v, "__class__"] ["self", v] ["__class__"] F.scope) (hcl : F.cl = [(("__class__" : Str), cc)]) (hp : (F.params.posonlyargs ++ F.params.args).head? = some ar) (har : ar.arg = "self") (hks : F.scope.names.lookup ("super" : Str) = some .globalImplicit) (m_super : mg "super" = none)
    (hno : PySem.W.findIn K (.ref C) field = some none) (hvd : (v == ("__debug__" : Str)) = false) (hvc : (v == ("__classdict__" : Str)) = false)
    (hb : F.body = [.Expr (.Call (.Attribute (.Call (.Name "super" p0) [] [] p1) "__init__" p2) [.Constant (.str txt) j p3] [] pos) pos2, .Assign [.Attribute (.Name "self" q1) field q2] (.Name v q3) q4])
    (hint : ∀ (A : Around) (outer : List Env) (s : Shared) (H : Hp) (E : XK), interactive (ncx CX0 P w K mg base ["self", v, "__class__"] F f A outer s H E).env = false)
    (hsw : ∀ (A : Around) (outer : List Env) (s : Shared) (H : Hp) (E : XK), swapsWith (.Call (.Attribute (.Call (.Name "super" p0) [] [] p1) "__init__" p2) [.Constant (.str txt) j p3] [] pos) none pos2.line (ncx CX0 P w K mg base ["self", v, "__class__"] F f A outer s H E).env = pure false)
    (hev : ∀ (A : Around) (outer : List Env) (s : Shared) (H : Hp) (E : XK), eval (.Call (.Attribute (.Call (.Name "super" p0) [] [] p1) "__init__" p2) [.Constant (.str txt) j p3] [] pos) (ncx CX0 P w K mg base ["self", v, "__class__"] F f A outer s H E).env = (do
      let ov ← attributeBase (.Call (.Name "super" p0) [] [] p1) "__init__" (ncx CX0 P w K mg base ["self", v, "__class__"] F f A outer s H E).env (eval (.Call (.Name "super" p0) [] [] p1) (ncx CX0 P w K mg base ["self", v, "__class__"] F f A outer s H E).env)
      standAt p2.atName
      let (g, first) ← holding [ov] (getMethod ov "__init__" pl)
      callWith pos g first (backTo pos (starEach [.Constant (.str txt) j p3] (ncx CX0 P w K mg base ["self", v, "__class__"] F f A outer s H E).env)) []))
    (hs2 : ∀ (A : Around) (outer : List Env) (s : Shared) (H : Hp) (E : XK), swapsWith (.Name v q3) (some (.Attribute (.Name "self" q1) field q2)) q4.line (ncx CX0 P w K mg base ["self", v, "__class__"] F f A outer s H E).env = pure false) : FnOk P w K mg base CX0 1 f fd ["self", v] (spEx C field) := by
  refine sup_ok (k := 0) (rest := [.Assign [.Attribute (.Name "self" q1) field q2] (.Name v q3) q4]) hfd S hcd NS hcl hp hks m_super (by rw [har]; rfl) (by rw [har]; exact NS.par _ (List.mem_cons_self ..)) hb (fun vs H Q E h => ?_) (fun vs H Q E h => ?_) hint hsw hev (fun A outer s H vs Q E h => ?_)
  · obtain ⟨a, y, rfl, _⟩ := h
    rfl
  · obtain ⟨a, y, rfl, hx, _⟩ := h
    exact ⟨a, [y], rfl, hx⟩
  · obtain ⟨a, y, rfl, hx, q⟩ := h
    refine ⟨_, pss_one (ps_ost (pe_var (i := 0) rfl (.inl (NS.par _ (List.mem_cons_self ..)))) (pe_var (i := 1) rfl (.inl (NS.par _ (List.mem_cons_of_mem _ (List.mem_cons_self ..)))) hvd hvc) (hs2 A outer s H E)), ?_⟩
    refine ⟨y, rfl, .ref a, rfl, a, C, rfl, S.oex, hno, .inl ⟨hx, fun dx n1 n2 => ?_⟩⟩
    exact q dx n1 n2
/-! ### raise X(e) -/
structure Exn (P : Program) (w : World) (K : PySem.W.Frag) (mg : Str → Option Value) (base : Heap) (x : Str) (C : Addr) (field : Str) : Prop where
  oex : OexC K C
  gl : mg x = some (.ref C)
  ini : ∃ fI fd ps, PySem.W.findIn K (.ref C) "__init__" = some (some (.ref fI)) ∧ PySem.W.typeIn K (.ref fI) = some (.type "function") ∧ FnOk P w K mg base CX0 1 fI fd ps (spEx C field) ∧ Binds K fd ps []
/-! ### C(e): the exception's object has no context -/
section
variable {X : Cx} {x : Str} {C g : Addr} {k : Nat} {fd : FuncData} {ps : List Str} {sp : Sp} {e : Expr} {ta : TA} {p pos : Pos}
/-- the two objects that type.__call__ lays -/
abbrev hp2 (h : Heap) (C : Addr) (us : List Value) : Heap :=
  (h.push (PySem.W.kdv_tup us)).push (PySem.HandSPX.excO C h.objs.size)
theorem hp2_keep {h : Heap} {us : List Value} (b : Addr) (o : Obj) (z : h.get? b = some o) :
    (hp2 h C us).get? b = some o := Heap.get?_push_of_some _ (Heap.get?_push_of_some _ z)
theorem hp2_at {h : Heap} {us : List Value} :
    (hp2 h C us).get? (h.objs.size + 1) = some (PySem.HandSPX.excO C h.objs.size) := by heap_get
theorem inv2 {pins : List (Addr × Obj)} {σ : L2.St} {H : Hp} {h : Heap} {gs : Array GenState} {dr : Drawn} {tk : Nat} {os : OsState} {us : List Value}
    (I : Inv X pins σ H ⟨h, gs, dr, tk, os⟩) :
    Inv X pins σ (upd H (h.objs.size + 1) (exo (h.objs.size + 1) C none)) ⟨hp2 h C us, gs, dr, tk, os⟩ :=
  I.laid (t' := tk) (a := h.objs.size + 1) (o := exo (h.objs.size + 1) C none) (h' := hp2 h C us)
    hp2_keep (Nat.le_succ _) (exo_ok hp2_at)
theorem pmkN (T : OexC X.K C)
    (iC : PySem.W.findIn X.K (.ref C) "__init__" = some (some (.ref g)))
    (tI : PySem.W.typeIn X.K (.ref g) = some (.type "function"))
    (F : FnOk X.prog X.w X.K X.mg X.base CX0 k g fd ps sp) (hr : Room (k + 1) X.A) (hb : Binds X.K fd ps [])
    (hg : Gl X x) (hm : X.mg x = some (.ref C)) (ha : PA X [e] ta)
    (hdb : (x == ("__debug__" : Str)) = false := by decide)
    (he : starEach [e] X.env = (false, eval e X.env) :: starEach [] X.env := by rfl)
    (hpl : (backTo pos (starEach [] X.env)).any (·.1) = false := by rfl) :
    L2N.PMk X (.Call (.Name x p) [e] [] pos) (tMkO C sp [] ta) := by
  intro pins s σ H Q I h
  obtain ⟨_, _, _, _, vm, _, _, _, _, _, _, _, _, _, _, atC, inM⟩ := T.cls
  refine wpAny_Call_Name_kw (ld_glob I hg hm ?_ hdb)
  refine PySem.W.callWith_K (h₀ := X.base) I.ok.mod.kin T.kC ?_ he hpl
  refine thn (ha.run pos pins s σ H _ I h) fun us s1 hh => ?_
  obtain ⟨vs, H1, J, r, few, q⟩ := hh
  refine ⟨J.kIn, ?_⟩
  obtain ⟨hp, gs, dr, tk, os⟩ := s1
  have q := q (hp.objs.size + 1) (J.hok.fresh (Nat.le_succ _))
  rw [List.append_nil] at q
  have J2 := inv2 (C := C) (us := us) J
  have r2 : Vals (V.ref (hp.objs.size + 1) :: vs) (Value.ref (hp.objs.size + 1) :: us) := .cons rfl r
  have len2 : (Value.ref (hp.objs.size + 1) :: us ++ []).length = ps.length := by
    rw [List.append_nil, ← r2.length]
    exact F.len _ _ _ _ q
  have b2 := hb _ (Value.ref (hp.objs.size + 1) :: us) J2.kIn len2
  rw [List.append_nil] at b2
  have few2 : us.length ≤ sizeLine := by
    have := Paired.length r
    rw [sizeLine_eq]
    omega
  have run := F.run _ X.stack _ _ _ _ _ _ _ (hr.make C us []) (J2.env0.make C us []) b2 r2 q
  refine wpAny_call (PySem.HandSPX.call_own PySem.F.excBase_ValueError (fun Y => PySem.HandSPX.refsVE_contains Y vm inM)
    (J.kIn _ _ atC) (PySem.W.looks_findIn J.kIn iC) (fun self => PySem.W.bind_fn J.kIn self tI) few2
    (codeAny_mono run fun res s' z => ?_))
  match res, z with
  | .error er, z => exact z.elim
  | .ok (.ret u), z =>
    obtain ⟨v, H2, eo, bare, un, ok2, rv, ev, d, fs, ea, ed, nd, q2⟩ := z
    subst ev
    obtain ⟨h2, g2, d2, t2, os'⟩ := s'
    obtain ⟨t0, G, J3, kG, ge, hoe, na⟩ := mk_end0 (d2 := d2) (t2 := t2) J (Nat.le_succ _) hp2_keep un ok2 eo bare ea ed nd
    refine ⟨rv, hp.objs.size + 1, _, _, ⟨G, g2, d2, t2, os'⟩, _, .ref C, some d, rfl, J3, kG, ge, hoe, ⟨rfl, rfl, fun ws ew => ?_⟩, rfl, rfl, na, rfl, bare, raises_own T.exC T.tyC, q2⟩
    cases ew
    rfl
end
section
variable {X : Cx} {x field : Str} {C : Addr} {j : Nat} {e : Expr} {ta : TA} {p pos pos2 : Pos} {W : WX}
theorem pmk_exn (c : Exn X.prog X.w X.K X.mg X.base x C field) (hr : Room j X.A) (hk : 2 ≤ j) (hg : Gl X x) (ha : PA X [e] ta) (hdb : (x == ("__debug__" : Str)) = false := by decide) (he : starEach [e] X.env = (false, eval e X.env) :: starEach [] X.env := by rfl) (hpl : (backTo pos (starEach [] X.env)).any (·.1) = false := by rfl) :
    L2N.PMk X (.Call (.Name x p) [e] [] pos) (tMkO C (spEx C field) [] ta) := by
  obtain ⟨fI, fd, ps, iC, tI, F1, b⟩ := c.ini
  exact pmkN (X := X) (pos := pos) (p := p) c.oex iC tI F1 (hr.mono hk) b hg c.gl ha hdb he hpl
/-- raise X(e) -/
theorem ps_exn (hc : X.calm = true) (tk : L2N.Takes X W) (c : Exn X.prog X.w X.K X.mg X.base x C field) (hr : Room j X.A) (hk : 2 ≤ j) (hg : Gl X x) (ha : PA X [e] ta) (hdb : (x == ("__debug__" : Str)) = false := by decide) (he : starEach [e] X.env = (false, eval e X.env) :: starEach [] X.env := by rfl) (hpl : (backTo pos (starEach [] X.env)).any (·.1) = false := by rfl) :
    PS X (.Raise (some (.Call (.Name x p) [e] [] pos)) none pos2) (fun _ σ H => tMkO C (spEx C field) [] ta σ H fun cls d H' => W cls d σ H') := L2N.ps_raise hc tk (pmk_exn c hr hk hg ha hdb he hpl)
end
/-- what is left to show of X(v) -/
theorem mkx_of {C : Addr} {field : Str} {v : V} {H1 : Hp} {Q : XK} (q : ∀ d, H1 d = none → Q (.ref C) (some d) (upd H1 d (.xd [(field, v)]))) :
    [v].length ≤ 1000 ∧ ∀ a, H1 a = none → spEx C field (.ref a :: ([v] ++ [])) (upd H1 a (exo a C none)) (fun v H2 => v = .non ∧ ∃ (d : Addr) (fs : List (Str × V)), H2 a = some (exo a C (some d)) ∧ H2 d = some (exd d fs) ∧ H1 d = none ∧ Q (.ref C) (some d) (upd (del H2 a) d (.xd fs))) (fun _ _ _ => False) := by
  refine ⟨by simp, fun a na => ⟨a, v, rfl, upd_same, fun dx n1 n2 => ⟨rfl, dx, [(field, v)], upd_same, ?_, ?_, ?_⟩⟩⟩
  · rw [upd_ne n2, upd_same]
  · rw [← n1, upd_ne n2]
  · have n3 : H1 dx = none := by rw [← n1, upd_ne n2]
    have e1 : upd (del (upd (upd (upd H1 a (exo a C none)) dx (exd dx [(field, v)])) a (exo a C (some dx))) a) dx (.xd [(field, v)]) = upd H1 dx (.xd [(field, v)]) := by
      funext b
      by_cases hb : b = dx
      · rw [hb, upd_same, upd_same]
      · rw [upd_ne hb, upd_ne hb]
        by_cases ha2 : b = a
        · rw [ha2, del_same, na]
        · rw [del_ne ha2, upd_ne ha2, upd_ne hb, upd_ne ha2]
    rw [e1]
    exact q dx n3
/-! ### calls that may raise -/
structure CalX (P : Program) (w : World) (K : PySem.W.Frag) (mg : Str → Option Value) (base : Heap) (k : Nat) (x : Str) (sp : Sp) : Prop where
  ex : ∃ (f : Addr) (fd : FuncData) (ps : List Str), FnOk P w K mg base (L2N.CX P w) k f fd ps sp ∧ mg x = some (.ref f) ∧ PySem.W.keepIn K (.ref f) = true ∧ Binds K fd ps []
structure MakX (P : Program) (w : World) (K : PySem.W.Frag) (mg : Str → Option Value) (base : Heap) (k : Nat) (x : Str) (C : Addr) (sp : Sp) : Prop where
  ex : ∃ (f : Addr) (fd : FuncData) (ps : List Str), Mk K C f ∧ FnOk P w K mg base (L2N.CX P w) k f fd ps sp ∧ mg x = some (.ref C) ∧ Binds K fd ps []
structure MetX (P : Program) (w : World) (K : PySem.W.Frag) (mg : Str → Option Value) (base : Heap) (k : Nat) (C : Addr) (m : Str) (sp : Sp) : Prop where
  ex : ∃ (f : Addr) (fd : FuncData) (ps : List Str), Cls K C ∧ Meth K C m f ∧ FnOk P w K mg base (L2N.CX P w) k f fd ps sp ∧ Binds K fd ps []
structure CobX (P : Program) (w : World) (K : PySem.W.Frag) (mg : Str → Option Value) (base : Heap) (k : Nat) (C : Addr) (sp : Sp) : Prop where
  ex : ∃ (g : Addr) (fd : FuncData) (ps : List Str), StX.CallO K C g ∧ FnOk P w K mg base (L2N.CX P w) k g fd ps sp ∧ Binds K fd ps []
/-- C(e, ..) by its __init__'s promise; what is raised at the slots -/
def tMkW (C : Addr) (sp : Sp) (E : L2.St → XK) (t : TA) : TE := fun σ H Q => t σ H fun vs H1 => ∀ n dx, H1 n = none → H1 dx = none → dx ≠ n → sp (.ref n :: vs) (upd (upd H1 dx (.own n)) n (.ins C dx [])) (fun v H2 => v = .non ∧ Q (.ref n) H2) (E σ)
def tCoW (C : Addr) (sp : Sp) (E : L2.St → XK) (tf : TE) (t : TA) : TE := fun σ H Q => tf σ H fun y H1 => ∃ a, y = V.ref a ∧ t σ H1 fun vs H2 => (∃ dx fs, H2 a = some (.ins C dx fs)) ∧ sp (V.ref a :: vs) H2 Q (E σ)
def tMeW (C : Addr) (m : Str) (sp : Sp) (E : L2.St → XK) (ta : TE) (t : TA) : TE := fun σ H Q => ta σ H fun x H1 => ∃ a dx fs, x = V.ref a ∧ H1 a = some (.ins C dx fs) ∧ List.lookup m fs = none ∧ t σ H1 fun vs H2 => sp (x :: vs) H2 Q (E σ)
section
variable {X : Cx} {k j : Nat} {x m : Str} {sp : Sp} {C : Addr} {p pos apos : Pos} {e o fe : Expr} {es : List Expr} {t : TA} {ta tf : TE} {W : WX} {E : L2.St → XK}
theorem passS0 {σ : L2.St} : PassesAt (L2N.CX X.prog X.w) X σ E0 := fun _ _ _ _ _ _ h => by
  obtain ⟨_, _, _, _, _, _, _, _, _, _, _, _, z⟩ := h
  exact z.elim
/-- any result of a promise, at the slots -/
theorem back_at {σ : L2.St} {H : Hp} {s : Shared} {pins : List (Addr × Obj)} {Q : VK} {E : XK} {CX : CXT} (hx : PassesAt CX X σ E) (I : Inv X pins σ H s) : ∀ (r : Result) (s' : Shared), CR CX X.stack X.prog X.w H s Q E r s' → match r with
    | .ok (.ret v) => EP X pins σ Q v s'
    | .ok _ => False
    | .error e => X.xe e s'
  | .error e, s', h => hx pins H s e s' I h
  | .ok (.ret u), s', h => I.after h
  | .ok .next, s', h => h
  | .ok .brk, s', h => h
  | .ok .cont, s', h => h
theorem pe_clE (c : CalX X.prog X.w X.K X.mg X.base k x sp) (hx : ∀ σ, PassesAt (L2N.CX X.prog X.w) X σ (E σ)) (hr : Room j X.A) (hk : k ≤ j) (hg : Gl X x) (ha : PA X (e :: es) t) (hdb : (x == ("__debug__" : Str)) = false := by decide) (he : starEach (e :: es) X.env = (false, eval e X.env) :: starEach es X.env := by rfl) (hpl : (backTo pos (starEach es X.env)).any (·.1) = false := by rfl) :
    PE X (.Call (.Name x p) (e :: es) [] pos) (tCallS sp E t) := by
  obtain ⟨f, fd, ps, F, hm, kp, b⟩ := c.ex
  exact pe_callS F (hr.mono hk) hg hm kp b hx ha hdb he hpl
theorem pe_mkE (c : MakX X.prog X.w X.K X.mg X.base k x C sp) (hx : ∀ σ, PassesAt (L2N.CX X.prog X.w) X σ (E σ)) (hr : Room j X.A) (hk : k + 1 ≤ j) (hg : Gl X x) (ha : PA X (e :: es) t) (hdb : (x == ("__debug__" : Str)) = false := by decide) (he : starEach (e :: es) X.env = (false, eval e X.env) :: starEach es X.env := by rfl) (hpl : (backTo pos (starEach es X.env)).any (·.1) = false := by rfl) :
    PE X (.Call (.Name x p) (e :: es) [] pos) (tMkW C sp E t) := by
  obtain ⟨f, fd, ps, M, F, hm, b⟩ := c.ex
  constructor
  intro pins s σ H Q I h
  refine wpAny_Call_Name_kw (ld_glob I hg hm ?_ hdb)
  refine PySem.W.callWith_K (h₀ := X.base) I.ok.mod.kin M.kp (thn (ha.run pos pins s σ H _ I h) fun us s1 z => ?_) he hpl
  obtain ⟨vs, H1, I1, rr, q⟩ := z
  refine ⟨I1.kIn, ?_⟩
  obtain ⟨n, hn⟩ : ∃ n, n = s1.heap.objs.size := ⟨_, rfl⟩
  have q1 := q (n + 1) n (I1.hok.fresh (by rw [hn]; exact Nat.le_succ _)) (I1.hok.fresh (by rw [hn]; exact Nat.le_refl _)) (Nat.ne_of_lt (Nat.lt_succ_self _))
  subst hn
  have J := Inv.made (C := C) I1
  have r3 : Vals (V.ref (s1.heap.objs.size + 1) :: vs) (Value.ref (s1.heap.objs.size + 1) :: us) := .cons rfl rr
  have b3 := b { s1 with heap := (s1.heap.push PySem.W.emptyDict).push (PySem.W.instObj C s1.heap.objs.size) } (Value.ref (s1.heap.objs.size + 1) :: us) J.kIn (by rw [List.append_nil, ← r3.length]; exact F.len _ _ _ _ q1)
  rw [List.append_nil] at b3
  have run := F.run _ X.stack _ _ _ _ _ _ _ ((hr.mono hk).make C us []) (J.env0.make C us []) b3 r3 q1
  refine wpAny_call (make_map (f := f) I1.kIn M.makes M.init (beq_iff_eq.mp M.fn) (codeAny_mono run fun r s' hq => ?_))
  have z := back_at (hx σ) J r s' hq
  match r, z with
  | .error e, z => exact z
  | .ok (.ret u), ⟨v, H', J', rv, ev, q3⟩ =>
    subst ev
    exact ⟨rv, V.ref (s1.heap.objs.size + 1), H', J', rfl, q3⟩
theorem run_atE {f : Addr} {fd : FuncData} {ps : List Str} {σ : L2.St} {H : Hp} {s : Shared} {pins : List (Addr × Obj)} {Q : VK} {us : List Value} {vs : List V} (F : FnOk X.prog X.w X.K X.mg X.base (L2N.CX X.prog X.w) k f fd ps sp) (b : Binds X.K fd ps []) (hx : PassesAt (L2N.CX X.prog X.w) X σ (E σ)) (hr : Room k X.A) (I : Inv X pins σ H s) (r : Vals vs us) (h : sp vs H Q (E σ)) :
    codeAny (model X.prog X.w) X.A (.call (.ref f) ⟨us, []⟩) (fun r s' => match r with | .ok (.ret v) => EP X pins σ Q v s' | .ok _ => False | .error e => X.xe e s') s := by
  have b3 := b s us I.kIn (by rw [List.append_nil, ← r.length]; exact F.len _ _ _ _ h)
  rw [List.append_nil] at b3
  exact codeAny_mono (F.run _ X.stack _ _ _ _ _ _ _ hr I.env0 b3 r h) (back_at hx I)
theorem pe_coE (c : CobX X.prog X.w X.K X.mg X.base k C sp) (hf : PE X fe tf) (hx : ∀ σ, PassesAt (L2N.CX X.prog X.w) X σ (E σ)) (hr : Room j X.A) (hk : k ≤ j) (ha : PA X (e :: es) t)
    (ht : eval (.Call fe (e :: es) [] pos) X.env = (do callWith pos (← eval fe X.env) [] (backTo pos (starEach (e :: es) X.env)) (backToKw pos (keywordEach [] X.env))) := by rfl)
    (he : starEach (e :: es) X.env = (false, eval e X.env) :: starEach es X.env := by rfl) (hpl : (backTo pos (starEach es X.env)).any (·.1) = false := by rfl) : PE X (.Call fe (e :: es) [] pos) (tCoW C sp E tf t) := by
  obtain ⟨g, fd, ps, co, F, b⟩ := c.ex
  constructor
  intro pins s σ H Q I h
  refine Call_ (thn (hf.run pins s σ H _ I h) fun u s1 ⟨y, H1, I1, ry, a, ey, q⟩ => ?_) ht
  subst ey
  obtain rfl : u = Value.ref a := ry
  refine StX.callO_with (thn (ha.run pos pins s1 σ H1 _ I1 q) fun us s2 z => ?_) he hpl
  obtain ⟨vs, H2, I2, r, hi, q2⟩ := z
  have hi2 : StX.InsC X H2 a C := .inr hi
  obtain ⟨ox, od, J, hd⟩ := StX.insC_at I2 hi2
  exact ⟨⟨C, ox, od, J, hd⟩, wpAny_call (PySem.W.kco_code I2.kIn J hd co.at_ co.fn co.fi (run_atE (vs := .ref a :: vs) (us := .ref a :: us) F b (hx σ) (hr.mono hk) I2 (.cons rfl r) q2))⟩
theorem pe_meE {pl : Sem Bool} (c : MetX X.prog X.w X.K X.mg X.base k C m sp) (ho : PE X o ta) (hx : ∀ σ, PassesAt (L2N.CX X.prog X.w) X σ (E σ)) (hr : Room j X.A) (hk : k ≤ j) (ha : PA X (e :: es) t)
    (hst : starEach (e :: es) X.env = (false, eval e X.env) :: starEach es X.env := by rfl) (hpl : (backTo pos (starEach es X.env)).any (·.1) = false := by rfl)
    (ht : eval (.Call (.Attribute o m apos) (e :: es) [] pos) X.env = (do
      let ov ← eval o X.env
      standAt apos.atName
      let (g, first) ← holding [ov] (getMethod ov m pl)
      callWith pos g first (backTo pos (starEach (e :: es) X.env)) (backToKw pos (keywordEach [] X.env))) := by rfl) : PE X (.Call (.Attribute o m apos) (e :: es) [] pos) (tMeW C m sp E ta t) := by
  obtain ⟨f, fd, ps, cl, me, F, b⟩ := c.ex
  constructor
  intro pins s σ H Q I h
  refine PySem.W.methodCall_KW (pl := pl) (thn (ho.run pins s σ H _ I h) fun u s1 z => ?_) ht
  obtain ⟨y, H1, I1, ry, a, dx, fs, ey, ea, l, q⟩ := z
  subst ey
  obtain rfl : u = Value.ref a := ry
  refine getmeth_ok I1 ea cl me l ?_
  refine PySem.W.callWith_K (first := [.ref a]) (h₀ := X.base) I.ok.mod.kin me.kp (thn (ha.run pos pins s1 σ H1 _ I1 q) fun us s2 z => ?_) hst hpl
  obtain ⟨vs, H2, I2, r, q2⟩ := z
  exact ⟨I2.kIn, wpAny_call (run_atE (vs := .ref a :: vs) (us := .ref a :: us) F b (hx σ) (hr.mono hk) I2 (.cons rfl r) q2)⟩
theorem takes_fn {P : Program} {w : World} {K : PySem.W.Frag} {mg : Str → Option Value} {base : Heap} {N : List Str} {qual : Str} {scope : Scope} {f : Addr} {cd : Value} {A : Around} {outer : List Env} {s : Shared} {H : Hp} {E : XK} : L2N.Takes (cxOf (L2N.CX P w) P w K mg base N qual scope f cd A outer s H E) (fun cls d _ H' => E cls d H') := L2N.takes_of rfl rfl rfl rfl
end
end Z
set_option Elab.async false
set_option linter.all false
set_option maxRecDepth 100000
set_option maxHeartbeats 4000000
namespace Z
open PySem PySem.Spec PyProof.Rows L2 L2H
/-! ### calls within an except suite -/
section
variable {P : Program} {w : World} {K : PySem.W.Frag} {mg : Str → Option Value} {base : Heap} {x qual : Str} {params : Arguments} {body : List Stmt} {scope : Scope} {dvs : List V} {kws : List (Str × V)} {f : Addr} {fd : FuncData}
theorem fund_okH {N ps : List Str} {k : Nat} {sp : Sp} (F : FunD K x qual params body scope dvs kws f fd) (S : FnScope N ps scope) (len : ∀ vs H Q E, sp vs H Q E → vs.length = ps.length)
    (hbody : ∀ (cdv : Value) (A : Around) (outer : List Env) (s : Shared) (H : Hp) (vs : List V) (Q : VK) (E : XK) (p : Addr × Obj), Hot1 A p → RoomH k (A.deeper (envOfC qual scope s.heap.objs.size f cdv)) → sp vs H Q E →
      ∃ t, PSs (cxH CX0 P w K mg base N qual scope f cdv A outer s H E p) body t ∧ t { nx := fun _ H' => Q .non H', rt := Q } (L2.start N vs) H) : FnH P w K mg base CX0 (k + 1) f fd ps sp := by
  obtain ⟨oc, od, dV, kV, doc, pm, an, cdv, ct, osl, rfl, lk, hcd, _, _⟩ := F.ex
  exact fn_ofH lk hcd S len (hbody cdv)
structure CalH (P : Program) (w : World) (K : PySem.W.Frag) (mg : Str → Option Value) (base : Heap) (k : Nat) (x : Str) (sp : Sp) : Prop where
  ex : ∃ (f : Addr) (fd : FuncData) (ps : List Str), FnH P w K mg base CX0 k f fd ps sp ∧ mg x = some (.ref f) ∧ PySem.W.keepIn K (.ref f) = true ∧ Binds K fd ps []
end
section
variable {X : Cx} {k j : Nat} {x : Str} {sp : Sp} {p pos : Pos} {e : Expr} {es : List Expr} {t : TA}
theorem pe_clH (c : CalH X.prog X.w X.K X.mg X.base k x sp) (hr : RoomH j X.A) (hk : k ≤ j) (hc : HotC X) (hg : Gl X x) (ha : PA X (e :: es) t) (hdb : (x == ("__debug__" : Str)) = false := by decide) (he : starEach (e :: es) X.env = (false, eval e X.env) :: starEach es X.env := by rfl) (hpl : (backTo pos (starEach es X.env)).any (·.1) = false := by rfl) :
    PE X (.Call (.Name x p) (e :: es) [] pos) (tCallS sp (fun _ => E0) t) := by
  obtain ⟨f, fd, ps, F, hm, kp, b⟩ := c.ex
  exact pe_callH F (hr.mono hk) hc hg hm kp b (fun σ _ _ _ _ _ _ h => h.elim) ha hdb he hpl
theorem hotC_suite {a : Addr} {cls : Value} {d : Option Addr} {oe : Obj} {pn : List (Addr × Obj)} (hz : L2N.Zn cls d oe) (hf : ∃ vs, oe.data = .fields vs) : HotC (X.suite a ((a, oe) :: pn)) := by
  obtain ⟨vs, e⟩ := hf
  exact ⟨(a, oe), ⟨rfl, vs, e, hz.2.2 vs e⟩, List.mem_cons_self⟩
theorem room_mark {v : Option Value} {A : Around} (r : Room j A) : RoomH j (A.mark v) := roomH_mark r v
theorem takes0N : L2N.Takes X (fun _ _ _ _ => False) := fun _ _ x => by
  obtain ⟨_, _, _, _, _, _, _, _, _, _, _, _, _, _, _, _, z⟩ := x
  exact z.elim
end
theorem hotC_fn {P : Program} {w : World} {K : PySem.W.Frag} {mg : Str → Option Value} {base : Heap} {CX : CXT} {N : List Str} {qual : Str} {scope : Scope} {f : Addr} {cd : Value} {A : Around} {outer : List Env} {s : Shared} {H : Hp} {E : XK} {p : Addr × Obj} (h : Hot1 A p) : HotC (cxH CX P w K mg base N qual scope f cd A outer s H E p) :=
  ⟨p, ⟨h.1, h.2⟩, List.mem_cons_self⟩
end Z
set_option Elab.async false
set_option linter.all false
set_option maxRecDepth 100000
set_option maxHeartbeats 4000000
namespace Z
open PySem PySem.Spec PyProof.Rows L2 NdefX
/-! ### what the head tells of such a class -/
def oexB (K : PySem.W.Frag) (C : Addr) : Bool := (match K.lookup C with
  | some ⟨.type t, _, .cls cd, sl⟩ => (match cd.mro, sl.toList with
    | .ref D :: bm, [_, _, _, _, some (.builtin n), _] => decide (t = "type") && (decide (D = C) && (decide (n = "ValueError.__new__") && (!cd.hasDel && (cd.hasDict && PySem.HandSPX.refsVE bm))))
    | _, _ => false)
  | _ => false) && (He.eqO (PySem.W.findIn K (.ref C) "__setattr__") (some (some (.builtin "object.__setattr__"))) && (decide (PySem.W.subIn K (.ref C) (.type "BaseException") = some true) && (decide (PySem.W.typeIn K (.ref C) = some (.type "type")) && PySem.W.keepIn K (.ref C))))
theorem oexB_ok {K : PySem.W.Frag} {C : Addr} (h : oexB K C = true) : OexC K C := by
  obtain ⟨h0, h⟩ := He.ba h
  obtain ⟨h1, h⟩ := He.ba h
  obtain ⟨h2, h⟩ := He.ba h
  obtain ⟨h3, h4⟩ := He.ba h
  refine ⟨?_, He.eqO_ok h1, of_decide_eq_true h2, of_decide_eq_true h3, h4⟩
  split at h0
  · next t dd cd sl lk =>
    split at h0
    · next D bm a0 a1 a2 a3 n a5 em es =>
      obtain ⟨g1, h0⟩ := He.ba h0
      obtain ⟨g2, h0⟩ := He.ba h0
      obtain ⟨g3, h0⟩ := He.ba h0
      obtain ⟨g4, h0⟩ := He.ba h0
      obtain ⟨g5, g6⟩ := He.ba h0
      have g1 := of_decide_eq_true g1
      have g2 := of_decide_eq_true g2
      have g3 := of_decide_eq_true g3
      subst g1 g2 g3
      obtain ⟨c1, c2, c3, c4, c5, c6, c7, c8, c9, c10, c11⟩ := cd
      have k3 : c3 = .ref D :: bm := em
      have k4 : c11 = false := by
        have z : (!c11) = true := g4
        cases c11
        · rfl
        · cases z
      have k5 : c6 = true := g5
      clear em g4 g5
      subst k3 k4 k5
      refine ⟨c1, c5, c4, c2, bm, c7, c8, c9, c10, dd, a0, a1, a2, a3, a5, ?_, g6⟩
      rw [lk]
      have : sl = #[a0, a1, a2, a3, some (.builtin "ValueError.__new__"), a5] := by
        apply Array.toList_inj.mp
        rw [es]
      rw [this]
    · cases h0
  · cases h0
def initFd (K : PySem.W.Frag) (C : Addr) : Option FuncData := match K.lookup (He.ma K C "__init__") with
  | some ⟨_, _, .func fd, _⟩ => some fd
  | _ => none
abbrev SupV : Type := Option (Str × Str × Arguments × FuncBody × Scope × Addr × List Str × Value × Addr)
def supObs (K : PySem.W.Frag) (x : Str) : SupV := (initFd K (He.ga K x)).map fun fd => (fd.name, fd.qualname, fd.params, fd.body, fd.scope, fd.globals, fd.closure.map (·.1), fd.defaults, fd.builtins)
def supVal (q : Str) (st : Stmt) : SupV := some ("__init__", q, defArgs st, .stmts (defBody st), defScope st, mainGlobals, ["__class__"], .none, builtinsNs)
def supB (fl : Str) (K : PySem.W.Frag) (C : Addr) (q : Str) : Bool := (match initFd K C with
  | some fd => (match fd.code, fd.closure with
    | .ref c, [(_, cc)] => PySem.W.codeIn K (.ref c) q && ((match K.lookup c with
      | some ⟨_, _, .fields vs, _⟩ => (match (vs[2]? : Option Value) with
        | some (.str file _) => fl == file
        | _ => false)
      | _ => false) && (match K.lookup cc with
      | some ⟨_, _, .cell (some (.ref D)), _⟩ => decide (D = C)
      | _ => false))
    | _, _ => false)
  | none => false) && (decide (PySem.W.mroIn K C (.ref C) = some true) && (He.eqO (PySem.W.nsIn K cStatics "thirdparty.any") (some none) && (He.eqO (PySem.W.ks_superIn K C C "__init__") (some (some (.builtin "ValueError.__init__"))) && (decide (PySem.W.subIn K (.ref C) (.type "ValueError") = some true) && (PySem.W.excInitIn K C He.veBase "ValueError.__new__" && oexB K C)))))
theorem sup_of {P : Program} {K : PySem.W.Frag} {x q fl : Str} {st : Stmt} (h1 : supObs K x = supVal q st) (h2 : supB fl K (He.ga K x) q = true) (hfl : ((P.main.file : Str) == fl) = true) (htop : (P.main.scope.names.lookup ("super" : Str)).isSome = false) :
    ∃ (c cc : Addr) (fd : FuncData) (kV doc pm ct : Value) (an : Option Addr), fd = PySem.W.fnX "__init__" q (defArgs st) (defBody st) (defScope st) [(("__class__" : Str), cc)] .none kV doc pm an (.ref c) ct ∧ SupK P K (He.ga K x) (He.ma K (He.ga K x) "__init__") c cc fd ∧ PySem.W.codeIn K (.ref c) q = true := by
  obtain ⟨g0, h2⟩ := He.ba h2
  obtain ⟨g1, h2⟩ := He.ba h2
  obtain ⟨g2, h2⟩ := He.ba h2
  obtain ⟨g3, h2⟩ := He.ba h2
  obtain ⟨g4, h2⟩ := He.ba h2
  obtain ⟨g5, g6⟩ := He.ba h2
  unfold supObs at h1
  cases e : initFd K (He.ga K x) with
  | none =>
    rw [e] at h1
    cases h1
  | some fd =>
    rw [e] at h1 g0
    have lk : ∃ oc od osl, K.lookup (He.ma K (He.ga K x) "__init__") = some ⟨oc, od, .func fd, osl⟩ := by
      unfold initFd at e
      split at e
      · next oc od fd' osl l =>
        cases e
        exact ⟨_, _, _, l⟩
      · cases e
    obtain ⟨n1, n2, n3, n4, n5, n6, n7, n8, n9, n10, n11, n12, n13, n14, n15⟩ := fd
    have h1 : (some (n1, n2, n3, n4, n5, n6, n7.map (·.1), n8, n15) : SupV) = supVal q st := h1
    unfold supVal at h1
    simp only [Option.some.injEq, Prod.mk.injEq] at h1
    obtain ⟨a1, a2, a3, a4, a5, a6, a7, a8, a9⟩ := h1
    subst a1 a2 a3 a4 a5 a6 a8 a9
    dsimp only at g0
    split at g0
    · next c y cc =>
      obtain ⟨b1, g0⟩ := He.ba g0
      obtain ⟨b2, b3⟩ := He.ba g0
      have ey : y = "__class__" := by
        have := a7
        simpa using this
      subst ey
      refine ⟨c, cc, _, _, _, _, _, _, rfl, ⟨lk, ?_, ?_, htop, of_decide_eq_true g1, He.eqO_ok g2, He.eqO_ok g3, of_decide_eq_true g4, g5, oexB_ok g6⟩, b1⟩
      · split at b2
        · next u1 u2 vs u3 l =>
          split at b2
          · next file tf ev =>
            refine ⟨_, _, vs, _, file, tf, l, ev, ?_⟩
            rw [beq_iff_eq.mp b2] at hfl
            exact hfl
          · cases b2
        · cases b2
      · split at b3
        · next u1 u2 D u3 l =>
          have := of_decide_eq_true b3
          subst this
          exact ⟨_, _, _, l⟩
        · cases b3
    · cases g0
end Z
set_option Elab.async false
set_option linter.all false
set_option maxRecDepth 100000
set_option maxHeartbeats 4000000
namespace Z
open PySem PySem.Spec PyProof.Rows L2 NdefX
/-! ### isinstance(e, c), e a caught error with a dict of its own -/
def rIsX (K : PySem.W.Frag) (a : Addr) (cls : Value) (d : Option Addr) : List V → Hp → VK → Prop := fun xs H Q => ∃ (D dd : Addr) (fs : List (Str × V)) (c : V) (cv : Value) (b : Bool), cls = .ref D ∧ d = some dd ∧ ExcC K D ∧ H dd = some (.xd fs) ∧ xs = [.ref a, c] ∧ (∀ u, RelV c u → u = cv) ∧ PySem.W.kitOne K (.ref D) cv = some b ∧ Q (.bl b) H
theorem call_isX {X : Cx} {a : Addr} {cls : Value} {d : Option Addr} {oe : Obj} {pn : List (Addr × Obj)} (hz : Zc cls d oe) (hf : ∃ vs, oe.data = .fields vs) : CallR (X.suite a ((a, oe) :: pn)) (.builtin "isinstance") (rIsX X.K a cls d) := by
  intro pins s σ H xs us Q I r h
  obtain ⟨D, dd, fs, c, cv, b, rfl, rfl, C, ed, rfl, hcv, e, q⟩ := h
  obtain ⟨u1, u2, rfl, r1, r2⟩ := vals2 r
  cases r1
  have ec := hcv _ r2
  subst ec
  obtain ⟨hget, _⟩ := I.pin (a, oe) (List.mem_append.mpr (.inl List.mem_cons_self))
  obtain ⟨vs, hv⟩ := hf
  have hx : ObjOk X.prog X.w H s.heap dd (.xd fs) := I.hok dd _ ed
  obtain ⟨mA, hns, hr⟩ := hx
  obtain ⟨od, ho, hl⟩ := lookIn_ns hns
  have J : PySem.W.InstAt s.heap a oe D (some od) := ⟨hget, hz.1, by unfold PySem.W.notCls; rw [hv] <;> rfl, by rw [hz.2]; exact ho⟩
  have hcl : (PySem.W.clsIn X.K D).isSome = true := by
    obtain ⟨cd, hc, _⟩ := PySem.W.any_some C.hd
    rw [hc]
    rfl
  exact PySem.W.kia_one (PySem.W.kitx_exc hcl C.hg C.hk C.hs C.ha C.hn C.ht C.hm) I.kIn J e (fun z => nomatch z) fun tk => ⟨.bl b, H, I.kept (t' := tk) fun _ _ z => z, rfl, q⟩
end Z
set_option Elab.async false
set_option linter.all false
set_option maxRecDepth 100000
set_option maxHeartbeats 4000000
namespace Z
open PySem PySem.Spec PyProof.Rows L2 NdefX
/-! ### the head with own exceptions: facts of defs and classes, one more Bool, the __init__s -/
def asX (g : Addr → Option Obj) (n : Nat) : List Addr := He.asD g n ++ [cStatics]
def hookX (n : Nat) (fa : List He.Fa) (fn : List He.DefD) (xs : List Str) (vs : List SupV) (ex : PySem.W.Frag → Bool) : PySem.W.Hook where
  α := He.AlD × (List SupV × Bool)
  obs := fun s => (He.obsD fa fn (He.frG s.heap.get? (asX s.heap.get? n)), xs.map (supObs (He.frG s.heap.get? (asX s.heap.get? n))), ex (He.frG s.heap.get? (asX s.heap.get? n)))
  val := fun _ => (He.valD fn, vs, true)
  says := fun _ h => ∃ K : PySem.W.Frag, K.In h ∧ He.SaysD fa fn K ∧ xs.map (supObs K) = vs ∧ ex K = true
  of := fun _ _ e => ⟨_, He.frG_in, congrArg (fun z : He.AlD × (List SupV × Bool) => z.1) e, congrArg (fun z : He.AlD × (List SupV × Bool) => z.2.1) e, congrArg (fun z : He.AlD × (List SupV × Bool) => z.2.2) e⟩
  keeps := fun _ _ _ ⟨K, hK, c⟩ k => ⟨K, PySem.W.Frag.In.keeps hK k, c⟩
def obX (n : Nat) (fa : List He.Fa) (fn : List He.DefD) (xs : List Str) (ex : PySem.W.Frag → Bool) (g : Addr → Option Obj) : He.AlD × (List SupV × Bool) := (He.obsD fa fn (He.frG g (asX g n)), xs.map (supObs (He.frG g (asX g n))), ex (He.frG g (asX g n)))
theorem obX_eq {n : Nat} {fa : List He.Fa} {fn : List He.DefD} {xs : List Str} {vs : List SupV} {ex : PySem.W.Frag → Bool} {g : Addr → Option Obj} {s : Shared} (h : ∀ a, g a = s.heap.get? a) : obX n fa fn xs ex g = (hookX n fa fn xs vs ex).obs s := by
  have e : g = s.heap.get? := funext h
  rw [e] <;> rfl
theorem sup_at {xs : List Str} {vs : List SupV} {K : PySem.W.Frag} (e : xs.map (supObs K) = vs) (i : Nat) {x : Str} {v : SupV} (h1 : xs[i]? = some x := by rfl) (h2 : vs[i]? = some v := by rfl) : supObs K x = v := by
  have := congrArg (fun z : List SupV => z[i]?) e
  simp only [List.getElem?_map, h1, h2] at this
  exact Option.some.inj this
def excB (K : PySem.W.Frag) (D : Addr) : Bool := He.eqO (PySem.W.findIn K (.ref D) "__getattribute__") (some (some (.builtin "BaseException.__getattribute__"))) && (He.eqO (PySem.W.findIn K (.ref D) "__getattr__") (some none) && (decide (PySem.W.subIn K (.ref D) (.type "BaseException") = some true) && (PySem.W.hasDictIn K D && (He.eqO (PySem.W.findIn K (.ref D) "__class__") (some (some (.builtin "object.__class__"))) && (He.eqO (PySem.W.specialIn K (.builtin "object.__class__") "__get__") (some (some (.builtin "getset_descriptor.__get__"))) && (decide (PySem.W.takesIn K (.builtin "object.__class__") = some true) && decide (PySem.W.mroIn K D (.type "object") = some true)))))))
theorem excB_ok {K : PySem.W.Frag} {D : Addr} (h : excB K D = true) : ExcC K D ∧ XfC K D := by
  obtain ⟨h1, h⟩ := He.ba h
  obtain ⟨h2, h⟩ := He.ba h
  obtain ⟨h3, h⟩ := He.ba h
  obtain ⟨h4, h⟩ := He.ba h
  obtain ⟨h5, h⟩ := He.ba h
  obtain ⟨h6, h⟩ := He.ba h
  obtain ⟨h7, h8⟩ := He.ba h
  exact ⟨⟨He.eqO_ok h1, He.eqO_ok h2, of_decide_eq_true h3, h4, He.eqO_ok h5, He.eqO_ok h6, of_decide_eq_true h7, of_decide_eq_true h8⟩, ⟨He.eqO_ok h1, He.eqO_ok h2, of_decide_eq_true h3, h4⟩⟩
/-- an own exception class with the field -/
def exnB (fl q field : Str) (K : PySem.W.Frag) (C : Addr) : Bool := supB fl K C q && (He.eqO (PySem.W.findIn K (.ref C) "__init__") (some (some (.ref (He.ma K C "__init__")))) && (decide (PySem.W.typeIn K (.ref (He.ma K C "__init__")) = some (.type "function")) && (He.eqO (PySem.W.findIn K (.ref C) field) (some none) && excB K C)))
structure ExnF (K : PySem.W.Frag) (C : Addr) (q field fl : Str) : Prop where
  sup : supB fl K C q = true
  ini : PySem.W.findIn K (.ref C) "__init__" = some (some (.ref (He.ma K C "__init__")))
  ty : PySem.W.typeIn K (.ref (He.ma K C "__init__")) = some (.type "function")
  no : PySem.W.findIn K (.ref C) field = some none
  ec : ExcC K C
  xf : XfC K C
theorem exnB_ok {fl q field : Str} {K : PySem.W.Frag} {C : Addr} (h : exnB fl q field K C = true) : ExnF K C q field fl := by
  obtain ⟨h1, h⟩ := He.ba h
  obtain ⟨h2, h⟩ := He.ba h
  obtain ⟨h3, h⟩ := He.ba h
  obtain ⟨h4, h5⟩ := He.ba h
  exact ⟨h1, He.eqO_ok h2, of_decide_eq_true h3, He.eqO_ok h4, (excB_ok h5).1, (excB_ok h5).2⟩
def exmB (K : PySem.W.Frag) (a b : Addr) : Bool := decide (PySem.W.exmOne K (.ref a) (.ref b) = some true)
def kitVB (K : PySem.W.Frag) (a : Addr) (v : Value) (b : Bool) : Bool := decide (PySem.W.kitOne K (.ref a) v = some b)
end Z
set_option Elab.async false
set_option linter.all false
set_option maxRecDepth 100000
set_option maxHeartbeats 4000000
namespace Z
open PySem PySem.Spec PyProof.Rows L2 NdefX
/-! ### the head with own exceptions and properties: further observations are any functions of the written part -/
def hookY (n : Nat) (fa : List He.Fa) (fn : List He.DefD) (xs : List (PySem.W.Frag → SupV)) (vs : List SupV) (ex : PySem.W.Frag → Bool) : PySem.W.Hook where
  α := He.AlD × (List SupV × Bool)
  obs := fun s => (He.obsD fa fn (He.frG s.heap.get? (asX s.heap.get? n)), xs.map (fun f => f (He.frG s.heap.get? (asX s.heap.get? n))), ex (He.frG s.heap.get? (asX s.heap.get? n)))
  val := fun _ => (He.valD fn, vs, true)
  says := fun _ h => ∃ K : PySem.W.Frag, K.In h ∧ He.SaysD fa fn K ∧ xs.map (fun f => f K) = vs ∧ ex K = true
  of := fun _ _ e => ⟨_, He.frG_in, congrArg (fun z : He.AlD × (List SupV × Bool) => z.1) e, congrArg (fun z : He.AlD × (List SupV × Bool) => z.2.1) e, congrArg (fun z : He.AlD × (List SupV × Bool) => z.2.2) e⟩
  keeps := fun _ _ _ ⟨K, hK, c⟩ k => ⟨K, PySem.W.Frag.In.keeps hK k, c⟩
def obY (n : Nat) (fa : List He.Fa) (fn : List He.DefD) (xs : List (PySem.W.Frag → SupV)) (ex : PySem.W.Frag → Bool) (g : Addr → Option Obj) : He.AlD × (List SupV × Bool) := (He.obsD fa fn (He.frG g (asX g n)), xs.map (fun f => f (He.frG g (asX g n))), ex (He.frG g (asX g n)))
theorem obY_eq {n : Nat} {fa : List He.Fa} {fn : List He.DefD} {xs : List (PySem.W.Frag → SupV)} {vs : List SupV} {ex : PySem.W.Frag → Bool} {g : Addr → Option Obj} {s : Shared} (h : ∀ a, g a = s.heap.get? a) : obY n fa fn xs ex g = (hookY n fa fn xs vs ex).obs s := by
  have e : g = s.heap.get? := funext h
  rw [e] <;> rfl
theorem y_at {xs : List (PySem.W.Frag → SupV)} {vs : List SupV} {K : PySem.W.Frag} (e : xs.map (fun f => f K) = vs) (i : Nat) {f : PySem.W.Frag → SupV} {v : SupV} (h1 : xs[i]? = some f := by rfl) (h2 : vs[i]? = some v := by rfl) : f K = v := by
  have := congrArg (fun z : List SupV => z[i]?) e
  simp only [List.getElem?_map, h1, h2] at this
  exact Option.some.inj this
def isB (K : PySem.W.Frag) (C : Addr) : Bool := He.eqO (PySem.W.findIn K (.ref C) "__class__") (some (some (.builtin "object.__class__"))) && (He.eqO (PySem.W.specialIn K (.builtin "object.__class__") "__get__") (some (some (.builtin "getset_descriptor.__get__"))) && (decide (PySem.W.takesIn K (.builtin "object.__class__") = some true) && (decide (PySem.W.mroIn K C (.type "object") = some true) && decide (PySem.W.kitOne K (.ref C) (.ref C) = some true))))
theorem isB_ok {K : PySem.W.Frag} {C : Addr} (cl : Cls K C) (h : isB K C = true) : C8.InsC K C := by
  obtain ⟨h1, h⟩ := He.ba h
  obtain ⟨h2, h⟩ := He.ba h
  obtain ⟨h3, h⟩ := He.ba h
  obtain ⟨h4, h5⟩ := He.ba h
  exact ⟨cl, He.eqO_ok h1, He.eqO_ok h2, of_decide_eq_true h3, of_decide_eq_true h4, of_decide_eq_true h5⟩
def spB (K : PySem.W.Frag) (C : Addr) (m : Str) : Bool := He.eqO (PySem.W.findIn K (.ref C) m) (some (some (.ref (He.ma K C m)))) && (PySem.W.isFn K (.ref (He.ma K C m)) && PySem.W.fnIn K (He.ma K C m))
theorem spB_ok {K : PySem.W.Frag} {C : Addr} {m : Str} (h : spB K C m = true) : PySem.W.findIn K (.ref C) m = some (some (.ref (He.ma K C m))) ∧ PySem.W.isFn K (.ref (He.ma K C m)) = true ∧ PySem.W.fnIn K (He.ma K C m) = true := by
  obtain ⟨h1, h⟩ := He.ba h
  obtain ⟨h2, h3⟩ := He.ba h
  exact ⟨He.eqO_ok h1, h2, h3⟩
theorem all_at {bs : List Bool} (h : bs.all id = true) (i : Nat) {b : Bool} (e : bs[i]? = some b := by rfl) : b = true := List.all_eq_true.mp h b (List.mem_of_getElem? e)
theorem fnr_ok {P : Program} {w : World} {K : PySem.W.Frag} {mg : Str → Option Value} {base : Heap} {k : Nat} {f : Addr} {fd : FuncData} {ps : List Str} {sp : Sp} (F : FnOk P w K mg base CX0 k f fd ps sp) (b : Binds K fd ps []) : FnR P w K mg base CX0 k f sp := (FnOk.raw (dvs := []) F b .nil).imp fun vs H Q E h => by
  show sp (vs ++ []) H Q E
  rw [List.append_nil]
  exact h
/-! a property's getter -/
def gtA (K : PySem.W.Frag) (C : Addr) (m : Str) : Addr := match PySem.W.recIn K (He.ma K C m) "property" with
  | some (.ref g :: _) => g
  | _ => 0
def fdAt (K : PySem.W.Frag) (g : Addr) : Option FuncData := match K.lookup g with
  | some ⟨_, _, .func fd, _⟩ => some fd
  | _ => none
def propObs (x m : Str) (K : PySem.W.Frag) : SupV := (fdAt K (gtA K (He.ga K x) m)).map fun fd => (fd.name, fd.qualname, fd.params, fd.body, fd.scope, fd.globals, fd.closure.map (·.1), fd.defaults, fd.builtins)
def propVal (m q : Str) (st : Stmt) : SupV := some (m, q, defArgs st, .stmts (defBody st), defScope st, mainGlobals, [], .none, builtinsNs)
def propB (K : PySem.W.Frag) (C : Addr) (m q : Str) : Bool := He.eqO (PySem.W.findIn K (.ref C) m) (some (some (.ref (He.ma K C m)))) && (He.eqO (PySem.W.specialIn K (.ref (He.ma K C m)) "__get__") (some (some (.builtin "property.__get__"))) && (decide (PySem.W.takesIn K (.ref (He.ma K C m)) = some true) && ((match PySem.W.recIn K (He.ma K C m) "property" with
  | some (.ref _ :: _) => true
  | _ => false) && (PySem.W.keepIn K (.ref (gtA K C m)) && (match fdAt K (gtA K C m) with
  | some fd => PySem.W.codeIn K fd.code q && (He.dflB K fd.defaults [] && He.kwdB K fd.kwdefaults [])
  | none => false)))))
theorem prop_of {K : PySem.W.Frag} {x m q : Str} {st : Stmt} (h1 : propObs x m K = propVal m q st) (h2 : propB K (He.ga K x) m q = true) : ∃ fd : FuncData, PropOf K (He.ga K x) m (He.ma K (He.ga K x) m) (gtA K (He.ga K x) m) ∧ FunD K m q (defArgs st) (defBody st) (defScope st) [] [] (gtA K (He.ga K x) m) fd := by
  obtain ⟨g0, h2⟩ := He.ba h2
  obtain ⟨g1, h2⟩ := He.ba h2
  obtain ⟨g2, h2⟩ := He.ba h2
  obtain ⟨g3, h2⟩ := He.ba h2
  obtain ⟨g4, g5⟩ := He.ba h2
  have P : PropOf K (He.ga K x) m (He.ma K (He.ga K x) m) (gtA K (He.ga K x) m) := by
    refine ⟨He.eqO_ok g0, He.eqO_ok g1, of_decide_eq_true g2, ?_⟩
    unfold gtA
    split at g3
    · next g rest e =>
      rw [e]
      exact ⟨rest, rfl⟩
    · cases g3
  unfold propObs at h1
  cases e : fdAt K (gtA K (He.ga K x) m) with
  | none =>
    rw [e] at h1
    cases h1
  | some fd =>
    rw [e] at h1 g5
    have lk : ∃ oc od osl, K.lookup (gtA K (He.ga K x) m) = some ⟨oc, od, .func fd, osl⟩ := by
      unfold fdAt at e
      split at e
      · next oc od fd' osl l =>
        cases e
        exact ⟨_, _, _, l⟩
      · cases e
    obtain ⟨oc, od, osl, lk⟩ := lk
    obtain ⟨n1, n2, n3, n4, n5, n6, n7, n8, n9, n10, n11, n12, n13, n14, n15⟩ := fd
    have h1 : (some (n1, n2, n3, n4, n5, n6, n7.map (·.1), n8, n15) : SupV) = propVal m q st := h1
    unfold propVal at h1
    simp only [Option.some.injEq, Prod.mk.injEq] at h1
    obtain ⟨a1, a2, a3, a4, a5, a6, a7, a8, a9⟩ := h1
    have a7 : n7 = [] := List.map_eq_nil_iff.mp a7
    subst a1 a2 a3 a4 a5 a6 a7 a8 a9
    obtain ⟨k1, k2⟩ := He.ba (show (PySem.W.codeIn K n13 n2 && (He.dflB K .none [] && He.kwdB K n9 [])) = true from g5)
    obtain ⟨k3, k4⟩ := He.ba k2
    exact ⟨_, P, ⟨oc, od, _, n9, n10, n11, n12, n13, n14, osl, rfl, lk, k1, He.dflB_ok k3, He.kwdB_ok k4⟩, g4⟩
end Z
set_option Elab.async false
set_option linter.all false
set_option maxRecDepth 100000
set_option maxHeartbeats 4000000
namespace Z
open PySem PySem.Spec PyProof.Rows L2 NdefX
/-! ### the head's observation over given addresses (no reach is reckoned: far less memory) -/
def hookL (as : List Addr) (fa : List He.Fa) (fn : List He.DefD) (xs : List (PySem.W.Frag → SupV)) (vs : List SupV) (ex : PySem.W.Frag → Bool) : PySem.W.Hook where
  α := He.AlD × (List SupV × Bool)
  obs := fun s => (He.obsD fa fn (He.frG s.heap.get? as), xs.map (fun f => f (He.frG s.heap.get? as)), ex (He.frG s.heap.get? as))
  val := fun _ => (He.valD fn, vs, true)
  says := fun _ h => ∃ K : PySem.W.Frag, K.In h ∧ He.SaysD fa fn K ∧ xs.map (fun f => f K) = vs ∧ ex K = true
  of := fun _ _ e => ⟨_, He.frG_in, congrArg (fun z : He.AlD × (List SupV × Bool) => z.1) e, congrArg (fun z : He.AlD × (List SupV × Bool) => z.2.1) e, congrArg (fun z : He.AlD × (List SupV × Bool) => z.2.2) e⟩
  keeps := fun _ _ _ ⟨K, hK, c⟩ k => ⟨K, PySem.W.Frag.In.keeps hK k, c⟩
def obL (as : List Addr) (fa : List He.Fa) (fn : List He.DefD) (xs : List (PySem.W.Frag → SupV)) (ex : PySem.W.Frag → Bool) (g : Addr → Option Obj) : He.AlD × (List SupV × Bool) := (He.obsD fa fn (He.frG g as), xs.map (fun f => f (He.frG g as)), ex (He.frG g as))
theorem obL_eq {as : List Addr} {fa : List He.Fa} {fn : List He.DefD} {xs : List (PySem.W.Frag → SupV)} {vs : List SupV} {ex : PySem.W.Frag → Bool} {g : Addr → Option Obj} {s : Shared} (h : ∀ a, g a = s.heap.get? a) : obL as fa fn xs ex g = (hookL as fa fn xs vs ex).obs s := by
  have e : g = s.heap.get? := funext h
  rw [e] <;> rfl
end Z
set_option pp.maxSteps 700
set_option Elab.async false
set_option linter.all false
set_option maxRecDepth 100000
set_option maxHeartbeats 4000000
set_option maxHeartbeats 0
namespace Zr
open PySem PySem.Spec PyProof.Rows L2 NdefX Z
abbrev s_is_party : Stmt := topS 15
abbrev s_is_mark : Stmt := topS 16
abbrev s_check_party : Stmt := topS 17
abbrev s_check_mark : Stmt := topS 18
abbrev s_check_size : Stmt := topS 26
abbrev s_as_pact : Stmt := topS 35
abbrev s_Part___init__ : Stmt := inClass (topS 27) 1
abbrev s_Pact___init__ : Stmt := inClass (topS 34) 0
abbrev s_Pact___add__ : Stmt := inClass (topS 34) 1
abbrev s_Pact___len__ : Stmt := inClass (topS 34) 4
abbrev s_members_of : Stmt := topS 37
abbrev s_mover_of : Stmt := topS 38
abbrev s_opened : Stmt := topS 39
abbrev s_chosen : Stmt := topS 40
abbrev s_move_for : Stmt := topS 41
abbrev s_number_in : Stmt := topS 42
abbrev s_check_purses : Stmt := topS 19
abbrev s_check_named : Stmt := topS 44
abbrev s_Play___init__ : Stmt := inClass (topS 45) 0
abbrev s_Play_end_rounds : Stmt := inClass (topS 45) 5
abbrev s_Play_carry_out : Stmt := inClass (topS 45) 6
abbrev s_Play_settle : Stmt := inClass (topS 45) 4
abbrev s_Play_move : Stmt := inClass (topS 45) 7
abbrev s_Play_purses : Stmt := inClass (topS 45) 10
abbrev s_Play_happened : Stmt := inClass (topS 45) 13
abbrev s_Play_row : Stmt := inClass (topS 45) 12
abbrev s_Play_moves : Stmt := inClass (topS 45) 11
abbrev s_Play_coins : Stmt := inClass (topS 45) 9
abbrev s_cell : Stmt := topS 47
abbrev s_draws : Stmt := topS 48
abbrev s_take : Stmt := topS 49
abbrev s_marks : Stmt := topS 50
abbrev s_amount : Stmt := topS 51
abbrev s_pact : Stmt := topS 52
abbrev s_part : Stmt := topS 53
abbrev s_weight : Stmt := topS 54
abbrev s_part_weight : Stmt := topS 55
abbrev s_cut : Stmt := topS 56
abbrev s_text : Stmt := topS 57
abbrev s_part_text : Stmt := topS 58
abbrev s_build : Stmt := topS 59
abbrev s_build_part : Stmt := topS 60
abbrev s_is : Stmt := topS 61
abbrev s_says : Stmt := topS 62
abbrev s_names : Stmt := topS 75
abbrev s_coins : Stmt := topS 76
abbrev s_purses : Stmt := topS 77
abbrev s_drawn : Stmt := topS 78
abbrev s_members : Stmt := topS 63
abbrev s_settled : Stmt := topS 64
abbrev s_moved : Stmt := topS 65
abbrev s_step : Stmt := topS 66
abbrev s_number : Stmt := topS 67
abbrev s_move : Stmt := topS 68
abbrev s_over : Stmt := topS 69
abbrev s_row : Stmt := topS 70
abbrev s_texts : Stmt := topS 71
abbrev s_moves : Stmt := topS 72
abbrev s_rich : Stmt := topS 73
abbrev s_stands : Stmt := topS 74
abbrev s_game : Stmt := topS 79
abbrev s_right : Stmt := topS 80
abbrev s_go : Stmt := topS 81
abbrev s_law : Stmt := topS 82
abbrev s_Transfer___init__ : Stmt := inClass (topS 28) 1
abbrev s_Event___init__ : Stmt := inClass (topS 29) 1
abbrev s_Choice___init__ : Stmt := inClass (topS 30) 1
abbrev s_Rounds___init__ : Stmt := inClass (topS 31) 1
abbrev s_Endless___init__ : Stmt := inClass (topS 32) 1
abbrev s_Times___init__ : Stmt := inClass (topS 33) 1
abbrev s_Play_turn : Stmt := inClass (topS 45) 1
abbrev s_Play_outcome : Stmt := inClass (topS 45) 2
abbrev s_Play_loser : Stmt := inClass (topS 45) 3
/-- an own class whose __init__ ends with that of its own base B -/
def supP (fl : Str) (K : PySem.W.Frag) (C B : Addr) (q : Str) : Bool := (match initFd K C with
  | some fd => (match fd.code, fd.closure with
    | .ref c, [(_, cc)] => PySem.W.codeIn K (.ref c) q && ((match K.lookup c with
      | some ⟨_, _, .fields vs, _⟩ => (match (vs[2]? : Option Value) with
        | some (.str file _) => fl == file
        | _ => false)
      | _ => false) && (match K.lookup cc with
      | some ⟨_, _, .cell (some (.ref D)), _⟩ => decide (D = C)
      | _ => false))
    | _, _ => false)
  | none => false) && (decide (PySem.W.mroIn K C (.ref C) = some true) && (He.eqO (PySem.W.nsIn K cStatics "thirdparty.any") (some none) && (He.eqO (PySem.W.ks_superIn K C C "__init__") (some (some (.ref (He.ma K B "__init__")))) && (decide (PySem.W.typeIn K (.ref (He.ma K B "__init__")) = some (.type "function")) && PySem.W.fnIn K (He.ma K B "__init__")))))
/-- a text constant of a class -/
def conB (K : PySem.W.Frag) (C : Addr) (f z : Str) : Bool := match PySem.W.findIn K (.ref C) f with
  | some (some (.str y t)) => decide (y = z) && He.eqO (PySem.W.specialIn K (.str y t) "__get__") (some none)
  | _ => false
/-- the run's facts in two pieces (one piece alone wants too much memory) -/
theorem run_join {α β γ δ : Type} {o : Option α} {f : α → β} {g : α → γ} {h : α → δ} {b : β} {c : γ} {d : δ} (h1 : o.map (fun s => (f s, g s)) = some (b, c)) (h2 : o.map h = some d) : o.map (fun s => (f s, g s, h s)) = some (b, c, d) := by
  cases o with
  | none => cases h2
  | some s =>
    simp only [Option.map_some, Option.some.injEq, Prod.mk.injEq] at h1 h2 ⊢
    exact ⟨h1.1, h1.2, h2⟩
def d_is_party : He.DefD := ⟨("is_party", none), "is_party", "is_party", defArgs s_is_party, defBody s_is_party, defScope s_is_party, [], []⟩
def d_is_mark : He.DefD := ⟨("is_mark", none), "is_mark", "is_mark", defArgs s_is_mark, defBody s_is_mark, defScope s_is_mark, [], []⟩
def d_check_party : He.DefD := ⟨("check_party", none), "check_party", "check_party", defArgs s_check_party, defBody s_check_party, defScope s_check_party, [], []⟩
def d_check_mark : He.DefD := ⟨("check_mark", none), "check_mark", "check_mark", defArgs s_check_mark, defBody s_check_mark, defScope s_check_mark, [], []⟩
def d_check_size : He.DefD := ⟨("check_size", none), "check_size", "check_size", defArgs s_check_size, defBody s_check_size, defScope s_check_size, [], []⟩
def d_as_pact : He.DefD := ⟨("as_pact", none), "as_pact", "as_pact", defArgs s_as_pact, defBody s_as_pact, defScope s_as_pact, [], []⟩
def d_Part___init__ : He.DefD := ⟨("Part", some "__init__"), "__init__", "Part.__init__", defArgs s_Part___init__, defBody s_Part___init__, defScope s_Part___init__, [], []⟩
def d_Pact___init__ : He.DefD := ⟨("Pact", some "__init__"), "__init__", "Pact.__init__", defArgs s_Pact___init__, defBody s_Pact___init__, defScope s_Pact___init__, [], []⟩
def d_Pact___add__ : He.DefD := ⟨("Pact", some "__add__"), "__add__", "Pact.__add__", defArgs s_Pact___add__, defBody s_Pact___add__, defScope s_Pact___add__, [], []⟩
def d_Pact___len__ : He.DefD := ⟨("Pact", some "__len__"), "__len__", "Pact.__len__", defArgs s_Pact___len__, defBody s_Pact___len__, defScope s_Pact___len__, [], []⟩
def d_members_of : He.DefD := ⟨("members_of", none), "members_of", "members_of", defArgs s_members_of, defBody s_members_of, defScope s_members_of, [], []⟩
def d_mover_of : He.DefD := ⟨("mover_of", none), "mover_of", "mover_of", defArgs s_mover_of, defBody s_mover_of, defScope s_mover_of, [], []⟩
def d_opened : He.DefD := ⟨("opened", none), "opened", "opened", defArgs s_opened, defBody s_opened, defScope s_opened, [], []⟩
def d_chosen : He.DefD := ⟨("chosen", none), "chosen", "chosen", defArgs s_chosen, defBody s_chosen, defScope s_chosen, [], []⟩
def d_move_for : He.DefD := ⟨("move_for", none), "move_for", "move_for", defArgs s_move_for, defBody s_move_for, defScope s_move_for, [], []⟩
def d_number_in : He.DefD := ⟨("number_in", none), "number_in", "number_in", defArgs s_number_in, defBody s_number_in, defScope s_number_in, [], []⟩
def d_check_purses : He.DefD := ⟨("check_purses", none), "check_purses", "check_purses", defArgs s_check_purses, defBody s_check_purses, defScope s_check_purses, [], []⟩
def d_check_named : He.DefD := ⟨("check_named", none), "check_named", "check_named", defArgs s_check_named, defBody s_check_named, defScope s_check_named, [], []⟩
def d_Play___init__ : He.DefD := ⟨("Play", some "__init__"), "__init__", "Play.__init__", defArgs s_Play___init__, defBody s_Play___init__, defScope s_Play___init__, [], []⟩
def d_Play_end_rounds : He.DefD := ⟨("Play", some "end_rounds"), "end_rounds", "Play.end_rounds", defArgs s_Play_end_rounds, defBody s_Play_end_rounds, defScope s_Play_end_rounds, [], []⟩
def d_Play_carry_out : He.DefD := ⟨("Play", some "carry_out"), "carry_out", "Play.carry_out", defArgs s_Play_carry_out, defBody s_Play_carry_out, defScope s_Play_carry_out, [], []⟩
def d_Play_settle : He.DefD := ⟨("Play", some "settle"), "settle", "Play.settle", defArgs s_Play_settle, defBody s_Play_settle, defScope s_Play_settle, [], []⟩
def d_Play_move : He.DefD := ⟨("Play", some "move"), "move", "Play.move", defArgs s_Play_move, defBody s_Play_move, defScope s_Play_move, [], []⟩
def d_Play_purses : He.DefD := ⟨("Play", some "purses"), "purses", "Play.purses", defArgs s_Play_purses, defBody s_Play_purses, defScope s_Play_purses, [], []⟩
def d_Play_happened : He.DefD := ⟨("Play", some "happened"), "happened", "Play.happened", defArgs s_Play_happened, defBody s_Play_happened, defScope s_Play_happened, [], []⟩
def d_Play_row : He.DefD := ⟨("Play", some "row"), "row", "Play.row", defArgs s_Play_row, defBody s_Play_row, defScope s_Play_row, [], []⟩
def d_Play_moves : He.DefD := ⟨("Play", some "moves"), "moves", "Play.moves", defArgs s_Play_moves, defBody s_Play_moves, defScope s_Play_moves, [], []⟩
def d_Play_coins : He.DefD := ⟨("Play", some "coins"), "coins", "Play.coins", defArgs s_Play_coins, defBody s_Play_coins, defScope s_Play_coins, [], []⟩
def d_cell : He.DefD := ⟨("_law_cell", none), "_law_cell", "_law_cell", defArgs s_cell, defBody s_cell, defScope s_cell, [], []⟩
def d_draws : He.DefD := ⟨("_law_draws", none), "_law_draws", "_law_draws", defArgs s_draws, defBody s_draws, defScope s_draws, [], []⟩
def d_take : He.DefD := ⟨("_law_take", none), "_law_take", "_law_take", defArgs s_take, defBody s_take, defScope s_take, [], []⟩
def d_marks : He.DefD := ⟨("_law_marks", none), "_law_marks", "_law_marks", defArgs s_marks, defBody s_marks, defScope s_marks, [], []⟩
def d_amount : He.DefD := ⟨("_law_amount", none), "_law_amount", "_law_amount", defArgs s_amount, defBody s_amount, defScope s_amount, [], []⟩
def d_pact : He.DefD := ⟨("_law_pact", none), "_law_pact", "_law_pact", defArgs s_pact, defBody s_pact, defScope s_pact, [], []⟩
def d_part : He.DefD := ⟨("_law_part", none), "_law_part", "_law_part", defArgs s_part, defBody s_part, defScope s_part, [], []⟩
def d_weight : He.DefD := ⟨("_law_weight", none), "_law_weight", "_law_weight", defArgs s_weight, defBody s_weight, defScope s_weight, [], []⟩
def d_part_weight : He.DefD := ⟨("_law_part_weight", none), "_law_part_weight", "_law_part_weight", defArgs s_part_weight, defBody s_part_weight, defScope s_part_weight, [], []⟩
def d_cut : He.DefD := ⟨("_law_cut", none), "_law_cut", "_law_cut", defArgs s_cut, defBody s_cut, defScope s_cut, [], []⟩
def d_text : He.DefD := ⟨("_law_text", none), "_law_text", "_law_text", defArgs s_text, defBody s_text, defScope s_text, [], []⟩
def d_part_text : He.DefD := ⟨("_law_part_text", none), "_law_part_text", "_law_part_text", defArgs s_part_text, defBody s_part_text, defScope s_part_text, [], []⟩
def d_build : He.DefD := ⟨("_law_build", none), "_law_build", "_law_build", defArgs s_build, defBody s_build, defScope s_build, [], []⟩
def d_build_part : He.DefD := ⟨("_law_build_part", none), "_law_build_part", "_law_build_part", defArgs s_build_part, defBody s_build_part, defScope s_build_part, [], []⟩
def d_is : He.DefD := ⟨("_law_is", none), "_law_is", "_law_is", defArgs s_is, defBody s_is, defScope s_is, [], []⟩
def d_says : He.DefD := ⟨("_law_says", none), "_law_says", "_law_says", defArgs s_says, defBody s_says, defScope s_says, [], []⟩
def d_names : He.DefD := ⟨("_law_names", none), "_law_names", "_law_names", defArgs s_names, defBody s_names, defScope s_names, [], []⟩
def d_coins : He.DefD := ⟨("_law_coins", none), "_law_coins", "_law_coins", defArgs s_coins, defBody s_coins, defScope s_coins, [], []⟩
def d_purses : He.DefD := ⟨("_law_purses", none), "_law_purses", "_law_purses", defArgs s_purses, defBody s_purses, defScope s_purses, [], []⟩
def d_drawn : He.DefD := ⟨("_law_drawn", none), "_law_drawn", "_law_drawn", defArgs s_drawn, defBody s_drawn, defScope s_drawn, [], []⟩
def d_members : He.DefD := ⟨("_law_members", none), "_law_members", "_law_members", defArgs s_members, defBody s_members, defScope s_members, [], []⟩
def d_settled : He.DefD := ⟨("_law_settled", none), "_law_settled", "_law_settled", defArgs s_settled, defBody s_settled, defScope s_settled, [], []⟩
def d_moved : He.DefD := ⟨("_law_moved", none), "_law_moved", "_law_moved", defArgs s_moved, defBody s_moved, defScope s_moved, [], []⟩
def d_step : He.DefD := ⟨("_law_step", none), "_law_step", "_law_step", defArgs s_step, defBody s_step, defScope s_step, [], []⟩
def d_number : He.DefD := ⟨("_law_number", none), "_law_number", "_law_number", defArgs s_number, defBody s_number, defScope s_number, [], []⟩
def d_move : He.DefD := ⟨("_law_move", none), "_law_move", "_law_move", defArgs s_move, defBody s_move, defScope s_move, [], []⟩
def d_over : He.DefD := ⟨("_law_over", none), "_law_over", "_law_over", defArgs s_over, defBody s_over, defScope s_over, [], []⟩
def d_row : He.DefD := ⟨("_law_row", none), "_law_row", "_law_row", defArgs s_row, defBody s_row, defScope s_row, [], []⟩
def d_texts : He.DefD := ⟨("_law_texts", none), "_law_texts", "_law_texts", defArgs s_texts, defBody s_texts, defScope s_texts, [], []⟩
def d_moves : He.DefD := ⟨("_law_moves", none), "_law_moves", "_law_moves", defArgs s_moves, defBody s_moves, defScope s_moves, [], []⟩
def d_rich : He.DefD := ⟨("_law_rich", none), "_law_rich", "_law_rich", defArgs s_rich, defBody s_rich, defScope s_rich, [], []⟩
def d_stands : He.DefD := ⟨("_law_stands", none), "_law_stands", "_law_stands", defArgs s_stands, defBody s_stands, defScope s_stands, [], []⟩
def d_game : He.DefD := ⟨("_law_game", none), "_law_game", "_law_game", defArgs s_game, defBody s_game, defScope s_game, [], []⟩
def d_right : He.DefD := ⟨("_law_right", none), "_law_right", "_law_right", defArgs s_right, defBody s_right, defScope s_right, [], []⟩
def d_go : He.DefD := ⟨("_law_go", none), "_law_go", "_law_go", defArgs s_go, defBody s_go, defScope s_go, [], []⟩
def d_law : He.DefD := ⟨("law", none), "law", "law", defArgs s_law, defBody s_law, defScope s_law, [], []⟩
abbrev s_BadParty___init__ : Stmt := inClass (topS 8) 0
theorem xn_BadParty {P : Program} {w : World} {K : PySem.W.Frag} {mg : Str → Option Value} {base : Heap} {fl : Str} (h1 : supObs K "BadParty" = supVal "BadParty.__init__" s_BadParty___init__) (h : ExnF K (He.ga K "BadParty") "BadParty.__init__" "party" fl) (hfl : ((P.main.file : Str) == fl) = true) (htop : (P.main.scope.names.lookup ("super" : Str)).isSome = false) (g : mg "BadParty" = some (.ref (He.ga K "BadParty"))) (m_super : mg "super" = none) : Exn P w K mg base "BadParty" (He.ga K "BadParty") "party" := by
  obtain ⟨c, cc, fd, kV, doc, pm, ct, an, hfd, S, hcd⟩ := sup_of h1 h.sup hfl htop
  refine ⟨S.oex, g, He.ma K _ "__init__", fd, ["self", "party"], h.ini, h.ty, ?_, ?_⟩
  · exact exn_ok (v := "party") (F := ⟨"__init__", "BadParty.__init__", defArgs s_BadParty___init__, defBody s_BadParty___init__, defScope s_BadParty___init__, [("__class__", cc)], c⟩) hfd S hcd (NdefX.nscope_by (sc := defScope s_BadParty___init__) (by decide +kernel)) rfl rfl rfl (show (defScope s_BadParty___init__).names.lookup ("super" : Str) = some .globalImplicit by decide +kernel) m_super h.no (by decide) (by decide) rfl (fun _ _ _ _ _ => rfl) (fun _ _ _ _ _ => rfl) (fun _ _ _ _ _ => rfl) (fun _ _ _ _ _ => rfl)
  · subst hfd
    exact Binds.all fun us hl => match us, hl with | [_, _], _ => rfl
def xns : List (PySem.W.Frag → SupV) := [fun K => supObs K "BadParty", propObs "Play" "turn", propObs "Play" "outcome", propObs "Play" "loser", fun K => supObs K "Transfer", fun K => supObs K "Event", fun K => supObs K "Choice", fun K => supObs K "Rounds", fun K => supObs K "Endless", fun K => supObs K "Times"]
def exPr (K : PySem.W.Frag) : List Bool := [propB K (He.ga K "Play") "turn" "Play.turn", propB K (He.ga K "Play") "outcome" "Play.outcome", propB K (He.ga K "Play") "loser" "Play.loser"]
def xvs : List SupV := [supVal "BadParty.__init__" s_BadParty___init__, propVal "turn" "Play.turn" s_Play_turn, propVal "outcome" "Play.outcome" s_Play_outcome, propVal "loser" "Play.loser" s_Play_loser, supVal "Transfer.__init__" s_Transfer___init__, supVal "Event.__init__" s_Event___init__, supVal "Choice.__init__" s_Choice___init__, supVal "Rounds.__init__" s_Rounds___init__, supVal "Endless.__init__" s_Endless___init__, supVal "Times.__init__" s_Times___init__]
def exXn (fl : Str) (K : PySem.W.Frag) : List Bool := [exnB fl "BadParty.__init__" "party" K (He.ga K "BadParty")]
def exSu (fl : Str) (K : PySem.W.Frag) : List Bool := [supP fl K (He.ga K "Transfer") (He.ga K "Part") "Transfer.__init__", supP fl K (He.ga K "Event") (He.ga K "Part") "Event.__init__", supP fl K (He.ga K "Choice") (He.ga K "Part") "Choice.__init__", supP fl K (He.ga K "Rounds") (He.ga K "Part") "Rounds.__init__", supP fl K (He.ga K "Endless") (He.ga K "Part") "Endless.__init__", supP fl K (He.ga K "Times") (He.ga K "Part") "Times.__init__"]
def fn : List He.DefD := [d_is_party, d_is_mark, d_check_party, d_check_mark, d_check_size, d_as_pact, d_Part___init__, d_Pact___init__, d_Pact___add__, d_Pact___len__, d_members_of, d_mover_of, d_opened, d_chosen, d_move_for, d_number_in, d_check_purses, d_check_named, d_Play___init__, d_Play_end_rounds, d_Play_carry_out, d_Play_settle, d_Play_move, d_Play_purses, d_Play_happened, d_Play_row, d_Play_moves, d_Play_coins, d_cell, d_draws, d_take, d_marks, d_amount, d_pact, d_part, d_weight, d_part_weight, d_cut, d_text, d_part_text, d_build, d_build_part, d_is, d_says, d_names, d_coins, d_purses, d_drawn, d_members, d_settled, d_moved, d_step, d_number, d_move, d_over, d_row, d_texts, d_moves, d_rich, d_stands, d_game, d_right, d_go, d_law]
def fa : List He.Fa := [.glo "is_party", .glo "is_mark", .glo "check_party", .glo "check_mark", .glo "check_size", .glo "as_pact", .glo "members_of", .glo "mover_of", .glo "opened", .glo "chosen", .glo "move_for", .glo "number_in", .glo "check_purses", .glo "check_named", .glo "_law_cell", .glo "_law_draws", .glo "_law_take", .glo "_law_marks", .glo "_law_amount", .glo "_law_pact", .glo "_law_part", .glo "_law_weight", .glo "_law_part_weight", .glo "_law_cut", .glo "_law_text", .glo "_law_part_text", .glo "_law_build", .glo "_law_build_part", .glo "_law_is", .glo "_law_says", .glo "_law_names", .glo "_law_coins", .glo "_law_purses", .glo "_law_drawn", .glo "_law_members", .glo "_law_settled", .glo "_law_moved", .glo "_law_step", .glo "_law_number", .glo "_law_move", .glo "_law_over", .glo "_law_row", .glo "_law_texts", .glo "_law_moves", .glo "_law_rich", .glo "_law_stands", .glo "_law_game", .glo "_law_right", .glo "_law_go", .glo "law", .free "abs", .free "all", .free "bool", .free "dict", .free "int", .free "isinstance", .free "len", .free "list", .free "max", .free "range", .free "str", .free "sum", .free "super", .free "tuple", .glo "Part", .cls "Part", .mkr "Part", .glo "Pact", .cls "Pact", .mkr "Pact", .noat "Pact" "parts", .noat "Pact" "weight", .noat "Pact" "depth", .noat "Pact" "text", .glo "Transfer", .cls "Transfer", .mkr "Transfer", .noat "Transfer" "payer", .noat "Transfer" "payee", .noat "Transfer" "amount", .noat "Transfer" "weight", .noat "Transfer" "depth", .noat "Transfer" "text", .glo "Event", .cls "Event", .mkr "Event", .noat "Event" "mark", .noat "Event" "weight", .noat "Event" "depth", .noat "Event" "text", .glo "Choice", .cls "Choice", .mkr "Choice", .noat "Choice" "owner", .noat "Choice" "options", .noat "Choice" "weight", .noat "Choice" "depth", .noat "Choice" "text", .glo "Rounds", .cls "Rounds", .mkr "Rounds", .noat "Rounds" "owner", .noat "Rounds" "body", .noat "Rounds" "weight", .noat "Rounds" "depth", .noat "Rounds" "text", .glo "Endless", .cls "Endless", .mkr "Endless", .noat "Endless" "body", .noat "Endless" "weight", .noat "Endless" "depth", .noat "Endless" "text", .glo "Times", .cls "Times", .mkr "Times", .noat "Times" "count", .noat "Times" "body", .noat "Times" "weight", .noat "Times" "depth", .noat "Times" "text", .glo "Play", .cls "Play", .mkr "Play", .noat "Play" "kept_purses", .noat "Play" "kept_row", .noat "Play" "kept_happened", .noat "Play" "kept_past", .noat "Play" "kept_outcome", .noat "Play" "kept_loser", .meth "Play" "end_rounds", .meth "Play" "carry_out", .meth "Play" "settle", .meth "Play" "move", .meth "Play" "purses", .meth "Play" "happened", .meth "Play" "row", .meth "Play" "moves", .meth "Play" "coins", .int "MOST_AMOUNT" (1000000000000000000000000000000000000000000000000000000000000), .int "MOST_WEIGHT" (400), .int "MOST_DEPTH" (30), .int "MOST_COUNT" (100), .int "MOST_OPTIONS" (6), .str "PARTIES" "abcdef", .str "MARKS" "ABCDEFGHIJKLMNOPQRSTUVWXYZ", .glo "BadParty"]
def loose : List Str := [("_wall" : Str), ("HouseError" : Str), ("BadAmount" : Str), ("BadCount" : Str), ("BadMark" : Str), ("BadMove" : Str), ("BadPart" : Str), ("BadParty" : Str), ("NoPurse" : Str), ("TooLarge" : Str), ("PlayOver" : Str), ("PARTIES" : Str), ("MARKS" : Str), ("is_party" : Str), ("is_mark" : Str), ("check_party" : Str), ("check_mark" : Str), ("check_purses" : Str), ("MOST_AMOUNT" : Str), ("MOST_WEIGHT" : Str), ("MOST_DEPTH" : Str), ("MOST_COUNT" : Str), ("MOST_OPTIONS" : Str), ("check_size" : Str), ("Part" : Str), ("Transfer" : Str), ("Event" : Str), ("Choice" : Str), ("Rounds" : Str), ("Endless" : Str), ("Times" : Str), ("Pact" : Str), ("as_pact" : Str), ("members_of" : Str), ("mover_of" : Str), ("opened" : Str), ("chosen" : Str), ("move_for" : Str), ("number_in" : Str), ("check_named" : Str), ("Play" : Str), ("_law_cell" : Str), ("_law_draws" : Str), ("_law_take" : Str), ("_law_marks" : Str), ("_law_amount" : Str), ("_law_pact" : Str), ("_law_part" : Str), ("_law_weight" : Str), ("_law_part_weight" : Str), ("_law_cut" : Str), ("_law_text" : Str), ("_law_part_text" : Str), ("_law_build" : Str), ("_law_build_part" : Str), ("_law_is" : Str), ("_law_says" : Str), ("_law_members" : Str), ("_law_settled" : Str), ("_law_moved" : Str), ("_law_step" : Str), ("_law_number" : Str), ("_law_move" : Str), ("_law_over" : Str), ("_law_row" : Str), ("_law_texts" : Str), ("_law_moves" : Str), ("_law_rich" : Str), ("_law_stands" : Str), ("_law_names" : Str), ("_law_coins" : Str), ("_law_purses" : Str), ("_law_drawn" : Str), ("_law_game" : Str), ("_law_right" : Str), ("_law_go" : Str)]
/-- all places of the heap behind the top (there are fewer) -/
def AS : List Addr := List.range 900
def fl : Str := PySem.Challenge.pw_signedpacts_k27_play_steps.main.file
def exL0 (K : PySem.W.Frag) : List Bool := [isB K (He.ga K "Pact"), !decide (He.ga K "Play" = (He.ga K "Transfer")), !decide (He.ga K "Play" = (He.ga K "Event")), !decide (He.ga K "Play" = (He.ga K "Choice")), !decide (He.ga K "Play" = (He.ga K "Rounds")), !decide (He.ga K "Play" = (He.ga K "Endless")), !decide (He.ga K "Play" = (He.ga K "Times")), !decide (He.ga K "Play" = (He.ga K "Pact")), spB K (He.ga K "Pact") "__add__", spB K (He.ga K "Pact") "__len__", PySem.W.selfFirst K (He.ga K "Pact")]
def exL1 (K : PySem.W.Frag) : List Bool := [isB K (He.ga K "Transfer"), isB K (He.ga K "Event"), isB K (He.ga K "Choice"), isB K (He.ga K "Rounds"), isB K (He.ga K "Endless"), isB K (He.ga K "Times")]
def exL2 (K : PySem.W.Frag) : List Bool := [kitVB K (He.ga K "Transfer") (.ref (He.ga K "Part")) true, kitVB K (He.ga K "Event") (.ref (He.ga K "Part")) true, kitVB K (He.ga K "Choice") (.ref (He.ga K "Part")) true, kitVB K (He.ga K "Rounds") (.ref (He.ga K "Part")) true, kitVB K (He.ga K "Endless") (.ref (He.ga K "Part")) true, kitVB K (He.ga K "Times") (.ref (He.ga K "Part")) true]
def exL3 (K : PySem.W.Frag) : List Bool := [conB K (He.ga K "Transfer") "KIND" "transfer", conB K (He.ga K "Event") "KIND" "event", conB K (He.ga K "Choice") "KIND" "choice", conB K (He.ga K "Rounds") "KIND" "rounds", conB K (He.ga K "Endless") "KIND" "endless", conB K (He.ga K "Times") "KIND" "times"]
def ex1 (K : PySem.W.Frag) : Bool := (exL0 K).all id && (exXn fl K).all id
def ex2 (K : PySem.W.Frag) : Bool := (exPr K).all id && (exSu fl K).all id
def ex3 (K : PySem.W.Frag) : Bool := (exL1 K).all id && ((exL2 K).all id && (exL3 K).all id)
def ex (K : PySem.W.Frag) : Bool := ex1 K && (ex2 K && ex3 K)
abbrev R : PySem.W.OpenRow := PySem.W.OpenLaw.row PySem.Challenge.rw_signedpacts_k27_play_steps
abbrev hk : PySem.W.Hook := hookL AS fa fn xns xvs ex
def ob (s : PySem.W.SharedT) : He.AlD × (List SupV × Bool) := obL AS fa fn xns ex (HandSHeadRun.getT s)
theorem ob_eq (s : PySem.W.SharedT) : ob s = hk.obs s.abs := obL_eq (HandSHeadRun.getT_eq s)
open HandSHeadRun PySem.W PySem.Calls in
theorem run_a (w : World) (os : OsState) : (endF (stepQ (denQ tabQ) Zr.R.prog w) 8000 Zr.R.prog w os).map (fun s => (looksF Zr.R.prog (boot_heap w.params) s.abs, seenQ (PySem.W.view Zr.R.prog [82]) loose (importedModules Zr.R.prog.main.body) (fun s => xlAt (PySem.W.view Zr.R.prog [82]) [] s && recOk Zr.R.toRowW.records s) s.abs)) = some (true, openGood (PySem.W.view Zr.R.prog [82]) loose) := by kernel_rfl
open HandSHeadRun in
theorem run_b (w : World) (os : OsState) : (endF (stepQ (denQ tabQ) Zr.R.prog w) 8000 Zr.R.prog w os).map ob = some (hk.val w) := by kernel_rfl
theorem run (w : World) : HandSHeadRun.RunEq Zr.R (PySem.W.view Zr.R.prog [82]) hk ob 8000 loose w := by
  intro os
  have z := run_join (run_a w os) (run_b w os)
  exact z
end Zr
set_option Elab.async false
set_option linter.all false
set_option maxRecDepth 100000
set_option maxHeartbeats 4000000
namespace Z
open PySem PySem.Spec PyProof.Rows L2
/-! ### a op b by the class's own method -/
structure Bin2 (P : Program) (w : World) (K : PySem.W.Frag) (mg : Str → Option Value) (base : Heap) (k : Nat) (C : Addr) (m : Str) (sp : Sp) : Prop where
  ex : ∃ (f : Addr) (fd : FuncData) (ps : List Str), FnOk P w K mg base CX0 k f fd ps sp ∧ PySem.W.findIn K (.ref C) m = some (some (.ref f)) ∧ PySem.W.isFn K (.ref f) = true ∧ Binds K fd ps [] ∧ PySem.W.selfFirst K C = true
def rBin (C : Addr) (sp : Sp) : R2 := fun x y H Q => ∃ a b dx dy fs gs, x = .ref a ∧ y = .ref b ∧ H a = some (.ins C dx fs) ∧ H b = some (.ins C dy gs) ∧ sp [.ref a, .ref b] H (fun v H' => ∃ p, v = .ref p ∧ Q v H') E0
theorem op_bin {X : Cx} {k j : Nat} {C : Addr} {sp : Sp} {op : Operator} (c : Bin2 X.prog X.w X.K X.mg X.base k C (PySem.dunder op.info.2) sp) (hr : Room j X.A) (hk : k ≤ j) : OpR X (binaryOp op) (rBin C sp) := by
  intro pins s σ H x y v u Q I rx ry hq
  obtain ⟨f, fd, ps, F, hs, hf, hb, sf⟩ := c.ex
  obtain ⟨a, b, dx, dy, fs, gs, rfl, rfl, ha, hb', q⟩ := hq
  cases rx
  cases ry
  obtain ⟨mA, J, _⟩ := ins_get I.hok ha
  obtain ⟨mB, J', _⟩ := ins_get I.hok hb'
  obtain ⟨od, J, _⟩ := J.look
  obtain ⟨od', J', _⟩ := J'.look
  obtain ⟨m, hF⟩ := I.fr
  refine PySem.W.binop_K hF I.ok.mod.kin J J'.type sf hs hf ?_
  have r2 : Vals [V.ref a, V.ref b] [Value.ref a, Value.ref b] := .cons rfl (.cons rfl .nil)
  refine thn (run_fn (dvs := []) F (hr.mono hk) hb .nil pass0 I r2 q) fun r s' z => ?_
  obtain ⟨v, H', I', rv, p, rfl, q'⟩ := z
  cases rv
  exact ⟨.ref p, H', I', rfl, q'⟩
/-! ### a op n, n an int, by the class's own method, which may raise -/
structure BinI (P : Program) (w : World) (K : PySem.W.Frag) (mg : Str → Option Value) (base : Heap) (k : Nat) (C : Addr) (op : Operator) (sp : Sp) : Prop where
  ex : ∃ (f : Addr) (fd : FuncData) (ps : List Str) (fo ro : Option Value), FnOk P w K mg base (L2N.CX P w) k f fd ps sp ∧ PySem.W.findIn K (.ref C) (PySem.dunder op.info.2) = some (some (.ref f)) ∧ PySem.W.isFn K (.ref f) = true ∧ Binds K fd ps [] ∧ PySem.W.selfFirst K C = true ∧
    PySem.W.findIn K (.ref C) (dunderR op.info.2) = some none ∧ PySem.W.findIn K (.type "int") (PySem.dunder op.info.2) = some fo ∧ PySem.W.findIn K (.type "int") (dunderR op.info.2) = some ro ∧ PySem.W.subIn K (.type "int") (.ref C) = some false
def tOpE (C : Addr) (sp : Sp) (E : L2.St → XK) (ta tb : TE) : TE := fun σ H Q => ta σ H fun x H1 => tb σ H1 fun y H2 => ∃ a n dx fs, x = .ref a ∧ y = .int n ∧ H2 a = some (.ins C dx fs) ∧ sp [.ref a, .int n] H2 (fun v H' => ∃ p, v = .ref p ∧ Q v H') (E σ)
theorem pe_opE {X : Cx} {k j : Nat} {C : Addr} {sp : Sp} {op : Operator} {E : L2.St → XK} {a b : Expr} {ta tb : TE} {pos : Pos} (c : BinI X.prog X.w X.K X.mg X.base k C op sp) (hx : ∀ σ, PassesAt (L2N.CX X.prog X.w) X σ (E σ)) (hr : Room j X.A) (hk : k ≤ j) (ha : PE X a ta) (hb : PE X b tb) : PE X (.BinOp a op b pos) (tOpE C sp E ta tb) := by
  obtain ⟨f, fd, ps, fo, ro, F, hs, hf, hbi, sf, hr0, h1, h2, hsub⟩ := c.ex
  refine ⟨fun pins s σ H Q I h => ?_⟩
  refine wpAny_BinOp (binT ha hb I h fun v u s2 x y H2 I2 rx ry q => ?_)
  obtain ⟨a, n, dx, fs, rfl, rfl, ea, q⟩ := q
  cases rx
  obtain ⟨tk, rfl⟩ := ry
  obtain ⟨mA, J, _⟩ := ins_get I2.hok ea
  obtain ⟨od, J, _⟩ := J.look
  obtain ⟨m, hF⟩ := I2.fr
  refine PySem.W.ksp_binT (T := "int") (fo := fo) (ro := ro) (rc := none) hF I2.ok.mod.kin J rfl sf hs hf hr0 (.inl rfl) h1 h2 hsub ?_
  refine thn (wpAny_call (run_atE (vs := [.ref a, .int n]) (us := [.ref a, .int n tk]) F hbi (hx σ) (hr.mono hk) I2 (.cons rfl (.cons ⟨_, rfl⟩ .nil)) q)) fun r s' z => ?_
  obtain ⟨v, H', I', rv, p, rfl, q'⟩ := z
  cases rv
  exact ⟨.ref p, H', I', rfl, q'⟩
end Z
set_option Elab.async false
set_option linter.all false
set_option maxRecDepth 100000
set_option maxHeartbeats 4000000
namespace Z
open PySem PySem.Spec PyProof.Rows L2
/-! ### comprehensions that give ints, over a list of ints and over a range -/
theorem lc_ofs {K : PySem.W.Frag} {J : It} {D : Addr} {n : Nat} {H0 : Hp} {i : Nat} {te : TE} {vs : List Nat} {σ : L2.St} {Qd : Hp → Prop} (g : Nat → Int) (xv : Nat → V) (hn : n ≤ 1000000) (nD : H0 D = none)
    (hgo : ∀ k H1, k < n → Same H0 H1 → J.go k H1) (hst : ∀ H1, Same H0 H1 → J.stop n H1) (hy : ∀ k H1 x H2, k < n → Same H0 H1 → J.yld k H1 x H2 → H2 = H1 ∧ x = xv k)
    (hw : ∀ k, wipe ((wipe σ vs).set i (some (xv k))) vs = wipe σ vs)
    (ht : ∀ k H1 (Q : VK), k < n → Same H0 H1 → (∀ H2, Same H1 H2 → Q (.int (g k)) H2) → te ((wipe σ vs).set i (some (xv k))) H1 Q)
    (hd : ∀ H1, Same H0 H1 → H1 D = some (.lst (((List.range n).map g).map V.int)) → Qd H1) : lcW J (gName i) tYes te vs σ D Qd H0 := by
  refine lc_gen (n := n) (fun k H1 => Same H0 H1 ∧ H1 D = some (.lst (((List.range k).map g).map V.int))) ⟨same_new nD, upd_same⟩ (fun k H1 hk p => hgo k H1 hk p.1) (fun H1 p => hst H1 p.1) ?_ (fun H1 p => hd H1 p.1 p.2)
  rintro k H1 x H2 hk ⟨s, e⟩ y
  obtain ⟨rfl, rfl⟩ := hy k H1 x H2 hk s y
  refine ⟨hw k, ?_⟩
  refine ht k _ _ hk s (fun H3 s3 => ⟨_, s3 _ _ e, ?_, Z.Same.mut (s.trans s3) nD, ?_⟩)
  · rw [List.length_map, List.length_map, List.length_range]
    exact Nat.lt_of_lt_of_le hk (Nat.le_trans hn (by decide))
  · rw [upd_same, List.range_succ, List.map_append, List.map_append]
    rfl
theorem lc_rng {K : PySem.W.Frag} {lo : Int} {D : Addr} {n : Nat} {H0 : Hp} {i : Nat} {te : TE} {vs : List Nat} {σ : L2.St} {Qd : Hp → Prop} (g : Nat → Int) (hn : n ≤ 1000000) (nD : H0 D = none) (hw : ∀ k : Nat, wipe ((wipe σ vs).set i (some (.int (lo + k)))) vs = wipe σ vs)
    (ht : ∀ (k : Nat) H1 (Q : VK), k < n → Same H0 H1 → (∀ H2, Same H1 H2 → Q (.int (g k)) H2) → te ((wipe σ vs).set i (some (.int (lo + k)))) H1 Q)
    (hd : ∀ H1, Same H0 H1 → H1 D = some (.lst (((List.range n).map g).map V.int)) → Qd H1) : lcW (Itr lo n) (gName i) tYes te vs σ D Qd H0 :=
  lc_ofs (K := K) g (fun k => .int (lo + k)) hn nD (fun k H1 hk _ => hk) (fun H1 _ => Nat.le_refl _) (fun k H1 x H2 _ _ y => y) hw ht hd
theorem lc_lst {K : PySem.W.Frag} {a D : Addr} {xs : List Int} {H0 : Hp} {i : Nat} {te : TE} {vs : List Nat} {σ : L2.St} {Qd : Hp → Prop} (hS : SqL K H0 a (xs.map V.int)) (g : Int → Int) (hn : xs.length ≤ 1000000) (nD : H0 D = none) (hw : ∀ x : Int, wipe ((wipe σ vs).set i (some (.int x))) vs = wipe σ vs)
    (ht : ∀ x H1 (Q : VK), x ∈ xs → Same H0 H1 → (∀ H2, Same H1 H2 → Q (.int (g x)) H2) → te ((wipe σ vs).set i (some (.int x))) H1 Q)
    (hd : ∀ H1, Same H0 H1 → H1 D = some (.lst ((xs.map g).map V.int)) → Qd H1) : lcW (Itl K a) (gName i) tYes te vs σ D Qd H0 := by
  have ex : ∀ k, k < xs.length → (xs.map V.int)[k]? = some (.int (xs.getD k 0)) := fun k hk => by
    rw [List.getElem?_map, List.getD_eq_getElem?_getD, List.getElem?_eq_getElem hk]
    rfl
  refine lc_ofs (K := K) (n := xs.length) (fun k => g (xs.getD k 0)) (fun k => .int (xs.getD k 0)) hn nD (fun k H1 hk s => ⟨_, _, s.seq hS, ex k hk⟩) (fun H1 s => ⟨_, s.seq hS, by rw [List.length_map]; exact Nat.le_refl _⟩) (fun k H1 x H2 hk s y => ⟨y.1, Option.some.inj ((y.2 _ (s.seq hS)).symm.trans (ex k hk))⟩) (fun k => hw _) (fun k H1 Q hk s q => ht _ H1 Q ?_ s q) (fun H1 s e => hd H1 s ?_)
  · rw [List.getD_eq_getElem?_getD, List.getElem?_eq_getElem hk]
    exact List.getElem_mem hk
  · rw [e]
    congr 2
    congr 1
    apply List.ext_getElem
    · rw [List.length_map, List.length_map, List.length_range]
    · intro k h1 h2
      rw [List.length_map] at h2
      rw [List.getElem_map, List.getElem_map, List.getElem_range, List.getD_eq_getElem?_getD, List.getElem?_eq_getElem h2]
      rfl
/-- for x in xs, ints -/
theorem for_lst {K : PySem.W.Frag} {a : Addr} {xs : List Int} {H0 H : Hp} {i : Nat} {tb : TS} {D : Ends} {σ : L2.St} (hS : SqL K H0 a (xs.map V.int)) (Pv : Nat → L2.St → Hp → Prop) (h0 : Pv 0 σ H) (hq : ∀ k σ H1, Pv k σ H1 → Same H0 H1)
    (hs : ∀ (k : Nat) (x : Int) (σ : L2.St) (H1 : Hp), xs[k]? = some x → Pv k σ H1 → tb { D with nx := Pv (k + 1), ct := Pv (k + 1), bk := D.nx } (σ.set i (some (.int x))) H1)
    (hd : ∀ σ H1, Pv xs.length σ H1 → D.nx σ H1) : forW (Itl K a) (gName i) tb D σ H := by
  have ex : ∀ k, k < xs.length → (xs.map V.int)[k]? = some (.int (xs.getD k 0)) := fun k hk => by
    rw [List.getElem?_map, List.getD_eq_getElem?_getD, List.getElem?_eq_getElem hk]
    rfl
  refine for_gen (n := xs.length) Pv h0 (fun k σ H1 hk p => ⟨_, _, (hq k σ H1 p).seq hS, ex k hk⟩) (fun σ H1 p => ⟨_, (hq _ σ H1 p).seq hS, by rw [List.length_map]; exact Nat.le_refl _⟩) ?_ hd
  intro k σ H1 x H2 hk p y
  obtain ⟨rfl, e⟩ := y
  have e2 := Option.some.inj ((e _ ((hq k σ _ p).seq hS)).symm.trans (ex k hk))
  subst e2
  refine hs k _ σ _ ?_ p
  rw [List.getD_eq_getElem?_getD, List.getElem?_eq_getElem hk]
  rfl
/-- for x in xs, any values -/
theorem for_vs {K : PySem.W.Frag} {a : Addr} {xs : List V} {H0 H : Hp} {i : Nat} {tb : TS} {D : Ends} {σ : L2.St} (hS : SqL K H0 a xs) (Pv : Nat → L2.St → Hp → Prop) (h0 : Pv 0 σ H) (hq : ∀ k σ H1, Pv k σ H1 → Same H0 H1)
    (hs : ∀ (k : Nat) (x : V) (σ : L2.St) (H1 : Hp), xs[k]? = some x → Pv k σ H1 → tb { D with nx := Pv (k + 1), ct := Pv (k + 1), bk := D.nx } (σ.set i (some x)) H1)
    (hd : ∀ σ H1, Pv xs.length σ H1 → D.nx σ H1) : forW (Itl K a) (gName i) tb D σ H := by
  refine for_gen (n := xs.length) Pv h0 (fun k σ H1 hk p => ⟨_, _, (hq k σ H1 p).seq hS, List.getElem?_eq_getElem hk⟩) (fun σ H1 p => ⟨_, (hq _ σ H1 p).seq hS, Nat.le_refl _⟩) ?_ hd
  intro k σ H1 x H2 hk p y
  obtain ⟨rfl, e⟩ := y
  exact hs k x σ _ (e _ ((hq k σ _ p).seq hS)) p
theorem pe_fld_K {X : Cx} {K : PySem.W.Frag} {e : Expr} {f : Str} {pos : Pos} {ta : TE} (h : X.K = K) (he : PE X e ta) (hb : attributeBase e f X.env (eval e X.env) = eval e X.env) : PE X (.Attribute e f pos) (tFld K ta f) := by
  subst h
  exact pe_fld he hb
/-! ### reads -/
theorem at_nat {xs : List Int} {i : Int} (h0 : 0 ≤ i) (h1 : i < xs.length) : atI (xs.map V.int) i = some (.int (xs.getD i.toNat 0)) := by
  have hk : i.toNat < xs.length := by omega
  rw [show i = ((i.toNat : Nat) : Int) by omega, List.getD_eq_getElem?_getD, Int.toNat_natCast, List.getElem?_eq_getElem hk]
  exact at_map (List.getElem?_eq_getElem hk)
theorem rd_at {K : PySem.W.Frag} {H : Hp} {a : Addr} {xs : List Int} {i : Int} {R : V → Prop} (h : SqL K H a (xs.map V.int)) (h0 : 0 ≤ i) (h1 : i < xs.length) (q : R (.int (xs.getD i.toNat 0))) : ∃ a' ys j v, V.ref a = .ref a' ∧ V.int i = .int j ∧ SqL K H a' ys ∧ atI ys j = some v ∧ R v := ⟨a, _, i, _, rfl, rfl, h, at_nat h0 h1, q⟩
theorem rd_atT {K : PySem.W.Frag} {H : Hp} {a : Addr} {xs : List Int} {i : Int} {R : V → Prop} (h : SqT K H a (xs.map V.int)) (h0 : 0 ≤ i) (h1 : i < xs.length) (q : R (.int (xs.getD i.toNat 0))) : ∃ a' ys j v, V.ref a = .ref a' ∧ V.int i = .int j ∧ SqT K H a' ys ∧ atI ys j = some v ∧ R v := ⟨a, _, i, _, rfl, rfl, h, at_nat h0 h1, q⟩
end Z
set_option Elab.async false
set_option linter.all false
set_option maxRecDepth 100000
set_option maxHeartbeats 4000000
namespace Z
open PySem PySem.Spec PyProof.Rows L2
/-! ### enumerate(x) of one argument: x a list, a tuple or a text -/
theorem enum_new1 {v : Value} {o : Obj} {G : Heap → Prop} (B : Begins v o G) :
    Meets (Builtin.«enumerate.__new__» ⟨[.type "enumerate", v], []⟩) (fun _ R s => G s.heap ∧
      R (.ok (.ret (.ref (s.heap.push o).objs.size))) { s with heap := (s.heap.push o).push { cls := .type "enumerate", data := .fields #[.none, .bool false, .ref s.heap.objs.size, rawInt 0, .none, .none] } }) :=
  .of_wp fun prog w A R s h => by
    obtain ⟨hp, gl, dd, tok, oo⟩ := s
    obtain ⟨g1, h⟩ := h
    have hsub := sub_enumerate
    have step : ∀ {A' : Around} {E : Value → Shared → Prop} {Q : Value → Shared → Prop}, Q (.ref hp.objs.size) ⟨hp.push o, gl, dd, tok, oo⟩ → wpAny (model prog w) A' (pyIter v) Q E ⟨hp, gl, dd, tok, oo⟩ := fun z => B.iter prog w _ _ ⟨hp, gl, dd, tok, oo⟩ _ g1 z
    wp_walk using step
    refine wpAny_stack_any fun _ => wpAny_pure ?_
    split
    · rename_i cc _ _ _ _ _
      cases (cc == Value.type "enumerate") <;>
        (wp_walk using step
         exact ⟨_, rfl, h⟩)
    · wp_walk using step
      exact ⟨_, rfl, h⟩
section
variable {prog : Program} {w : World} {A : Around} {E : Value → Shared → Prop} {s : Shared}
theorem enum_begins1 {v : Value} {o : Obj} {G : Heap → Prop} {Q : Value → Shared → Prop} (B : Begins v o G) (g : G s.heap)
    (h : ∀ h', IsEnum h' (s.heap.objs.size + 1) s.heap.objs.size 0 .none → h'.get? s.heap.objs.size = some o → (∀ b ob, s.heap.get? b = some ob → h'.get? b = some ob) → Q (.ref (s.heap.objs.size + 1)) { s with heap := h' }) :
    wpAny (model prog w) A (call (.type "enumerate") [v]) Q E s := by
  refine callType_new F.called_enumerate (by decide) (F.typeCall_enumerate_1 v) (F.newCall_enumerate_1 v) (fun ob => F.args_object_init_2 ob _) F.entry_enumerate_new (enum_new1 B) ⟨g, ?_⟩
  have sz : (s.heap.push o).objs.size = s.heap.objs.size + 1 := Heap.size_push ..
  show _ ∧ _
  rw [sz]
  have ie : IsEnum ((s.heap.push o).push { cls := .type "enumerate", data := .fields #[.none, .bool false, .ref s.heap.objs.size, rawInt 0, .none, .none] }) (s.heap.objs.size + 1) s.heap.objs.size 0 .none := by
    have z := Heap.get?_push_size (s.heap.push o) (o := { cls := .type "enumerate", data := .fields #[.none, .bool false, .ref s.heap.objs.size, rawInt 0, .none, .none] }) rfl
    rw [sz] at z
    exact z
  exact ⟨⟨_, ie, rfl⟩, h _ ie (Heap.get?_push_of_some _ (Heap.get?_push_size _ B.free)) fun b ob z => Heap.get?_push_of_some _ (Heap.get?_push_of_some _ z)⟩
end
/-- pairs of a turn's number and its item -/
def ItEM (p : Bool) (K : PySem.W.Frag) (a : Addr) : It :=
  ⟨fun i H => ∃ (xs : List V) (x : V), SqK p K H a xs ∧ xs[i]? = some x,
   fun i H v H' => ∃ T x, v = .ref T ∧ H T = none ∧ H' = upd H T (.tup [.int (i : Nat), x]) ∧ (∀ xs, SqK p K H a xs → xs[i]? = some x),
   fun i H => ∃ xs : List V, SqK p K H a xs ∧ xs.length = i⟩
def ItES (z : Str) : It :=
  ⟨fun i _ => i < z.cps.size,
   fun i H v H' => ∃ T c, v = .ref T ∧ H T = none ∧ H' = upd H T (.tup [.int (i : Nat), .str ⟨#[c]⟩]) ∧ z.cps[i]? = some c,
   fun i _ => z.cps.size = i⟩
theorem enum_item {X : Cx} {pins : List (Addr × Obj)} {σ : L2.St} {H : Hp} {s : Shared} {e it : Addr} {fp : List Addr} {n i : Nat} {Pi : Nat → Value → Prop} {Si : Nat → Heap → Prop} {old : Value} {elts : List Expr} {kk : Nat} {tpos : Pos} {E : Value → Shared → Prop}
    (I : Inv X pins σ H s) (hf : ∀ b ∈ [e, it], FpOk X pins H b) (D : Draws X.prog X.w X.A.in1 it fp n Pi Si) (he : IsEnum s.heap e it ((i : Nat) : Int) old) (st : Si i s.heap) (lt : i < n) (ne : e ≠ it) (ef : e ∉ fp)
    (x : V) (ru : ∀ v, Pi i v → L2.RelV x v) :
    wpAny (model X.prog X.w) X.A (pyNext (.ref e)) (fun r s1 => ∃ u, r = some u ∧ wpAny (model X.prog X.w) X.A (letOwnedTupleGo (.Tuple elts kk tpos) (.ref e) u) (fun _ s2 => ∃ T, u = .ref T ∧ H T = none ∧ Inv X pins σ (upd H T (.tup [.int (i : Nat), x])) s2 ∧ (∃ o, IsEnum s2.heap e it ((i + 1 : Nat) : Int) o) ∧ Si (i + 1) s2.heap ∧ ∀ b ∈ [e, it], upd H T (.tup [.int (i : Nat), x]) b = none) E s1) E s := by
  have el : e < s.heap.objs.size := Heap.lt_size he
  have il : it < s.heap.objs.size := by
    obtain ⟨_, z⟩ := D.live _ _ st
    exact Heap.lt_size z
  refine wpAny_pyNext_enum_itemC D he st lt ne ef fun v g tk pv go st' gT gs gk => ?_
  refine ⟨_, rfl, wpAny_letOwnedTupleGo_enum (s := { s with heap := g, toks := tk + 1 }) go fun g2 ge sb => ?_⟩
  have gT2 : g2.get? s.heap.objs.size = some { cls := .type "tuple", data := .seq #[.int i tk, v] } := (sb.2 _ (Nat.ne_of_gt el)).trans gT
  have nw : ObjOk X.prog X.w (upd H s.heap.objs.size (.tup [.int (i : Nat), x])) g2 s.heap.objs.size (.tup [.int (i : Nat), x]) := ⟨by show 2 ≤ sizeLine; decide, [.int i tk, v], .cons ⟨tk, rfl⟩ (.cons (ru v pv) .nil), ⟨_, gT2, rfl, _, rfl⟩⟩
  have I1 : Inv X pins σ (upd H s.heap.objs.size (.tup [.int (i : Nat), x])) { s with heap := g2, toks := tk + 1 } :=
    I.turnedNew (t' := tk + 1) (ch := [e, it]) (fun b ob nb z => (sb.2 b (fun w => nb (by simp [w]))).trans (gk b ob (fun w => nb (by simp [w])) (fun w => nb (by simp [w])) z)) hf (Nat.le_refl _) nw
  refine ⟨_, rfl, I.hok.fresh (Nat.le_refl _), I1, ⟨v, ?_⟩, D.frame _ _ _ st' fun b hb o z => (sb.2 b fun w => ef (w ▸ hb)).trans z, fun b hb => ?_⟩
  · rw [show ((i + 1 : Nat) : Int) = (i : Int) + 1 by omega]
    exact ge
  · have lb : b < s.heap.objs.size := by
      rcases (show b = e ∨ b = it by simpa using hb) with z | z
      · rw [z]
        exact el
      · rw [z]
        exact il
    rw [upd_ne (Nat.ne_of_lt lb)]
    exact (hf b hb).1
theorem enum_done {X : Cx} {pins : List (Addr × Obj)} {σ : L2.St} {H : Hp} {s : Shared} {e it : Addr} {fp : List Addr} {n : Nat} {Pi : Nat → Value → Prop} {Si : Nat → Heap → Prop} {old : Value} {c : Int} {E : Value → Shared → Prop}
    (I : Inv X pins σ H s) (hf : ∀ b ∈ [e, it], FpOk X pins H b) (D : Draws X.prog X.w X.A.in1 it fp n Pi Si) (he : IsEnum s.heap e it c old) (st : Si n s.heap) :
    wpAny (model X.prog X.w) X.A (pyNext (.ref e)) (fun r s1 => r = none ∧ Inv X pins σ H s1) E s := by
  obtain ⟨f0, f1, f2, f3, f4, f5⟩ := hf it (by simp)
  exact wpAny_pyNext_enum_endD D he st fun g gk => ⟨rfl, I.turned (t' := s.toks) (fun b o hb z => gk b o hb z) f0 f1 f3 f4 f5⟩
theorem turn_enumM {p : Bool} {P : Program} {w : World} {K : PySem.W.Frag} {elts : List Expr} {kk : Nat} {tpos : Pos} (a e it : Addr) (ea : e ≠ a) (ia : a ≠ it) :
    Turn P w K (.Tuple elts kk tpos) (ItEM p K a) [e, it] e (fun i h => (∃ old, IsEnum h e it ((i : Nat) : Int) old) ∧ ItK p h it a i ∧ e ≠ it) where
  mem := by simp
  obj := fun i h st b hb => by
    obtain ⟨⟨old, he⟩, hi, _⟩ := st
    rcases (show b = e ∨ b = it by simpa using hb) with z | z
    · rw [z]
      exact ⟨_, he, fun v q => nomatch q⟩
    · rw [z]
      exact hi.obj
  keep := fun i h h' st k => by
    obtain ⟨⟨old, he⟩, hi, ne⟩ := st
    exact ⟨⟨old, k e (by simp) _ he⟩, hi.at' (fun o z => k it (by simp) o z), ne⟩
  item := by
    intro X hP hw hK hc i pins s σ H E I hf st hg
    subst hP hw hK
    obtain ⟨⟨old, he⟩, hi, ne⟩ := st
    obtain ⟨xs, x, qx, ex⟩ := hg
    obtain ⟨us, rx, kx, _⟩ := sqk_is I qx
    obtain ⟨u, eu, ru⟩ := rx.get ex
    have lu : i < us.toArray.size := by simpa using (List.getElem?_eq_some_iff.mp eu).1
    have hh : X.A.in1.handled = none := I.ok.hd hc
    have key : ∀ v, us.toArray[i]? = some v → L2.RelV x v := fun v pv => by
      have t1 : us.toArray[i]? = some u := by simpa using eu
      have t2 : u = v := Option.some.inj (t1.symm.trans pv)
      exact t2 ▸ ru
    refine thn (enum_item (elts := elts) (kk := kk) (tpos := tpos) (E := E) I hf (drawsK p hh it a ia us.toArray) he ⟨hi, kx⟩ lu ne (by simp [ne, ea]) x key) fun r s1 hr => ?_
    obtain ⟨v, er, hv⟩ := hr
    refine ⟨v, er, thn hv fun _ s2 z => ?_⟩
    obtain ⟨T, eT, nT, I2, ie, si, fr⟩ := z
    subst eT
    exact ⟨.ref T, _, I2, rfl, ⟨T, x, rfl, nT, rfl, fun l hl => by rw [sqk_inj I hl qx]; exact ex⟩, ⟨ie, si.1, ne⟩, fr⟩
  done := by
    intro X hP hw hK hc i pins s σ H E I hf st hg
    subst hP hw hK
    obtain ⟨⟨old, he⟩, hi, ne⟩ := st
    obtain ⟨xs, qx, el⟩ := hg
    obtain ⟨us, rx, kx, _⟩ := sqk_is I qx
    have lx := rx.length
    have hh : X.A.in1.handled = none := I.ok.hd hc
    have hn : us.toArray.size = i := by
      rw [List.size_toArray]
      omega
    exact enum_done I hf (drawsK p hh it a ia us.toArray) he (by rw [hn]; exact ⟨hi, kx⟩)
  self := fun A i s Q E st h => by
    obtain ⟨⟨_, he⟩, _⟩ := st
    exact wpAny_pyIter_enum he h
def iEnumM (K : PySem.W.Frag) (ta : TA) : TI := fun σ H R => ta σ H fun vs H1 => ∃ p a xs, vs = [.ref a] ∧ SqK p K H1 a xs ∧ R (ItEM p K a) H1
theorem pi_enumM {X : Cx} {e : Expr} {ta : TA} {p pos tpos : Pos} {elts : List Expr} {kk : Nat} (hg : Gl X "enumerate") (hm : X.mg "enumerate" = none) (ha : PA X [e] ta) (hs : starEach [e] X.env = [(false, eval e X.env)] := by rfl) :
    PI X (.Tuple elts kk tpos) (.Call (.Name "enumerate" p) [e] [] pos) (iEnumM X.K ta) := by
  constructor
  intro pins s σ H R I h
  refine Call_ (ld_blt I hg hm PyProof.Rows.boot_enumerate (PyProof.Rows.callWith_type1 (thn (ha.run pos pins s σ H _ I h) fun us s1 ⟨vs, H1, I1, r1, q1⟩ => ?_) hs rfl))
  obtain ⟨k1, a, xs, ex, qx, q⟩ := q1
  subst ex
  cases r1 with
  | cons r rr =>
    cases rr
    cases r
    obtain ⟨i1, _, p1, lt1⟩ := sqk_is I1 qx
    obtain ⟨o1, G1, B1, g1, w1⟩ := begK p1
    refine enum_begins1 B1 g1 fun h' he e1 hk => wpAny_pyIter_enum he ?_
    have I2 : Inv X pins σ H1 { s1 with heap := h' } := I1.kept (t' := s1.toks) hk
    refine ⟨s1.heap.objs.size + 1, [s1.heap.objs.size + 1, s1.heap.objs.size], _, _, H1, rfl, I2, turn_enumM a (s1.heap.objs.size + 1) s1.heap.objs.size (Nat.ne_of_gt (Nat.lt_succ_of_lt lt1)) (Nat.ne_of_lt lt1), ⟨⟨.none, he⟩, w1 _ _ e1, Nat.succ_ne_self _⟩, fun b hb => ?_, q⟩
    have lb : s1.heap.objs.size ≤ b := by
      rcases (show b = s1.heap.objs.size + 1 ∨ b = s1.heap.objs.size by simpa using hb) with z | z
      · rw [z]
        exact Nat.le_add_right _ _
      · rw [z]
        exact Nat.le_refl _
    exact I1.fpOk lb (I1.hok.fresh lb)
/-! over a text -/
theorem drawsS {prog : Program} {w : World} {A : Around} (hh : A.handled = none) (it : Addr) (z : Str) (t : Tok) :
    Draws prog w A it [it] z.cps.size (fun i v => ∃ c u, z.cps[i]? = some c ∧ v = .str ⟨#[c]⟩ u) (fun i h => h.IsStrIter it (strIterType z) z t i) := by
  unfold strIterType
  cases z.cps.all (· < 128)
  · exact Draws.strWide hh it z t
  · exact Draws.strAscii hh it z t
theorem turn_enumS {P : Program} {w : World} {K : PySem.W.Frag} {elts : List Expr} {kk : Nat} {tpos : Pos} (z : Str) (t : Tok) (e it : Addr) :
    Turn P w K (.Tuple elts kk tpos) (ItES z) [e, it] e (fun i h => (∃ old, IsEnum h e it ((i : Nat) : Int) old) ∧ h.IsStrIter it (strIterType z) z t i ∧ e ≠ it) where
  mem := by simp
  obj := fun i h st b hb => by
    obtain ⟨⟨old, he⟩, ⟨o, eo, _, d⟩, _⟩ := st
    rcases (show b = e ∨ b = it by simpa using hb) with y | y
    · rw [y]
      exact ⟨_, he, fun v q => nomatch q⟩
    · rw [y]
      exact ⟨o, eo, fun v q => by rw [d] at q; cases q⟩
  keep := fun i h h' st k => by
    obtain ⟨⟨old, he⟩, ⟨o, eo, r⟩, ne⟩ := st
    exact ⟨⟨old, k e (by simp) _ he⟩, ⟨o, k it (by simp) o eo, r⟩, ne⟩
  item := by
    intro X hP hw hK hc i pins s σ H E I hf st hg
    subst hP hw hK
    obtain ⟨⟨old, he⟩, hi, ne⟩ := st
    have lt : i < z.cps.size := hg
    have hh : X.A.in1.handled = none := I.ok.hd hc
    have ec : z.cps[i]? = some z.cps[i] := Array.getElem?_eq_getElem lt
    refine thn (enum_item (elts := elts) (kk := kk) (tpos := tpos) (E := E) I hf (drawsS hh it z t) he hi lt ne (by simp [ne]) (.str ⟨#[z.cps[i]]⟩) (fun v pv => ?_)) fun r s1 hr => ?_
    · obtain ⟨c, u, e1, e2⟩ := pv
      rw [ec] at e1
      cases e1
      subst e2
      exact ⟨u, rfl⟩
    obtain ⟨v, er, hv⟩ := hr
    refine ⟨v, er, thn hv fun _ s2 y => ?_⟩
    obtain ⟨T, eT, nT, I2, ie, si, fr⟩ := y
    subst eT
    exact ⟨.ref T, _, I2, rfl, ⟨T, _, rfl, nT, rfl, ec⟩, ⟨ie, si, ne⟩, fr⟩
  done := by
    intro X hP hw hK hc i pins s σ H E I hf st hg
    subst hP hw hK
    obtain ⟨⟨old, he⟩, hi, ne⟩ := st
    have el : z.cps.size = i := hg
    have hh : X.A.in1.handled = none := I.ok.hd hc
    exact enum_done I hf (drawsS hh it z t) he (by rw [el]; exact hi)
  self := fun A i s Q E st h => by
    obtain ⟨⟨_, he⟩, _⟩ := st
    exact wpAny_pyIter_enum he h
def iEnumS (ta : TA) : TI := fun σ H R => ta σ H fun vs H1 => ∃ z, vs = [.str z] ∧ R (ItES z) H1
theorem pi_enumS {X : Cx} {e : Expr} {ta : TA} {p pos tpos : Pos} {elts : List Expr} {kk : Nat} (hg : Gl X "enumerate") (hm : X.mg "enumerate" = none) (ha : PA X [e] ta) (hs : starEach [e] X.env = [(false, eval e X.env)] := by rfl) :
    PI X (.Tuple elts kk tpos) (.Call (.Name "enumerate" p) [e] [] pos) (iEnumS ta) := by
  constructor
  intro pins s σ H R I h
  refine Call_ (ld_blt I hg hm PyProof.Rows.boot_enumerate (PyProof.Rows.callWith_type1 (thn (ha.run pos pins s σ H _ I h) fun us s1 ⟨vs, H1, I1, r1, q1⟩ => ?_) hs rfl))
  obtain ⟨z, ex, q⟩ := q1
  subst ex
  cases r1 with
  | cons r rr =>
    cases rr
    obtain ⟨t, rfl⟩ := r
    refine enum_begins1 (begins_text z t) trivial fun h' he e1 hk => wpAny_pyIter_enum he ?_
    have I2 : Inv X pins σ H1 { s1 with heap := h' } := I1.kept (t' := s1.toks) hk
    refine ⟨s1.heap.objs.size + 1, [s1.heap.objs.size + 1, s1.heap.objs.size], _, _, H1, rfl, I2, turn_enumS z t (s1.heap.objs.size + 1) s1.heap.objs.size, ⟨⟨.none, he⟩, ⟨_, e1, rfl, rfl⟩, Nat.succ_ne_self _⟩, fun b hb => ?_, q⟩
    have lb : s1.heap.objs.size ≤ b := by
      rcases (show b = s1.heap.objs.size + 1 ∨ b = s1.heap.objs.size by simpa using hb) with y | y
      · rw [y]
        exact Nat.le_add_right _ _
      · rw [y]
        exact Nat.le_refl _
    exact I1.fpOk lb (I1.hok.fresh lb)
end Z
set_option Elab.async false
set_option linter.all false
set_option maxRecDepth 100000
set_option maxHeartbeats 4000000
namespace Z
open PySem PySem.Spec PyProof.Rows L2
/-! ### walks over a list (true) or a tuple (false) -/
inductive SeqOr (A B : Prop) : Prop
  | l : A → SeqOr A B
  | r : B → SeqOr A B
def iSeq (K : PySem.W.Frag) (tl : TE) : TI := fun σ H R => SeqOr (iList K tl σ H R) (iTup K tl σ H R)
theorem pi_sq {X : Cx} {tg l : Expr} {tl : TE} (he : PE X l tl) : PI X tg l (iSeq X.K tl) := by
  constructor
  intro pins s σ H R I h
  rcases h with h | h
  · exact (pi_list he).run pins s σ H R I h
  · exact (pi_tup he).run pins s σ H R I h
theorem pi_sq_K {X : Cx} {K : PySem.W.Frag} {tg l : Expr} {tl : TE} (h : X.K = K) (he : PE X l tl) : PI X tg l (iSeq K tl) := by
  subst h
  exact pi_sq he
theorem pi_list_K {X : Cx} {K : PySem.W.Frag} {tg l : Expr} {tl : TE} (h : X.K = K) (he : PE X l tl) : PI X tg l (iList K tl) := by
  subst h
  exact pi_list he
theorem pi_tup_K {X : Cx} {K : PySem.W.Frag} {tg l : Expr} {tl : TE} (h : X.K = K) (he : PE X l tl) : PI X tg l (iTup K tl) := by
  subst h
  exact pi_tup he
def ItQ (b : Bool) (K : PySem.W.Frag) (a : Addr) : It := match b with
  | true => Itl K a
  | false => Itt K a
theorem itq_go {b : Bool} {K : PySem.W.Frag} {H : Hp} {a : Addr} {xs : List V} {i : Nat} {x : V} (h : SqK b K H a xs) (e : xs[i]? = some x) : (ItQ b K a).go i H := by
  cases b <;> exact ⟨_, _, h, e⟩
theorem itq_stop {b : Bool} {K : PySem.W.Frag} {H : Hp} {a : Addr} {xs : List V} {i : Nat} (h : SqK b K H a xs) (e : xs.length ≤ i) : (ItQ b K a).stop i H := by
  cases b <;> exact ⟨_, h, e⟩
theorem itq_yld {b : Bool} {K : PySem.W.Frag} {H H' : Hp} {a : Addr} {xs : List V} {i : Nat} {x : V} (h : SqK b K H a xs) (y : (ItQ b K a).yld i H x H') : H' = H ∧ xs[i]? = some x := by
  cases b <;> exact ⟨y.1, y.2 _ h⟩
theorem rd_sq {b : Bool} {K : PySem.W.Frag} {σ : L2.St} {H : Hp} {i : Nat} {a : Addr} {xs : List V} {R : It → Hp → Prop} (e : σ[i]? = some (some (.ref a))) (h : SqK b K H a xs) (r : R (ItQ b K a) H) : iSeq K (tVar i) σ H R := by
  cases b
  · exact .r ⟨_, e, a, rfl, ⟨xs, h⟩, r⟩
  · exact .l ⟨_, e, a, rfl, ⟨xs, h⟩, r⟩
theorem lc_sq {b : Bool} {K : PySem.W.Frag} {a D : Addr} {xs : List Int} {H0 : Hp} {i : Nat} {te : TE} {vs : List Nat} {σ : L2.St} {Qd : Hp → Prop} (hS : SqK b K H0 a (xs.map V.int)) (g : Int → Int) (hn : xs.length ≤ 1000000) (nD : H0 D = none) (hw : ∀ x : Int, wipe ((wipe σ vs).set i (some (.int x))) vs = wipe σ vs)
    (ht : ∀ x H1 (Q : VK), x ∈ xs → Same H0 H1 → (∀ H2, Same H1 H2 → Q (.int (g x)) H2) → te ((wipe σ vs).set i (some (.int x))) H1 Q)
    (hd : ∀ H1, Same H0 H1 → H1 D = some (.lst ((xs.map g).map V.int)) → Qd H1) : lcW (ItQ b K a) (gName i) tYes te vs σ D Qd H0 := by
  have ex : ∀ k, k < xs.length → (xs.map V.int)[k]? = some (.int (xs.getD k 0)) := fun k hk => by
    rw [List.getElem?_map, List.getD_eq_getElem?_getD, List.getElem?_eq_getElem hk]
    rfl
  refine lc_ofs (K := K) (n := xs.length) (fun k => g (xs.getD k 0)) (fun k => .int (xs.getD k 0)) hn nD (fun k H1 hk s => itq_go (Z.Same.sqK s hS) (ex k hk)) (fun H1 s => itq_stop (Z.Same.sqK s hS) (by rw [List.length_map]; exact Nat.le_refl _)) (fun k H1 x H2 hk s y => ?_) (fun k => hw _) (fun k H1 Q hk s q => ht _ H1 Q ?_ s q) (fun H1 s e => hd H1 s ?_)
  · obtain ⟨e1, e2⟩ := itq_yld (Z.Same.sqK s hS) y
    exact ⟨e1, Option.some.inj (e2.symm.trans (ex k hk))⟩
  · rw [List.getD_eq_getElem?_getD, List.getElem?_eq_getElem hk]
    exact List.getElem_mem hk
  · rw [e]
    congr 2
    congr 1
    apply List.ext_getElem
    · rw [List.length_map, List.length_map, List.length_range]
    · intro k h1 h2
      rw [List.length_map] at h2
      rw [List.getElem_map, List.getElem_map, List.getElem_range, List.getD_eq_getElem?_getD, List.getElem?_eq_getElem h2]
      rfl
/-- for x in xs, any values -/
theorem for_sq {b : Bool} {K : PySem.W.Frag} {a : Addr} {xs : List V} {H0 H : Hp} {i : Nat} {tb : TS} {D : Ends} {σ : L2.St} (hS : SqK b K H0 a xs) (Pv : Nat → L2.St → Hp → Prop) (h0 : Pv 0 σ H) (hq : ∀ k σ H1, Pv k σ H1 → Same H0 H1)
    (hs : ∀ (k : Nat) (x : V) (σ : L2.St) (H1 : Hp), xs[k]? = some x → Pv k σ H1 → tb { D with nx := Pv (k + 1), ct := Pv (k + 1), bk := D.nx } (σ.set i (some x)) H1)
    (hd : ∀ σ H1, Pv xs.length σ H1 → D.nx σ H1) : forW (ItQ b K a) (gName i) tb D σ H := by
  refine for_gen (n := xs.length) Pv h0 (fun k σ H1 hk p => itq_go (Z.Same.sqK (hq k σ H1 p) hS) (List.getElem?_eq_getElem hk)) (fun σ H1 p => itq_stop (Z.Same.sqK (hq _ σ H1 p) hS) (Nat.le_refl _)) ?_ hd
  intro k σ H1 x H2 hk p y
  obtain ⟨rfl, e⟩ := itq_yld (Z.Same.sqK (hq k σ H1 p) hS) y
  exact hs k x σ _ e p
/-- for i, x in enumerate(xs) -/
theorem for_enum {b : Bool} {K : PySem.W.Frag} {a : Addr} {xs : List V} {H0 H : Hp} {i j : Nat} {tb : TS} {D : Ends} {σ : L2.St} (hS : SqK b K H0 a xs) (Pv : Nat → L2.St → Hp → Prop) (h0 : Pv 0 σ H) (hq : ∀ k σ H1, Pv k σ H1 → Same H0 H1)
    (hs : ∀ (k : Nat) (x : V) (σ : L2.St) (H1 H2 : Hp), xs[k]? = some x → Pv k σ H1 → Same H1 H2 → tb { D with nx := Pv (k + 1), ct := Pv (k + 1), bk := D.nx } ((σ.set i (some (.int (k : Nat)))).set j (some x)) H2)
    (hd : ∀ σ H1, Pv xs.length σ H1 → D.nx σ H1) : forW (ItEM b K a) (gTup K 2 (gCons (gName i) (gCons (gName j) gNil))) tb D σ H := by
  refine for_gen (n := xs.length) Pv h0 (fun k σ H1 hk p => ⟨xs, _, Z.Same.sqK (hq k σ H1 p) hS, List.getElem?_eq_getElem hk⟩) (fun σ H1 p => ⟨xs, Z.Same.sqK (hq _ σ H1 p) hS, rfl⟩) ?_ hd
  intro k σ H1 x H2 hk p y
  obtain ⟨T, z, rfl, nT, rfl, e⟩ := y
  exact ⟨T, _, rfl, SqT.of upd_same, rfl, _, _, rfl, _, _, rfl, rfl, hs k z σ H1 _ (e _ (Z.Same.sqK (hq k σ H1 p) hS)) p (same_new nT)⟩
/-- for i, c in enumerate(text) -/
theorem for_enumS {K : PySem.W.Frag} {z : Str} {H : Hp} {i j : Nat} {tb : TS} {D : Ends} {σ : L2.St} (Pv : Nat → L2.St → Hp → Prop) (h0 : Pv 0 σ H)
    (hs : ∀ (k : Nat) (c : Nat) (σ : L2.St) (H1 H2 : Hp), z.cps[k]? = some c → Pv k σ H1 → Same H1 H2 → tb { D with nx := Pv (k + 1), ct := Pv (k + 1), bk := D.nx } ((σ.set i (some (.int (k : Nat)))).set j (some (.str ⟨#[c]⟩))) H2)
    (hd : ∀ σ H1, Pv z.cps.size σ H1 → D.nx σ H1) : forW (ItES z) (gTup K 2 (gCons (gName i) (gCons (gName j) gNil))) tb D σ H := by
  refine for_gen (n := z.cps.size) Pv h0 (fun k σ H1 hk p => hk) (fun σ H1 p => rfl) ?_ hd
  intro k σ H1 x H2 hk p y
  obtain ⟨T, c, rfl, nT, rfl, e⟩ := y
  exact ⟨T, _, rfl, SqT.of upd_same, rfl, _, _, rfl, _, _, rfl, rfl, hs k c σ H1 _ e p (same_new nT)⟩
/-! ### built-ins within a comprehension's block -/
theorem cr_min_K {X : Cx} {K : PySem.W.Frag} (h : X.K = K) (hc : X.calm = true) : CallR X (.builtin "min") (rMin K) := by
  subst h
  exact cr_min hc
theorem cr_max_K {X : Cx} {K : PySem.W.Frag} (h : X.K = K) (hc : X.calm = true) : CallR X (.builtin "max") (rMax K) := by
  subst h
  exact cr_max hc
theorem cr_sum_K {X : Cx} {K : PySem.W.Frag} (h : X.K = K) (hc : X.calm = true) : CallR X (.builtin "sum") (rSum K) := by
  subst h
  exact cr_sum hc
theorem cr_all_K {X : Cx} {K : PySem.W.Frag} (h : X.K = K) (hc : X.calm = true) : CallR X (.builtin "all") (rAll K) := by
  subst h
  exact cr_all hc
theorem cr_any_K {X : Cx} {K : PySem.W.Frag} (h : X.K = K) (hc : X.calm = true) : CallR X (.builtin "any") (rAny K) := by
  subst h
  exact cr_any hc
/-! ### comprehensions with a test, any values -/
def fltL (kb : Nat → Bool) (g : Nat → V) (n : Nat) : List V := ((List.range n).filter kb).map g
theorem flt_succ (kb : Nat → Bool) (g : Nat → V) (n : Nat) : fltL kb g (n + 1) = fltL kb g n ++ (if kb n then [g n] else []) := by
  unfold fltL
  rw [List.range_succ, List.filter_append, List.map_append]
  cases e : kb n <;> simp [e]
theorem flt_len (kb : Nat → Bool) (g : Nat → V) (n : Nat) : (fltL kb g n).length ≤ n := by
  unfold fltL
  rw [List.length_map]
  exact Nat.le_trans (List.length_filter_le ..) (by rw [List.length_range]; exact Nat.le_refl _)
theorem lc_flt {J : It} {D : Addr} {n : Nat} {H0 : Hp} {i : Nat} {tt : TT} {te : TE} {vs : List Nat} {σ : L2.St} {Qd : Hp → Prop} (xv : Nat → V) (kb : Nat → Bool) (g : Nat → V) (hn : n ≤ 1000000) (nD : H0 D = none)
    (hgo : ∀ k H1, k < n → Same H0 H1 → J.go k H1) (hst : ∀ H1, Same H0 H1 → J.stop n H1) (hy : ∀ k H1 x H2, k < n → Same H0 H1 → J.yld k H1 x H2 → Same H1 H2 ∧ x = xv k)
    (hw : ∀ k, wipe ((wipe σ vs).set i (some (xv k))) vs = wipe σ vs)
    (hb : ∀ k H1 (Q : Bool → Hp → Prop), k < n → Same H0 H1 → (∀ H2, Same H1 H2 → Q (kb k) H2) → tt ((wipe σ vs).set i (some (xv k))) H1 Q)
    (ht : ∀ k H1 (Q : VK), k < n → kb k = true → Same H0 H1 → (∀ H2, Same H1 H2 → Q (g k) H2) → te ((wipe σ vs).set i (some (xv k))) H1 Q)
    (hd : ∀ H1, Same H0 H1 → H1 D = some (.lst (fltL kb g n)) → Qd H1) : lcW J (gName i) tt te vs σ D Qd H0 := by
  refine lc_gen (n := n) (fun k H1 => Same H0 H1 ∧ H1 D = some (.lst (fltL kb g k))) ⟨same_new nD, upd_same⟩ (fun k H1 hk p => hgo k H1 hk p.1) (fun H1 p => hst H1 p.1) ?_ (fun H1 p => hd H1 p.1 p.2)
  rintro k H1 x H2 hk ⟨s, e⟩ y
  obtain ⟨s2, rfl⟩ := hy k H1 x H2 hk s y
  refine ⟨hw k, ?_⟩
  refine hb k _ _ hk (s.trans s2) (fun H3 s3 => ?_)
  cases eb : kb k
  · rw [if_neg (by decide)]
    refine ⟨s.trans (s2.trans s3), ?_⟩
    rw [flt_succ, eb]
    simpa using s3 _ _ (s2 _ _ e)
  · rw [if_pos rfl]
    refine ht k _ _ hk eb (s.trans (s2.trans s3)) (fun H4 s4 => ⟨_, s4 _ _ (s3 _ _ (s2 _ _ e)), ?_, Z.Same.mut (s.trans (s2.trans (s3.trans s4))) nD, ?_⟩)
    · exact Nat.lt_of_le_of_lt (flt_len kb g k) (Nat.lt_of_lt_of_le hk (Nat.le_trans hn (by decide)))
    · rw [upd_same, flt_succ, eb]
      rfl
end Z
set_option Elab.async false
set_option linter.all false
set_option maxRecDepth 100000
set_option maxHeartbeats 4000000
namespace Z
open PySem PySem.Spec PyProof.Rows L2
/-! ### o.f as one of several targets -/
theorem asg_attr {M : Model} {A : Around} {E : Value → Shared → Prop} {s : Shared} {o : Expr} {attr : Str} {pos : Pos} {env : Env} {v : Value} {Q : Unit → Shared → Prop}
    (h : wpAny M A (eval o env) (fun ov s2 => wpAny M A (setAttr ov attr v) (fun _ => Q ()) E s2) E s) : wpAny M A (assign (.Attribute o attr pos) env v) Q E s := fun Γ p hΓ => by
  simp only [assign_Attribute, Sem.wp_bind', Sem.wp_holding, Sem.wp_cmd_standAt, Sem.wp_release, Sem.wp_pure']
  exact Sem.wp_mono M Γ _ (fun ov _ s2 h2 => h2 Γ _ hΓ) (fun _ _ _ z => z) _ _ (h Γ _ hΓ)
def gFld (K : PySem.W.Frag) (ta : TE) (f : Str) : TG := fun v σ H Q => ta σ H fun x H1 => ∃ a C dx fs, x = .ref a ∧ H1 a = some (.ins C dx fs) ∧ Cls K C ∧ NoAttr K C f ∧ fs.length < 1000 ∧ Q σ (upd H1 a (.ins C dx (putF f v fs)))
theorem pg_fld {X : Cx} {o : Expr} {f : Str} {pos : Pos} {ta : TE} (ha : PE X o ta) : PG X (.Attribute o f pos) (gFld X.K ta f) := by
  constructor
  intro pins s σ H v u Q I r h
  refine asg_attr (thn (ha.run pins s σ H _ I h) fun ov s1 ⟨x, H1, I1, rx, a, C, dx, fs, ex, ea, c, n, l, q⟩ => ?_)
  subst ex
  obtain rfl : ov = Value.ref a := rx
  exact setattr_ok I1 ea c n l r fun s2 I2 => ⟨σ, _, I2, q⟩
/-! ### a if c else b as a test -/
def tIfT (tc ta tb : TT) : TT := fun σ H Q => tc σ H fun k H1 => if k = true then ta σ H1 Q else tb σ H1 Q
theorem pt_ifExp {X : Cx} {c a b : Expr} {pos : Pos} {tc ta tb : TT} (hc : PT X c tc) (ha : PT X a ta) (hb : PT X b tb) : PT X (.IfExp c a b pos) (tIfT tc ta tb) := by
  constructor
  intro pins s σ H Q I h
  refine PyProof.Rows.isTrue_IfExp (thn (hc.run pins s σ H _ I h) fun d s1 ⟨H1, I1, q1⟩ => ?_)
  cases d with
  | true => exact ha.run pins s1 σ H1 Q I1 q1
  | false => exact hb.run pins s1 σ H1 Q I1 q1
end Z
set_option Elab.async false
set_option linter.all false
set_option maxRecDepth 100000
set_option maxHeartbeats 4000000
namespace Z
open PySem PySem.Spec PyProof PyProof.Rows L2 F
/-! ### len(x), x an instance of a class with __len__ -/
structure LenO (P : Program) (w : World) (K : PySem.W.Frag) (mg : Str → Option Value) (base : Heap) (k : Nat) (C : Addr) (sp : Sp) : Prop where
  ex : ∃ (f : Addr) (fd : FuncData) (ps : List Str), FnOk P w K mg base CX0 k f fd ps sp ∧ PySem.W.findIn K (.ref C) "__len__" = some (some (.ref f)) ∧ PySem.W.isFn K (.ref f) = true ∧ Binds K fd ps []
def rLenO (C : Addr) (sp : Sp) : List V → Hp → VK → Prop := fun xs H Q => ∃ a dx fs, xs = [.ref a] ∧ H a = some (.ins C dx fs) ∧ sp [.ref a] H (fun v H' => ∃ n : Int, v = .int n ∧ 0 ≤ n ∧ n < 2 ^ 63 ∧ Q (.int n) H') E0
theorem call_lenO {X : Cx} {k j : Nat} {C : Addr} {sp : Sp} (c : LenO X.prog X.w X.K X.mg X.base k C sp) (hr : Room j X.A) (hk : k + 1 ≤ j) : CallR X (.builtin "len") (rLenO C sp) := by
  intro pins s σ H xs us Q I r h
  obtain ⟨f, fd, ps, F, hs, hf, hb⟩ := c.ex
  obtain ⟨a, dx, fs, rfl, ha, q⟩ := h
  obtain ⟨u, rfl, ru⟩ := vals1 r
  obtain rfl : u = Value.ref a := ru
  obtain ⟨mA, J, _⟩ := ins_get I.hok ha
  obtain ⟨od, J, _⟩ := J.look
  refine Calls.call_function_entry kind_len plain_len entry_len (args_len1 _) ?_
  unfold Builtin.«len»
  refine wpAny_bind (m := oneArg "len" _) (wpAny_pure ?_)
  have e0 : Env0 X.prog X.w X.K X.mg X.base X.A.in1 X.stack s H := by
    have e := I.env0
    exact ⟨e.frames, e.mod, e.bs, e.bsz, e.funs, e.frf, e.hok, e.bare⟩
  refine wpAny_bind (m := callSpecial? (.ref a) (PySem.Str.ofString "__len__")) (PySem.W.special_fn (name := "__len__") (args := []) I.kIn J hs (beq_iff_eq.mp hf) ?_)
  have hl := F.len _ _ _ _ q
  refine wpAny_call (codeAny_mono (F.run X.A.in1 X.stack s H ⟨[.ref a], []⟩ [.ref a] [.ref a] _ E0 (hr.mono hk).in1 e0 (by
    have := hb s [.ref a] I.kIn (by simpa using hl)
    simpa using this) (.cons rfl .nil) q) fun r s' hq => ?_)
  cases r with
  | error e => exact pass0 pins σ H s e s' I hq
  | ok fl =>
    cases fl with
    | next => exact False.elim hq
    | brk => exact False.elim hq
    | cont => exact False.elim hq
    | ret u =>
      obtain ⟨v, H1, I1, rv, n, rfl, h0, h1, q1⟩ := I.after hq
      obtain ⟨t, rfl⟩ := rv
      refine wpAny_bind (wpAny_holding (wpAny_pure ?_))
      refine wpAny_bind (wpAny_letGo ?_)
      show wpAny _ _ (if n < 0 then _ else _) _ _ _
      rw [if_neg (by omega)]
      show wpAny _ _ (if n ≥ 2 ^ 63 then _ else _) _ _ _
      rw [if_neg (by omega)]
      exact wpAny_bind (wpAny_mkInt (wpAny_pure ⟨_, rfl, .int n, H1, I1.tok _, ⟨_, rfl⟩, q1⟩))
end Z
set_option Elab.async false
set_option linter.all false
set_option maxRecDepth 100000
set_option maxHeartbeats 4000000
namespace L2N
open PySem PySem.Spec PyProof.Rows L2
/-! ### several clauses `except c as n` -/
/-- a clause: its class, the slot of its name, its suite's reading -/
abbrev Cl := Value × Nat × (Addr → Value → Option Addr → TS)
def wManyA (K : PySem.W.Frag) (Wout : WX) (D : Ends) : List Cl → WX
  | [] => Wout
  | h :: r => wAs K h.1 h.2.1 h.2.2 (wManyA K Wout D r) D
inductive HdsA (X : Cx) : List ExceptHandler → List Cl → Prop
  | nil : HdsA X [] []
  | cons {x n : Str} {c : Value} {i : Nat} {ts : Addr → Value → Option Addr → TS} {b₀ : Stmt} {suite : List Stmt} {np pos' : Pos} {hds : List ExceptHandler} {l : List Cl} (hi : X.N[i]? = some n) (hln : X.env.kindOf n = some .local) (hc : Names X x c)
      (hsu : ∀ (a : Addr) (oe : Obj) (cls : Value) (d : Option Addr) (pn : List (Addr × Obj)), Zn cls d oe → (∃ vs, oe.data = .fields vs) → PSs (X.suite a ((a, oe) :: pn)) (b₀ :: suite) (ts a cls d)) (r : HdsA X hds l) :
      HdsA X (.ExceptHandler (some (.Name x np)) (some n) (b₀ :: suite) pos' :: hds) ((c, i, ts) :: l)
section
variable {X : Cx} {body : List Stmt} {h₀ : ExceptHandler} {hds : List ExceptHandler} {l : List Cl} {pos : Pos} {tb : WX → TS} {Wout : WX}
theorem ps_try_manyA (hs : X.stack = X.env :: X.outer) (hf : X.env.frame = some X.env.locals) (hN : X.N.Nodup) (tk : Takes X Wout)
    (hb : ∀ (W : WX) (pn : List (Addr × Obj)) (xe : Value → Shared → Prop), Takes (X.tr pn xe) W → PassesOwn (model X.prog X.w) X.A X.env xe → PSs (X.tr pn xe) body (tb W))
    (hh : HdsA X (h₀ :: hds) l) : PS X (.Try body (h₀ :: hds) [] [] pos) (fun D σ H => tb (wManyA X.K Wout D l) D σ H) := by
  refine ⟨fun pins s σ H D I h => ?_⟩
  have ok := I.ok
  have hfr : X.A.frames = some (X.env :: X.outer) := by rw [ok.frames, hs]
  have calm : ∀ (f : Flow) (s1 : Shared) , SP (X.tr (X.pn ++ pins) (fun e s₁ => wpAny (model X.prog X.w) X.A (noteFrame e X.env) (fun _ s₂ => wpAny (model X.prog X.w) X.A (setFlight e none) (fun _ s₃ =>
      wpAny (model X.prog X.w) X.A (handleBy e X.env (h₀ :: hds)) (SP X pins D) X.xe s₃) X.xe s₂) X.xe s₁)) [] D f s1 → SP X pins D f s1 := fun f s1 hsp => by
    cases f with
    | next =>
      obtain ⟨σ', H', J', q⟩ := hsp
      exact ⟨σ', H', J'.ofTry ok, q⟩
    | brk =>
      obtain ⟨σ', H', J', q⟩ := hsp
      exact ⟨σ', H', J'.ofTry ok, q⟩
    | cont =>
      obtain ⟨σ', H', J', q⟩ := hsp
      exact ⟨σ', H', J'.ofTry ok, q⟩
    | ret u =>
      obtain ⟨v, σ', H', J', r, q⟩ := hsp
      exact ⟨v, σ', H', J'.ofTry ok, r, q⟩
  refine wpAny_Try_except ?_
  refine wpAny_mono ((hb (wManyA X.K Wout D l) (X.pn ++ pins) (fun e s₁ => wpAny (model X.prog X.w) X.A (noteFrame e X.env) (fun _ s₂ => wpAny (model X.prog X.w) X.A (setFlight e none) (fun _ s₃ =>
    wpAny (model X.prog X.w) X.A (handleBy e X.env (h₀ :: hds)) (SP X pins D) X.xe s₃) X.xe s₂) X.xe s₁) (fun u s' xx => ?_) PassesOwn.looking).run [] s σ H D (I.toTry _) h) (fun f s1 hsp => ?_) (fun e s1 he => he)
  · obtain ⟨a, B, sI, pins', σ', H', cls, d, rfl, J', nb, up, sky, na, os, ag, w⟩ := xx
    have J : Inv X pins σ' H' sI := J'.ofTry ok
    have sky' : Sky B (X.env :: X.outer) a (Zn cls d) X.env.locals s'.heap := by rw [← hs]; exact sky
    show wpAny (model X.prog X.w) X.A (noteFrame (.ref a) X.env) _ _ _
    refine Sky.land Zn.steady hfr hf sky' fun h3 fl3 up3 => ?_
    have J3 : Inv X pins σ' H' { s' with heap := h3 } := J.landed nb fl3.1 (up.trans up3) os ag
    obtain ⟨oe3, vs3, he3, hz3, hd3⟩ := fl3.there
    have nfr : a ∉ frs (X.env :: X.outer) := fun hm => by
      obtain ⟨_, o', e', hnf⟩ := fl3.2.2.1.mem hm
      rw [he3] at e'
      cases e'
      exact hnf _ hd3
    have nL : a ≠ X.env.locals := fun z => nfr (List.mem_filterMap.mpr ⟨X.env, List.mem_cons_self, by rw [hf, z]⟩)
    have nF : a ∉ X.fs := fun hm => by
      obtain ⟨e, he, q⟩ := List.mem_filterMap.mp hm
      exact nfr (List.mem_filterMap.mpr ⟨e, List.mem_cons_of_mem _ he, q⟩)
    have S3 := J3.suite he3 hd3 na nL nF
    have go : ∀ {hds' : List ExceptHandler} {l' : List Cl}, HdsA X hds' l' → wManyA X.K Wout D l' cls d σ' H' →
        wpAny (model X.prog X.w) X.A (handleBy (.ref a) X.env hds') (SP X pins D) X.xe { s' with heap := h3 } := by
      intro hds' l' hk
      induction hk with
      | nil =>
        intro w
        refine wpAny_handleBy_nil ?_
        obtain ⟨k1, k2, k3, oe, vs, T, oT, ts', he, hz, hd, h1, hr⟩ := id fl3
        unfold PySem.passOn
        refine wpAny_bind (wpAny_field he hd h1 ?_)
        rw [if_neg (show ¬ ((Value.ref T == Value.none) = true) from by simp)]
        have fin : wpAny (model X.prog X.w) X.A (setFlight (.ref a) X.env.frame) (fun _ s4 => wpAny (model X.prog X.w) X.A (throw (.ref a) : Sem Flow) (SP X pins D) X.xe s4) X.xe { s' with heap := h3 } := by
          rw [hf]
          refine HandSPX.setFlight_upZ fl3 fun h4 hh4 up4 => wpAny_throw (tk _ _ ?_)
          exact ⟨a, B, sI, pins, σ', H', cls, d, rfl, J, nb, (up.trans up3).trans up4, .inr (.inr (by rw [hs]; exact hh4)), na, os, ag, w⟩
        first
          | exact wpAny_bind (wpAny_pure (wpAny_bind fin))
          | exact wpAny_bind fin
      | @cons x n c i ts b₀ suite np pos' hds2 l2 hi hln hc hsu r ih =>
        intro w
        obtain ⟨b, hb1, hyes, hno⟩ := w
        have hloc : Loc X.env.scope n := .inl hln
        refine wpAny_handleBy_cons (codeAny_handlers_test ?_) (by intro q; cases q)
        have LT : PySem.W.Looks (model X.prog X.w) h3 (typeOf (.ref a)) cls := fun A Q E s k q => wpAny_typeOf_ref (k _ _ he3) (by rw [hz3.1]; exact q)
        have LM := PySem.W.exm_one (M := model X.prog X.w) (J3.kIn) LT hb1
        have test : ∀ {Q : Value → Shared → Prop} {E : Value → Shared → Prop}, Q c { s' with heap := h3 } → wpAny (model X.prog X.w) (X.A.mark (some (.ref a))) (eval (.Name x np) X.env) Q E { s' with heap := h3 } := fun {Q E} q => by
          obtain ⟨hg, hdbg, hm | ⟨hm, hv, hnn⟩⟩ := hc
          · exact ld_glob (X := X.suite a ((a, oe3) :: (X.pn ++ pins))) S3 hg hm q hdbg
          · exact ld_blt (X := X.suite a ((a, oe3) :: (X.pn ++ pins))) S3 hg hm hv q hnn hdbg
        refine test (LM.here ?_)
        cases b with
        | true =>
          refine codeAny_handlers_suite_as ?_
          refine HandSPX.lands_againZ fl3 fun h4 fl4 up4 => ?_
          have J4 : Inv X pins σ' H' { s' with heap := h4 } := J.landed nb fl4.1 ((up.trans up3).trans up4) os ag
          obtain ⟨oe4, vs4, he4, hz4, hd4⟩ := fl4.there
          have S4 := J4.suite he4 hd4 na nL nF
          refine store_ok (X := X.suite a ((a, oe4) :: (X.pn ++ pins))) (v := .ref a) S4 hN hi hloc rfl (fun s5 S5 => ?_) (.inr hln)
          refine wpAny_mono ((hsu a oe4 cls d (X.pn ++ pins) hz4 ⟨_, hd4⟩).run [] s5 _ H' _ S5 (hyes rfl a na)) (fun f s6 hsp => ?_) (fun _ _ z => False.elim z)
          have end_ : ∀ {σ6 : L2.St} {H6 : Hp} {Q : Shared → Prop}, Inv (X.suite a ((a, oe4) :: (X.pn ++ pins))) [] σ6 H6 s6 → (∀ s7, Inv X pins (σ6.set i none) H6 s7 → Q s7) →
              wpAny (model X.prog X.w) X.A (do bindName X.env n .none; unbindBehindTheSuite X.env n pos') (fun _ s7 => Q s7) X.xe s6 := fun {σ6 H6 Q} S6 hq => gone_ok (S6.unsuite ok) hN hi hln hq
          cases f with
          | next =>
            obtain ⟨σ6, H6, S6, q6⟩ := hsp
            exact end_ S6 fun s7 J7 => ⟨_, _, J7, q6⟩
          | brk =>
            obtain ⟨σ6, H6, S6, q6⟩ := hsp
            exact end_ S6 fun s7 J7 => ⟨_, _, J7, q6⟩
          | cont =>
            obtain ⟨σ6, H6, S6, q6⟩ := hsp
            exact end_ S6 fun s7 J7 => ⟨_, _, J7, q6⟩
          | ret u =>
            obtain ⟨v6, σ6, H6, S6, r6, q6⟩ := hsp
            exact end_ S6 fun s7 J7 => ⟨_, _, _, J7, r6, q6⟩
        | false =>
          show wpAny _ X.A (handleBy (.ref a) X.env hds2) _ _ _
          exact ih (hno rfl)
    exact go hh w
  · cases f with
    | next => exact wpAny_execs_nil (calm .next s1 hsp)
    | brk => exact calm .brk s1 hsp
    | cont => exact calm .cont s1 hsp
    | ret u => exact calm (.ret u) s1 hsp
end
end L2N
set_option Elab.async false
set_option linter.all false
set_option maxRecDepth 100000
set_option maxHeartbeats 4000000
namespace Z
open PySem PySem.Spec PyProof.Rows L2
/-! ### f(e, .., k = v), what is raised at the slots -/
structure CalKX (P : Program) (w : World) (K : PySem.W.Frag) (mg : Str → Option Value) (base : Heap) (k : Nat) (x : Str) (n : Nat) (ks : List Str) (gV : List V → List V → List V) (sp : Sp) : Prop where
  ex : ∃ (f : Addr) (fd : FuncData) (ps : List Str) (g : List Value → List Value → List Value), FnOk P w K mg base (L2N.CX P w) k f fd ps sp ∧ mg x = some (.ref f) ∧ PySem.W.keepIn K (.ref f) = true ∧ KBn K fd ps n ks g gV
def tClKW (n m : Nat) (sp : Sp) (gV : List V → List V → List V) (E : L2.St → XK) (t tk : TA) : TE := fun σ H Q => t σ H fun vs H1 => tk σ H1 fun zs H2 => vs.length = n ∧ zs.length = m ∧ sp (gV vs zs) H2 Q (E σ)
section
variable {X : Cx} {k j n : Nat} {x : Str} {sp : Sp} {ks : List Str} {gV : List V → List V → List V} {p pos : Pos} {e : Expr} {es : List Expr} {kws : List Keyword} {t tk : TA} {E : L2.St → XK}
theorem pe_clKE (c : CalKX X.prog X.w X.K X.mg X.base k x n ks gV sp) (hx : ∀ σ, PassesAt (L2N.CX X.prog X.w) X σ (E σ)) (hr : Room j X.A) (hk : k ≤ j) (hg : Gl X x) (ha : PA X (e :: es) t) (hkw : PK X kws tk)
    (hall : (backToKw pos (keywordEach kws X.env)).all (·.1.isSome) = true := by rfl) (hks : (backToKw pos (keywordEach kws X.env)).filterMap (·.1) = ks := by rfl) (hdb : (x == ("__debug__" : Str)) = false := by decide)
    (he : starEach (e :: es) X.env = (false, eval e X.env) :: starEach es X.env := by rfl) (hpl : ((backTo pos (starEach (e :: es) X.env)).any (·.1) || (backToKw pos (keywordEach kws X.env)).any (·.1.isNone)) = false := by rfl) :
    PE X (.Call (.Name x p) (e :: es) kws pos) (tClKW n ks.length sp gV E t tk) := by
  obtain ⟨f, fd, ps, g, F, hm, kp, hb⟩ := c.ex
  refine ⟨fun pins s σ H Q I h => ?_⟩
  refine wpAny_Call_Name_kw (ld_glob I hg hm ?_ hdb)
  refine PySem.W.callWith_KW (h₀ := X.base) I.ok.mod.kin kp hall (thn (ha.run pos pins s σ H _ I h) fun us s1 ⟨vs, H1, I1, r, q⟩ => ?_) hpl he
  refine thn (hkw.run pos pins s1 σ H1 _ I1 q) fun ws s2 ⟨zs, H2, I2, rz, l1, l2, q2⟩ => ⟨I2.kIn, ?_⟩
  rw [hks]
  have r2 := hb.rel r rz
  refine wpAny_call (codeAny_mono (F.run X.A X.stack s2 H2 ⟨us, ks.zip ws⟩ (g us ws) (gV vs zs) Q (E σ) (hr.mono hk) I2.env0 (hb.to s2 us ws I2.kIn (by rw [← r.length]; exact l1) (by rw [← rz.length]; exact l2)) r2 q2) fun r s' hq => ?_)
  exact back_at (hx σ) I2 r s' hq
end
end Z
set_option Elab.async false
set_option linter.all false
set_option maxRecDepth 100000
set_option maxHeartbeats 4000000
namespace Z
open PySem PySem.Spec PyProof.Rows L2
/-! ### raise X(), X an own class without own __init__ -/
structure Exn0 (K : PySem.W.Frag) (mg : Str → Option Value) (x : Str) (C : Addr) : Prop where
  ex : PySem.W.excIn K C He.veBase "ValueError.__new__" = true
  kp : PySem.W.keepIn K (.ref C) = true
  sub : PySem.W.subIn K (.ref C) (.type "BaseException") = some true
  ty : PySem.W.typeIn K (.ref C) = some (.type "type")
  gl : mg x = some (.ref C)
theorem pmk_ex0 {X : Cx} {x : Str} {C : Addr} {p pos : Pos} (c : Exn0 X.K X.mg x C) (hg : Gl X x) (hdb : (x == ("__debug__" : Str)) = false := by decide) :
    L2N.PMk X (.Call (.Name x p) [] [] pos) (fun _ H Q => Q (.ref C) none H) := by
  intro pins s σ H Q I h
  refine wpAny_Call_Name_kw (ld_glob I hg c.gl ?_ hdb)
  refine PySem.W.callWith_K0 I.kIn c.kp ?_
  obtain ⟨bm, N, nm, qn, bs, hdct, sn, sub, ab, col, dd, k0, k1, k2, k3, k5, mN, hC, hN, hni, T⟩ := exc_obj I.kIn c.ex
  refine wpAny_call_exc_subT PySem.F.excBase_ValueError T hC hN hni (fun h' e hm => ?_) (by decide)
  exact L2N.mk_of I hm (raises_own c.sub c.ty) h (I.hok.gone hm.new)
theorem ps_ex0 {X : Cx} {x : Str} {C : Addr} {p pos pos2 : Pos} {W : WX} (hc : X.calm = true) (tk : L2N.Takes X W) (c : Exn0 X.K X.mg x C) (hg : Gl X x) (hdb : (x == ("__debug__" : Str)) = false := by decide) :
    PS X (.Raise (some (.Call (.Name x p) [] [] pos)) none pos2) (fun _ σ H => W (.ref C) none σ H) := L2N.ps_raise hc tk (pmk_ex0 c hg hdb)
/-! ### isinstance(e, c), e a caught error without a dict -/
def rIs0 (K : PySem.W.Frag) (a : Addr) (cls : Value) (d : Option Addr) : List V → Hp → VK → Prop := fun xs H Q => ∃ (D : Addr) (c : V) (cv : Value) (b : Bool), cls = .ref D ∧ d = none ∧ ExcC K D ∧ xs = [.ref a, c] ∧ (∀ u, RelV c u → u = cv) ∧ PySem.W.kitOne K (.ref D) cv = some b ∧ Q (.bl b) H
theorem call_is0 {X : Cx} {a : Addr} {cls : Value} {d : Option Addr} {oe : Obj} {pn : List (Addr × Obj)} (hz : Zc cls d oe) (hf : ∃ vs, oe.data = .fields vs) : CallR (X.suite a ((a, oe) :: pn)) (.builtin "isinstance") (rIs0 X.K a cls d) := by
  intro pins s σ H xs us Q I r h
  obtain ⟨D, c, cv, b, rfl, rfl, C, rfl, hcv, e, q⟩ := h
  exact call_isE C hz hf pins s σ H _ us Q I r ⟨c, cv, b, rfl, hcv, e, q⟩
end Z
set_option Elab.async false
set_option linter.all false
set_option maxRecDepth 100000
set_option maxHeartbeats 4000000
namespace Z
open PySem PySem.Spec PyProof.Rows L2
open SX (S S_inj S_len S_cat)
/-! ### a text times an int -/
def rRepS : R2 := fun x y H Q => ∃ (l : List Nat) (k : Int), x = .str (S l) ∧ y = .int k ∧ -100000 ≤ k ∧ k ≤ 100000 ∧ l.length ≤ 10 ∧ Q (.str (S (List.replicate k.toNat l).flatten)) H
theorem op_repS {X : Cx} : OpR X (binaryOp .Mult) rRepS := by
  intro pins s σ H x y v u Q I rx ry h
  obtain ⟨l, k, rfl, rfl, h0, h1, hl, q⟩ := h
  obtain ⟨t, rfl⟩ := rx
  obtain ⟨t2, rfl⟩ := ry
  have el : (S l).length = l.length := S_len l
  have hm : l.length * k.toNat ≤ 10 * 100000 := Nat.mul_le_mul hl (by omega)
  refine PySem.P.mul_str ?_ ?_ ?_ ?_
  · rw [decide_eq_false (by omega), decide_eq_false (by omega)]
    rfl
  · intro h2 _ h3
    have : (k : Int) * ((2 ^ 63 - 1) / k) ≤ 2 ^ 63 - 1 := Int.mul_ediv_self_le (by omega)
    have h4 : (100000 : Int) ≤ (2 ^ 63 - 1) / k := by
      rw [Int.le_ediv_iff_mul_le (by omega)]
      omega
    rw [el] at h3
    omega
  · intro _ _
    rw [el]
    have hs : sizeLine = 16777216 := sizeLine_eq
    exact decide_eq_false (by omega)
  · have fr : ∀ (n : Nat) (acc : List Nat), List.foldl (fun x1 x2 => x1 ++ x2) acc.toArray (List.replicate n l.toArray) = (acc ++ (List.replicate n l).flatten).toArray := by
      intro n
      induction n with
      | zero => intro acc; simp
      | succ n ih =>
        intro acc
        have e : acc.toArray ++ l.toArray = (acc ++ l).toArray := by simp
        rw [List.replicate_succ, List.foldl_cons, e, ih, List.replicate_succ, List.flatten_cons, List.append_assoc]
    have fr0 := fr k.toNat []
    rw [List.nil_append] at fr0
    have e0 : (⟨List.foldl (fun x1 x2 => x1 ++ x2) #[] (List.replicate k.toNat (S l).cps)⟩ : Str) = S (List.replicate k.toNat l).flatten := congrArg Str.mk fr0
    have hz : (List.replicate k.toNat l).flatten.length ≤ 10 * 100000 := by
      rw [List.length_flatten, List.map_replicate, List.sum_replicate_nat]
      rw [Nat.mul_comm]
      exact hm
    by_cases c1 : k < 1
    · rw [if_pos c1]
      have : k.toNat = 0 := by omega
      rw [this] at q
      refine ⟨by decide, ?_⟩
      exact ⟨.str _, H, I.tok _, ⟨_, rfl⟩, q⟩
    · rw [if_neg c1]
      by_cases c2 : (k == 1 || (S l).length == 0) = true
      · rw [if_pos c2]
        have e2 : (List.replicate k.toNat l).flatten = l := by
          rw [Bool.or_eq_true, beq_iff_eq, beq_iff_eq, el] at c2
          rcases c2 with c2 | c2
          · rw [c2]
            simp
          · have : l = [] := List.length_eq_zero_iff.mp c2
            rw [this]
            simp
        rw [e2] at q
        exact ⟨.str _, H, I, ⟨_, rfl⟩, q⟩
      · rw [if_neg c2, e0]
        refine ⟨by rw [S_len]; exact Nat.le_trans hz (by decide), ?_⟩
        exact ⟨.str _, H, I.tok _, ⟨_, rfl⟩, q⟩
def rRepN : R2 := fun x y H Q => ∃ k : Int, x = .str "n" ∧ y = .int k ∧ -100000 ≤ k ∧ k ≤ 100000 ∧ Q (.str (S (List.replicate k.toNat 110))) H
theorem op_repN {X : Cx} : OpR X (binaryOp .Mult) rRepN := by
  intro pins s σ H x y v u Q I rx ry h
  obtain ⟨k, rfl, rfl, h0, h1, q⟩ := h
  have e : ∀ n : Nat, (List.replicate n [110]).flatten = List.replicate n 110 := by
    intro n
    induction n with
    | zero => rfl
    | succ n ih =>
      rw [List.replicate_succ, List.flatten_cons, ih, List.replicate_succ]
      rfl
  refine op_repS pins s σ H _ _ v u Q I rx ry ⟨[110], k, congrArg V.str (by decide +kernel), rfl, h0, h1, by decide, ?_⟩
  rw [e]
  exact q
end Z
set_option Elab.async false
set_option linter.all false
set_option maxRecDepth 100000
set_option maxHeartbeats 4000000
namespace Z
open PySem PySem.Spec PyProof.Rows L2 NdefX
/-! ### a method whose last statement is super().__init__(..), the base an own class -/
/-- what the written part says: the function f of the class C (cell cc, code c), the base's __init__ at g -/
structure SupP (P : Program) (K : PySem.W.Frag) (C f c cc g : Addr) (fd : FuncData) : Prop where
  lk : ∃ oc od osl, K.lookup f = some ⟨oc, od, .func fd, osl⟩
  code : ∃ (ccl : Value) (cdd : Option Addr) (vs : Array Value) (ccs : Array (Option Value)) (file : Str) (tf : Tok), K.lookup c = some ⟨ccl, cdd, .fields vs, ccs⟩ ∧ vs[2]? = some (.str file tf) ∧ ((P.main.file : Str) == file) = true
  cell : ∃ cl cld csl, K.lookup cc = some ⟨cl, cld, .cell (some (.ref C)), csl⟩
  top : (P.main.scope.names.lookup ("super" : Str)).isSome = false
  mro : PySem.W.mroIn K C (.ref C) = some true
  opq : PySem.W.nsIn K cStatics "thirdparty.any" = some none
  ini : PySem.W.ks_superIn K C C "__init__" = some (some (.ref g))
  ty : PySem.W.typeIn K (.ref g) = some (.type "function")
  fi : PySem.W.fnIn K g = true
theorem takes_ncx {P : Program} {w : World} {K : PySem.W.Frag} {mg : Str → Option Value} {base : Heap} {N : List Str} {F : NF} {f : Addr} {A : Around} {outer : List Env} {s : Shared} {H : Hp} {E : XK} : L2N.Takes (ncx (L2N.CX P w) P w K mg base N F f A outer s H E) (fun cls d _ H' => E cls d H') := L2N.takes_of rfl rfl rfl rfl
theorem wpAt_to' {M : Model} {A : Around} {c : Code} {α : Type} {m : Sem α} {Q Q' : α → Shared → Prop} {E : Value → Shared → Prop} {s : Shared} (h : _root_.PySem.wpAt M A c m Q E s) (hq : ∀ a s', Q a s' → Q' a s') : _root_.PySem.wpAt M A c m Q' E s := ks_wpAt_mono h hq fun _ _ z => z
/-- statements, then one more -/
theorem wp_snoc {M : Model} {Γ : PySem.Ctx} {env : Env} {last : Stmt} {QQ : Flow → Pos → Shared → Prop} {EE : Value → Pos → Shared → Prop} : ∀ (pre : List Stmt) (p : Pos) (s : Shared),
    Sem.wp M Γ (execs pre env) (fun f p' s' => match f with | .next => Sem.wp M Γ (exec last env) QQ EE p' s' | f => QQ f p' s') EE p s → Sem.wp M Γ (execs (pre ++ [last]) env) QQ EE p s
  | [], p, s, h => by
    have h : Sem.wp M Γ (exec last env) QQ EE p s := h
    show Sem.wp M Γ (execs [last] env) QQ EE p s
    rw [execs_cons, Sem.wp_bind']
    refine Sem.wp_mono M Γ _ (fun f p' s' h' => ?_) (fun _ _ _ h' => h') _ _ h
    cases f <;> exact h'
  | st :: pre, p, s, h => by
    rw [List.cons_append, execs_cons, Sem.wp_bind']
    rw [execs_cons, Sem.wp_bind'] at h
    refine Sem.wp_mono M Γ _ (fun f p' s' h' => ?_) (fun _ _ _ h' => h') _ _ h
    cases f
    case next => exact wp_snoc pre p' s' h'
    all_goals exact h'
theorem wpAt_execs_snoc {M : Model} {A : Around} {c : Code} {env : Env} {E : Value → Shared → Prop} {last : Stmt} {Q : Flow → Shared → Prop} {pre : List Stmt} {s : Shared}
    (h : _root_.PySem.wpAt M A c (execs pre env) (fun f s' => match f with | .next => _root_.PySem.wpAt M A c (exec last env) Q E s' | f => Q f s') E s) : _root_.PySem.wpAt M A c (execs (pre ++ [last]) env) Q E s := fun Γ p hc hΓ =>
  wp_snoc (QQ := fun a _ s' => Q a s') (EE := fun e _ s' => E e s') pre p s (Sem.wp_mono M Γ _ (fun f p' s' h' => by cases f <;> first | exact h' Γ p' hc hΓ | exact h') (fun _ _ _ h' => h') _ _ (h Γ p hc hΓ))
section
variable {P : Program} {w : World} {K : PySem.W.Frag} {mg : Str → Option Value} {base : Heap} {N ps : List Str} {F : NF} {f C a cc g : Addr} {A : Around} {outer : List Env} {s0 s : Shared} {H0 H : Hp} {E : XK} {σ : L2.St}
/-- super().__init__(e, ..) of an own base class -/
theorem super_stmt {pl : Sem Bool} {fd : FuncData} {ar : Arg} {t : TA} {e : Expr} {es : List Expr} {p0 p1 p2 pos pos2 : Pos} {k : Nat} {sp : Sp} {dx : Addr} {fs : List (Str × V)} {Qn : Hp → Prop} (S : SupP P K C f F.c cc g fd) (hcl : F.cl = [(("__class__" : Str), cc)]) (hp : (fd.params.posonlyargs ++ fd.params.args).head? = some ar)
    (hks : F.scope.names.lookup ("super" : Str) = some .globalImplicit) (hkc : F.scope.names.lookup ("__class__" : Str) = some .free) (hka : F.scope.names.lookup ar.arg = some .local) (hk : F.scope.kind = .function) (m_super : mg "super" = none)
    (hN : N[0]? = some ar.arg) (ha : PA (ncx (L2N.CX P w) P w K mg base N F f A outer s0 H0 E) (e :: es) t) (Fg : FnR P w K mg base (L2N.CX P w) k g sp) (hr : Room k (ncx (L2N.CX P w) P w K mg base N F f A outer s0 H0 E).A)
    (I : Inv (ncx (L2N.CX P w) P w K mg base N F f A outer s0 H0 E) [] σ H s) (hs : σ[0]? = some (some (.ref a))) (hx : H a = some (.ins C dx fs))
    (ht : t σ H fun vs H1 => sp (.ref a :: vs) H1 (fun _ H2 => Qn H2) E)
    (hint : interactive (ncx (L2N.CX P w) P w K mg base N F f A outer s0 H0 E).env = false := by rfl) (hsw : swapsWith (.Call (.Attribute (.Call (.Name "super" p0) [] [] p1) "__init__" p2) (e :: es) [] pos) none pos2.line (ncx (L2N.CX P w) P w K mg base N F f A outer s0 H0 E).env = pure false := by rfl)
    (hev : eval (.Call (.Attribute (.Call (.Name "super" p0) [] [] p1) "__init__" p2) (e :: es) [] pos) (ncx (L2N.CX P w) P w K mg base N F f A outer s0 H0 E).env = (do
      let ov ← attributeBase (.Call (.Name "super" p0) [] [] p1) "__init__" (ncx (L2N.CX P w) P w K mg base N F f A outer s0 H0 E).env (eval (.Call (.Name "super" p0) [] [] p1) (ncx (L2N.CX P w) P w K mg base N F f A outer s0 H0 E).env)
      standAt p2.atName
      let (g, first) ← holding [ov] (getMethod ov "__init__" pl)
      callWith pos g first (backTo pos (starEach (e :: es) (ncx (L2N.CX P w) P w K mg base N F f A outer s0 H0 E).env)) []) := by rfl)
    (he : starEach (e :: es) (ncx (L2N.CX P w) P w K mg base N F f A outer s0 H0 E).env = (false, eval e (ncx (L2N.CX P w) P w K mg base N F f A outer s0 H0 E).env) :: starEach es (ncx (L2N.CX P w) P w K mg base N F f A outer s0 H0 E).env := by rfl) (hpl : (backTo pos (starEach es (ncx (L2N.CX P w) P w K mg base N F f A outer s0 H0 E).env)).any (·.1) = false := by rfl) :
    _root_.PySem.wpAt (model P w) (ncx (L2N.CX P w) P w K mg base N F f A outer s0 H0 E).A (.func F.body (ncx (L2N.CX P w) P w K mg base N F f A outer s0 H0 E).env) (exec (.Expr (.Call (.Attribute (.Call (.Name "super" p0) [] [] p1) "__init__" p2) (e :: es) [] pos) pos2) (ncx (L2N.CX P w) P w K mg base N F f A outer s0 H0 E).env)
      (fun fl s' => fl = .next ∧ ∃ H1, Inv (ncx (L2N.CX P w) P w K mg base N F f A outer s0 H0 E) [] σ H1 s' ∧ Qn H1) (ncx (L2N.CX P w) P w K mg base N F f A outer s0 H0 E).xe s := by
  obtain ⟨oc, od, osl, lkf⟩ := S.lk
  obtain ⟨ccl, cdd, vs, ccs, file, tf, lkc, hvs, hfile⟩ := S.code
  obtain ⟨cl, cld, csl, lkcc⟩ := S.cell
  have KX : K.In s.heap := I.kIn
  obtain ⟨m, hn, hl⟩ := I.loc
  obtain ⟨u, ru, lu⟩ := hl 0 ar.arg (.ref a) hN hs (.inl hka)
  obtain rfl : u = .ref a := ru
  have hma : m ar.arg = some (.ref a) := by
    rcases lu with ⟨_, z⟩ | ⟨z, _⟩
    · exact z
    · rcases z with z | z
      · rw [show (ncx (L2N.CX P w) P w K mg base N F f A outer s0 H0 E).env.kindOf ar.arg = some .local from hka] at z; cases z
      · rw [show (ncx (L2N.CX P w) P w K mg base N F f A outer s0 H0 E).env.kindOf ar.arg = some .local from hka] at z; cases z
  obtain ⟨mA, J, _⟩ := ins_get I.hok hx
  obtain ⟨oda, J, _⟩ := J.look
  cases hc : PySem.W.clsIn K C with
  | none =>
    have hm := S.ini
    unfold PySem.W.ks_superIn at hm
    rw [hc] at hm
    cases hm
  | some cd =>
    obtain ⟨oC, hC1, hC2⟩ : ∃ oC, s.heap.get? C = some oC ∧ oC.data = .cls cd := by
      unfold PySem.W.clsIn at hc
      split at hc
      · rename_i c d cd' sl ho
        cases hc
        exact ⟨_, KX _ _ ho, rfl⟩
      · cases hc
    refine ks_wpAt_Expr_any (ks_wpAt_MethodCall ?_ hev) hint hsw
    refine ks_wpAt_super_base (env := (ncx (L2N.CX P w) P w K mg base N F f A outer s0 H0 E).env) (cc := F.c) hks hkc (by decide) rfl (KX _ _ lkf) rfl hp rfl (KX _ _ lkc) rfl hvs hfile S.top ?_
    obtain ⟨mb, h1, h2⟩ := I.mod.blt
    refine PySem.W.ks_loadName_global hk hks (Calls.loadGlobal_builtin (by rw [I.ok.glob]; exact I.mod.glob.keeps I.bk) m_super (by rw [I.ok.blt]; exact h1.keeps I.bk) ((h2 "super" (by decide)).trans (by decide +kernel)) ⟨rfl, ?_⟩)
    refine wpAny_loadName_free hk hkc (c := cc) (by show F.cl.lookup _ = _; rw [hcl]; rfl) ⟨_, KX _ _ lkcc, rfl⟩ ?_
    refine wpAny_loadName_local hk hka hn hma ?_
    refine ks_wpAny_isType_cls hC1 hC2 ⟨rfl, ?_⟩
    obtain ⟨hh, gn, d, tk, os⟩ := s
    refine ks_wpAny_call_super hC1 hC2 J.at_ J.cls (fun c z => ?_) (PySem.W.looks_mroIn KX S.mro) (fun h' eso kso => ?_)
    · have := J.no
      unfold PySem.W.notCls at this
      rw [z] at this
      exact Bool.noConfusion this
    have I2 : Inv (ncx (L2N.CX P w) P w K mg base N F f A outer s0 H0 E) [] σ H ⟨h', gn, d, tk, os⟩ := I.kept kso
    have KX2 : K.In h' := I2.kIn
    obtain ⟨mA2, J2, _⟩ := ins_get I2.hok hx
    obtain ⟨oda2, J2, _⟩ := J2.look
    have hm := S.ini
    unfold PySem.W.ks_superIn at hm
    rw [hc] at hm
    obtain ⟨of, hof, hofc⟩ : ∃ of, h'.get? g = some of ∧ of.cls = .type "function" := by
      have ht' : (K.lookup g).map (·.cls) = some (.type "function") := S.ty
      cases z : K.lookup g with
      | none => rw [z] at ht'; cases ht'
      | some of => rw [z] at ht'; exact ⟨of, KX2 _ _ z, Option.some.inj ht'⟩
    refine ks_wpAny_getMethod_super eso (PySem.W.looks_opaque KX2 S.opq) (l₀ := cd.mro) ?_ rfl KX2 hm hof hofc (PySem.W.ks_ne KX2 J2 hc) (by decide) ?_
    · exact fun A Q E s k q => wpAny_bind ((PySem.W.looks_clsIn KX2 hc) A _ E s k (wpAny_pure q))
    have I3 := ClX.met_new (g := g) (C := a) I2
    refine ClX.callwith_cm I3 (ClX.base_none I2 (Nat.le_refl _)) S.fi ?_ he hpl
    have hrun := ha.run pos _ _ σ H _ I3 ht
    refine thn hrun fun us s3 ⟨ws, H3, I4, r, q1⟩ => ?_
    refine ⟨⟨ClX.pin_at I4, I4.kIn⟩, ?_⟩
    refine thn (ClX.run_cm Fg hr (L2N.passes_call takes_ncx (fun _ _ _ _ h => h)) I4 r q1) fun v s' ⟨_, H4, I5, _, q2⟩ => ⟨rfl, H4, I5, q2⟩
/-- THE RULE: a method that ends with super().__init__(..), the statements ahead by their readings -/
theorem sup_last {pl : Sem Bool} {fd : FuncData} {dV kV doc pm ct : Value} {an : Option Addr} {ar : Arg} {j k : Nat} {sp spB : Sp} {e : Expr} {es : List Expr} {p0 p1 p2 pos pos2 : Pos} {pre : List Stmt} (hfd : fd = PySem.W.fnX F.name F.qual F.params F.body F.scope F.cl dV kV doc pm an (.ref F.c) ct)
    (S : SupP P K C f F.c cc g fd) (hcd : PySem.W.codeIn K (.ref F.c) F.qual = true) (NS : NScope N ps ["__class__"] F.scope) (hcl : F.cl = [(("__class__" : Str), cc)]) (hp : (F.params.posonlyargs ++ F.params.args).head? = some ar) (hks : F.scope.names.lookup ("super" : Str) = some .globalImplicit) (m_super : mg "super" = none)
    (hN : N[0]? = some ar.arg) (hka : F.scope.names.lookup ar.arg = some .local)
    (hb : F.body = pre ++ [.Expr (.Call (.Attribute (.Call (.Name "super" p0) [] [] p1) "__init__" p2) (e :: es) [] pos) pos2]) (Fg : FnR P w K mg base (L2N.CX P w) k g spB) (hkj : k ≤ j)
    (len : ∀ vs H Q E, sp vs H Q E → vs.length = ps.length)
    (hint : ∀ (A : Around) (outer : List Env) (s : Shared) (H : Hp) (E : XK), interactive (ncx (L2N.CX P w) P w K mg base N F f A outer s H E).env = false)
    (hsw : ∀ (A : Around) (outer : List Env) (s : Shared) (H : Hp) (E : XK), swapsWith (.Call (.Attribute (.Call (.Name "super" p0) [] [] p1) "__init__" p2) (e :: es) [] pos) none pos2.line (ncx (L2N.CX P w) P w K mg base N F f A outer s H E).env = pure false)
    (hev : ∀ (A : Around) (outer : List Env) (s : Shared) (H : Hp) (E : XK), eval (.Call (.Attribute (.Call (.Name "super" p0) [] [] p1) "__init__" p2) (e :: es) [] pos) (ncx (L2N.CX P w) P w K mg base N F f A outer s H E).env = (do
      let ov ← attributeBase (.Call (.Name "super" p0) [] [] p1) "__init__" (ncx (L2N.CX P w) P w K mg base N F f A outer s H E).env (eval (.Call (.Name "super" p0) [] [] p1) (ncx (L2N.CX P w) P w K mg base N F f A outer s H E).env)
      standAt p2.atName
      let (g, first) ← holding [ov] (getMethod ov "__init__" pl)
      callWith pos g first (backTo pos (starEach (e :: es) (ncx (L2N.CX P w) P w K mg base N F f A outer s H E).env)) []))
    (he : ∀ (A : Around) (outer : List Env) (s : Shared) (H : Hp) (E : XK), starEach (e :: es) (ncx (L2N.CX P w) P w K mg base N F f A outer s H E).env = (false, eval e (ncx (L2N.CX P w) P w K mg base N F f A outer s H E).env) :: starEach es (ncx (L2N.CX P w) P w K mg base N F f A outer s H E).env)
    (hpl : ∀ (A : Around) (outer : List Env) (s : Shared) (H : Hp) (E : XK), (backTo pos (starEach es (ncx (L2N.CX P w) P w K mg base N F f A outer s H E).env)).any (·.1) = false)
    (hrest : ∀ (A : Around) (outer : List Env) (s : Shared) (H : Hp) (vs : List V) (Q : VK) (E : XK), Room j (ncx (L2N.CX P w) P w K mg base N F f A outer s H E).A → sp vs H Q E → ∃ t ta, PSs (ncx (L2N.CX P w) P w K mg base N F f A outer s H E) pre t ∧ PA (ncx (L2N.CX P w) P w K mg base N F f A outer s H E) (e :: es) ta ∧
      t { nx := fun σ1 H1 => ∃ (a dx : Addr) (fs : List (Str × V)), σ1[0]? = some (some (.ref a)) ∧ H1 a = some (.ins C dx fs) ∧ ta σ1 H1 fun ws H2 => spB (.ref a :: ws) H2 (fun _ H3 => Q .non H3) E, rt := Q } (startF N vs [some (.ref C)]) H) : FnOk P w K mg base (L2N.CX P w) (j + 1) f fd ps sp := by
  refine ⟨len, fun A outer s H args us vs Q E hr e0 hbn r hsp => ?_⟩
  have hl := len _ _ _ _ hsp
  have KX : K.In s.heap := e0.mod.kin.keeps fun b o e => (e0.bs b o e).1
  have lim : s.heap.NoLimit := e0.mod.nolimit.keeps fun b o e => (e0.bs b o e).1
  obtain ⟨oc, od, osl, lkf⟩ := S.lk
  obtain ⟨cl, cld, csl, lkcc⟩ := S.cell
  have CA : CellsAt F.cl ["__class__"] [some (.ref C)] s.heap H := by
    refine ⟨rfl, fun y c e => ?_, fun x y c e1 e2 => ?_, fun i y e => ?_⟩
    · rw [hcl] at e
      have ec : c = cc := by
        unfold List.lookup at e
        split at e
        · exact (Option.some.inj e).symm
        · cases e
      subst ec
      exact ⟨(e0.bs _ _ (e0.mod.kin _ _ lkcc)).2, _, _, KX _ _ lkcc, rfl⟩
    · rw [hcl] at e1 e2
      have k : ∀ z : Str, ([(("__class__" : Str), cc)] : List (Str × Addr)).lookup z = some c → z = "__class__" := fun z e => by
        unfold List.lookup at e
        split at e
        · next h => exact beq_iff_eq.mp h
        · cases e
      rw [k x e1, k y e2]
    · have ey : y = "__class__" := by
        cases i with
        | zero => exact (Option.some.inj e).symm
        | succ i => cases e
      subst ey
      refine ⟨cc, by rw [hcl]; rfl, fun v hv => ?_⟩
      have ei : i = 0 := by
        cases i with
        | zero => rfl
        | succ i => cases e
      subst ei
      obtain rfl : V.ref C = v := Option.some.inj (Option.some.inj hv)
      exact ⟨.ref C, rfl, _, KX _ _ lkcc, rfl⟩
  subst hfd
  refine ks_codeAny_call_defAt hr.depth (KX _ _ lkf) rfl lim (PySem.W.codeRec_of KX hcd) rfl hbn NS.nocell (fun ⟨n, _⟩ hy => NS.par n (List.of_mem_zip hy).1) (fun h₁ hns kp => ?_) NS.co NS.gen NS.kind
  show _root_.PySem.wpAt _ (ncx (L2N.CX P w) P w K mg base N F f A outer s H E).A (.func F.body (ncx (L2N.CX P w) P w K mg base N F f A outer s H E).env) (execs F.body (ncx (L2N.CX P w) P w K mg base N F f A outer s H E).env) _ (ncx (L2N.CX P w) P w K mg base N F f A outer s H E).xe _
  have I : Inv (ncx (L2N.CX P w) P w K mg base N F f A outer s H E) [] (startF N vs [some (.ref C)]) H { s with heap := h₁, toks := s.toks + (ps.zip us).length } := inv_startN NS hr.hd e0 hl r CA hns kp
  have hrN : Room j (ncx (L2N.CX P w) P w K mg base N F f A outer s H E).A := hr.deeper _
  obtain ⟨t, ta, ht, hta, hq⟩ := hrest A outer s H vs Q E hrN hsp
  have fin : ∀ {σ' : L2.St} {H' : Hp} {v : V} {u : Value} {s' : Shared}, Inv (ncx (L2N.CX P w) P w K mg base N F f A outer s H E) [] σ' H' s' → L2.RelV v u → Q v H' → CE outer P w H s Q u s' :=
    fun {σ' H' v u s'} J rv q => ⟨v, H', J.os, J.bare, J.base, J.hok, rv, q⟩
  rw [show execs F.body (ncx (L2N.CX P w) P w K mg base N F f A outer s H E).env = execs (pre ++ [.Expr (.Call (.Attribute (.Call (.Name "super" p0) [] [] p1) "__init__" p2) (e :: es) [] pos) pos2]) (ncx (L2N.CX P w) P w K mg base N F f A outer s H E).env by rw [hb]]
  refine wpAt_execs_snoc (wpAt_of_wpAny (wpAny_mono (ht.run [] _ _ H _ I hq) (fun fl s' hs => ?_) fun e s' hs => hs))
  cases fl with
  | ret u =>
    obtain ⟨v, σ', H', J, rv, q⟩ := hs
    exact fin J rv q
  | next =>
    obtain ⟨σ', H', J, a, dx, fs, hσ, hx, q⟩ := hs
    refine wpAt_to' (super_stmt (Qn := fun H3 => Q .non H3) S hcl hp hks (NS.frk _ (List.mem_cons_self ..)) hka NS.kind m_super hN hta Fg (hrN.mono hkj) J hσ hx q (hint A outer s H E) (hsw A outer s H E) (hev A outer s H E) (he A outer s H E) (hpl A outer s H E)) ?_
    rintro fl s1 ⟨rfl, H1, I1, q1⟩
    exact fin (v := V.non) (u := Value.none) I1 rfl q1
  | brk =>
    obtain ⟨_, _, _, q⟩ := hs
    exact False.elim q
  | cont =>
    obtain ⟨_, _, _, q⟩ := hs
    exact False.elim q
end
end Z
set_option Elab.async false
set_option linter.all false
set_option maxRecDepth 100000
set_option maxHeartbeats 4000000
namespace Z
open PySem PySem.Spec PyProof.Rows L2
/-! ### a class made by its name: the promise speaks of the made instance alone; it may raise -/
structure MakY (P : Program) (w : World) (K : PySem.W.Frag) (mg : Str → Option Value) (base : Heap) (k : Nat) (x : Str) (sp : Sp) : Prop where
  ex : ∃ (C : Addr) (si : Sp), MakX P w K mg base k x C si ∧ ∀ vs H Q E, sp vs H Q E → ∀ n dx, H n = none → H dx = none → dx ≠ n → si (.ref n :: vs) (upd (upd H dx (.own n)) n (.ins C dx [])) (fun v H2 => v = .non ∧ Q (.ref n) H2) E
section
variable {X : Cx} {k j : Nat} {x : Str} {sp : Sp} {E : L2.St → XK} {p pos : Pos} {e : Expr} {es : List Expr} {t : TA}
theorem pe_mkY (c : MakY X.prog X.w X.K X.mg X.base k x sp) (hx : ∀ σ, PassesAt (L2N.CX X.prog X.w) X σ (E σ)) (hr : Room j X.A) (hk : k + 1 ≤ j) (hg : Gl X x) (ha : PA X (e :: es) t) (hdb : (x == ("__debug__" : Str)) = false := by decide) (he : starEach (e :: es) X.env = (false, eval e X.env) :: starEach es X.env := by rfl) (hpl : (backTo pos (starEach es X.env)).any (·.1) = false := by rfl) :
    PE X (.Call (.Name x p) (e :: es) [] pos) (fun σ H Q => t σ H fun vs H1 => sp vs H1 Q (E σ)) := by
  obtain ⟨C, si, ⟨f, fd, ps, M, F, hm, b⟩, imp⟩ := c.ex
  constructor
  intro pins s σ H Q I h
  refine wpAny_Call_Name_kw (ld_glob I hg hm ?_ hdb)
  refine PySem.W.callWith_K (h₀ := X.base) I.ok.mod.kin M.kp (thn (ha.run pos pins s σ H _ I h) fun us s1 z => ?_) he hpl
  obtain ⟨vs, H1, I1, rr, q⟩ := z
  refine ⟨I1.kIn, ?_⟩
  obtain ⟨n, hn⟩ : ∃ n, n = s1.heap.objs.size := ⟨_, rfl⟩
  have q1 := imp _ _ _ _ q (n + 1) n (I1.hok.fresh (by rw [hn]; exact Nat.le_succ _)) (I1.hok.fresh (by rw [hn]; exact Nat.le_refl _)) (Nat.ne_of_lt (Nat.lt_succ_self _))
  subst hn
  have J := Inv.made (C := C) I1
  have r3 : Vals (V.ref (s1.heap.objs.size + 1) :: vs) (Value.ref (s1.heap.objs.size + 1) :: us) := .cons rfl rr
  have b3 := b { s1 with heap := (s1.heap.push PySem.W.emptyDict).push (PySem.W.instObj C s1.heap.objs.size) } (Value.ref (s1.heap.objs.size + 1) :: us) J.kIn (by rw [List.append_nil, ← r3.length]; exact F.len _ _ _ _ q1)
  rw [List.append_nil] at b3
  have run := F.run _ X.stack _ _ _ _ _ _ _ ((hr.mono hk).make C us []) (J.env0.make C us []) b3 r3 q1
  refine wpAny_call (make_map (f := f) I1.kIn M.makes M.init (beq_iff_eq.mp M.fn) (codeAny_mono run fun r s' hq => ?_))
  have z := back_at (hx σ) J r s' hq
  match r, z with
  | .error e, z => exact z
  | .ok (.ret u), ⟨v, H', J', rv, ev, q3⟩ =>
    subst ev
    exact ⟨rv, V.ref (s1.heap.objs.size + 1), H', J', rfl, q3⟩
end
end Z
set_option Elab.async false
set_option linter.all false
set_option maxRecDepth 100000
set_option maxHeartbeats 4000000
namespace Z
open PySem PySem.Spec PyProof.Rows L2
/-! ### max(xs, default=d), xs a list of ints -/
def mxD (d : Int) (ns : List Int) : Int := match ns with | [] => d | n :: r => r.foldl max n
def rMaxD (K : PySem.W.Frag) : List V → List V → Hp → VK → Prop := fun vs zs H Q => ∃ (a : Addr) (ns : List Int) (d : Int), vs = [.ref a] ∧ zs = [.int d] ∧ SqL K H a (ns.map V.int) ∧ Q (.int (mxD d ns)) H
theorem holdI {h : Heap} : ∀ {ns : List Int} {us : List Value}, Vals (ns.map V.int) us → PySem.W.HoldAll h us ns
  | [], _, .nil => PySem.W.HoldAll.nil
  | n :: ns, _, .cons r rs => by
    obtain ⟨t, rfl⟩ := r
    exact PySem.W.HoldAll.cons (PySem.W.holds_int n t) (holdI rs)
theorem maxOf_int : ∀ (r : List Int) (n : Int), PySem.W.maxOf n r = r.foldl max n
  | [], n => rfl
  | x :: r, n => by
    have e : (if PySem.W.DatumOrd.lt n x = true then x else n) = max n x := by
      show (if decide (n < x) = true then x else n) = max n x
      by_cases h : n < x
      · rw [decide_eq_true h, if_pos rfl]
        omega
      · rw [decide_eq_false h, if_neg (by decide)]
        omega
    show PySem.W.maxOf (if PySem.W.DatumOrd.lt n x = true then x else n) r = r.foldl max (max n x)
    rw [e, maxOf_int r]
theorem cr_maxD {X : Cx} (hc : X.calm = true) (hu : X.A.units + 64 < cLine) : CallRK X (.builtin "max") [Str.ofString "default"] (rMaxD X.K) := by
  intro pins s σ H vs zs us ws Q I r rz h
  obtain ⟨a, ns, d, rfl, rfl, hs, q⟩ := h
  obtain rfl := Vals.ref1 r
  obtain ⟨w1, rfl, t, rfl⟩ := vals1 rz
  obtain ⟨its, rv, hl, hz⟩ := I.list hs
  refine PySem.W.max_list_datum_default (α := Int) (I.ok.hd hc) hl.isList (holdI rv) (by show X.A.units + 1 + 0 < cLine; omega) (fun e h' tk k => ?_) (fun y ys i v h' tk e hi hv k => ?_)
  · subst e
    exact ⟨.int d, H, I.kept k, ⟨_, rfl⟩, q⟩
  · subst e
    obtain ⟨m, t2, rfl⟩ : ∃ m t2, v = .int m t2 := by
      have hj : its[i]? = some v := by simpa using hi
      have hlt := (List.getElem?_eq_some_iff.mp hj).1
      have e1 := rv.length
      obtain ⟨z, hz2⟩ : ∃ z, ((y :: ys).map V.int)[i]? = some z := ⟨_, List.getElem?_eq_getElem (by omega)⟩
      obtain ⟨z2, e2, rz2⟩ := Vals.get rv hz2
      rw [hj] at e2
      cases e2
      rw [List.getElem?_map] at hz2
      cases e3 : (y :: ys)[i]? with
      | none => rw [e3] at hz2; cases hz2
      | some n =>
        rw [e3] at hz2
        cases hz2
        obtain ⟨t2, e4⟩ := rz2
        exact ⟨n, t2, e4⟩
    obtain ⟨as, hr⟩ := hv
    have em : PySem.W.maxOf y ys = m := by
      have hr : Reads h' (.int m t2) (.int (PySem.W.maxOf y ys)) as := hr
      cases hr
      rfl
    rw [maxOf_int] at em
    refine ⟨.int m, H, I.kept k, ⟨_, rfl⟩, ?_⟩
    rw [← em]
    exact q
end Z
set_option linter.all false
set_option maxRecDepth 100000
namespace Pk
/-! ### pacts as data -/
inductive Pt where
  | tr (p q m : Nat)
  | ev (k : Nat)
  | ch (o : Nat) (os : List (List Pt))
  | rd (o : Nat) (b : List Pt)
  | en (b : List Pt)
  | ti (c : Nat) (b : List Pt)
mutual
def wt : Pt → Nat
  | .tr _ _ _ => 1
  | .ev _ => 1
  | .ch _ os => 1 + wtLL os
  | .rd _ b => wtL b + 1
  | .en b => wtL b + 1
  | .ti c b => wtL b * (if c < 1 then 1 else c) + 1
def wtL : List Pt → Nat
  | [] => 0
  | p :: l => wt p + wtL l
def wtLL : List (List Pt) → Nat
  | [] => 0
  | b :: l => wtL b + wtLL l
end
mutual
def dp : Pt → Nat
  | .tr _ _ _ => 1
  | .ev _ => 1
  | .ch _ os => 1 + dpLL os
  | .rd _ b => dpL b + 1
  | .en b => dpL b + 1
  | .ti _ b => dpL b + 1
def dpL : List Pt → Nat
  | [] => 0
  | p :: l => max (dp p) (dpL l)
def dpLL : List (List Pt) → Nat
  | [] => 0
  | b :: l => max (dpL b) (dpLL l)
end
def dig (n : Nat) : List Nat := (Nat.toDigits 10 n).map Char.toNat
/-- texts with a text between them -/
def jn (s : List Nat) : List (List Nat) → List Nat
  | [] => []
  | [a] => a
  | a :: b :: r => a ++ s ++ jn s (b :: r)
mutual
def tx : Pt → List Nat
  | .tr p q m => [p] ++ [q] ++ dig m
  | .ev k => [k]
  | .ch o os => [o] ++ [40] ++ jn [32, 124, 32] (txLL os) ++ [41]
  | .rd o b => [o] ++ [91] ++ txB b ++ [93]
  | .en b => [91] ++ txB b ++ [93]
  | .ti c b => dig c ++ [40] ++ txB b ++ [41]
def txs : List Pt → List (List Nat)
  | [] => []
  | p :: l => tx p :: txs l
def txB : List Pt → List Nat
  | [] => [46]
  | p :: l => jn [44, 32] (tx p :: txs l)
def txLL : List (List Pt) → List (List Nat)
  | [] => []
  | b :: l => txB b :: txLL l
end
theorem txB_cons (p : Pt) (l : List Pt) : txB (p :: l) = jn [44, 32] (txs (p :: l)) := by
  rw [txB, txs]
theorem wtL_app : ∀ l m : List Pt, wtL (l ++ m) = wtL l + wtL m
  | [], m => by rw [List.nil_append, wtL, Nat.zero_add]
  | p :: l, m => by rw [List.cons_append, wtL, wtL, wtL_app l m, Nat.add_assoc]
theorem dpL_app : ∀ l m : List Pt, dpL (l ++ m) = max (dpL l) (dpL m)
  | [], m => by rw [List.nil_append, dpL]; omega
  | p :: l, m => by rw [List.cons_append, dpL, dpL, dpL_app l m]; omega
theorem wt_pos : ∀ p : Pt, 1 ≤ wt p := fun p => by cases p <;> rw [wt] <;> omega
theorem wtL_sum : ∀ l : List Pt, wtL l = (l.map wt).sum
  | [] => by rw [wtL]; rfl
  | p :: l => by rw [wtL, wtL_sum l]; rfl
theorem wtLL_sum : ∀ l : List (List Pt), wtLL l = (l.map wtL).sum
  | [] => by rw [wtLL]; rfl
  | p :: l => by rw [wtLL, wtLL_sum l]; rfl
theorem txs_map : ∀ l : List Pt, txs l = l.map tx
  | [] => by rw [txs]; rfl
  | p :: l => by rw [txs, txs_map l]; rfl
theorem txLL_map : ∀ l : List (List Pt), txLL l = l.map txB
  | [] => by rw [txLL]; rfl
  | p :: l => by rw [txLL, txLL_map l]; rfl
theorem le_sum : ∀ {l : List Nat} {x : Nat}, x ∈ l → x ≤ l.sum
  | y :: l, x, h => by
    rw [List.sum_cons]
    rcases List.mem_cons.mp h with h | h
    · omega
    · have := le_sum h
      omega
theorem wtL_mem {p : Pt} {l : List Pt} (h : p ∈ l) : wt p ≤ wtL l := by
  rw [wtL_sum]
  exact le_sum (List.mem_map.mpr ⟨p, h, rfl⟩)
theorem dpL_mem {p : Pt} : ∀ {l : List Pt}, p ∈ l → dp p ≤ dpL l
  | q :: l, h => by
    rw [dpL]
    rcases List.mem_cons.mp h with h | h
    · rw [h]; omega
    · have := dpL_mem h
      omega
theorem wtLL_mem {b : List Pt} {l : List (List Pt)} (h : b ∈ l) : wtL b ≤ wtLL l := by
  rw [wtLL_sum]
  exact le_sum (List.mem_map.mpr ⟨b, h, rfl⟩)
theorem dpLL_mem {b : List Pt} : ∀ {l : List (List Pt)}, b ∈ l → dpL b ≤ dpLL l
  | q :: l, h => by
    rw [dpLL]
    rcases List.mem_cons.mp h with h | h
    · rw [h]; omega
    · have := dpLL_mem h
      omega
/-! ### right pacts -/
def PAR : List Nat := [97, 98, 99, 100, 101, 102]
def MRK : List Nat := (List.range 26).map (· + 65)
mutual
def Ok : Pt → Prop
  | .tr p q m => p ∈ PAR ∧ q ∈ PAR ∧ p ≠ q ∧ m ≤ 10 ^ 60
  | .ev k => k ∈ MRK
  | .ch o os => o ∈ PAR ∧ 2 ≤ os.length ∧ os.length ≤ 6 ∧ OkLL os
  | .rd o b => o ∈ PAR ∧ OkL b
  | .en b => OkL b
  | .ti c b => c ≤ 100 ∧ OkL b
def OkL : List Pt → Prop
  | [] => True
  | p :: l => Ok p ∧ OkL l
def OkLL : List (List Pt) → Prop
  | [] => True
  | b :: l => OkL b ∧ OkLL l
end
theorem okL_iff : ∀ {l : List Pt}, OkL l ↔ ∀ p ∈ l, Ok p
  | [] => ⟨fun _ p h => absurd h List.not_mem_nil, fun _ => by rw [OkL]; trivial⟩
  | q :: l => by
    rw [OkL, okL_iff (l := l)]
    exact ⟨fun ⟨a, b⟩ p h => by
      rcases List.mem_cons.mp h with h | h
      · rw [h]; exact a
      · exact b p h, fun h => ⟨h q List.mem_cons_self, fun p hp => h p (List.mem_cons_of_mem _ hp)⟩⟩
theorem okLL_iff : ∀ {l : List (List Pt)}, OkLL l ↔ ∀ p ∈ l, OkL p
  | [] => ⟨fun _ p h => absurd h List.not_mem_nil, fun _ => by rw [OkLL]; trivial⟩
  | q :: l => by
    rw [OkLL, okLL_iff (l := l)]
    exact ⟨fun ⟨a, b⟩ p h => by
      rcases List.mem_cons.mp h with h | h
      · rw [h]; exact a
      · exact b p h, fun h => ⟨h q List.mem_cons_self, fun p hp => h p (List.mem_cons_of_mem _ hp)⟩⟩
/-! ### how long the texts are -/
theorem dig_len {m : Nat} (h : m ≤ 10 ^ 60) : (dig m).length ≤ 61 := by
  unfold dig
  rw [List.length_map]
  exact (Nat.length_toDigits_le_iff (by decide) (by decide)).mpr (by omega)
theorem dig_len3 {m : Nat} (h : m ≤ 100) : (dig m).length ≤ 3 := by
  unfold dig
  rw [List.length_map]
  exact (Nat.length_toDigits_le_iff (by decide) (by decide)).mpr (by omega)
theorem jn_len (s : List Nat) : ∀ ts : List (List Nat), (jn s ts).length ≤ (ts.map fun t => t.length + s.length).sum
  | [] => Nat.zero_le _
  | [a] => by
    show a.length ≤ _
    simp
  | a :: b :: r => by
    have := jn_len s (b :: r)
    show (a ++ s ++ jn s (b :: r)).length ≤ _
    rw [List.map_cons, List.sum_cons, List.length_append, List.length_append]
    omega
mutual
theorem tx_len : ∀ p : Pt, Ok p → (tx p).length + 2 ≤ 66 * wt p
  | .tr p q m, h => by
    rw [Ok] at h
    have := dig_len h.2.2.2
    rw [tx, wt]
    simp only [List.length_append, List.length_cons, List.length_nil]
    omega
  | .ev k, h => by
    rw [tx, wt]
    show 1 + 2 ≤ 66 * 1
    decide
  | .ch o os, h => by
    rw [Ok] at h
    have h1 := txLL_len os h.2.2.2
    have h2 : (jn [32, 124, 32] (txLL os)).length ≤ ((txLL os).map fun t => t.length + 3).sum := jn_len [32, 124, 32] (txLL os)
    rw [tx, wt]
    simp only [List.length_append, List.length_cons, List.length_nil]
    omega
  | .rd o b, h => by
    rw [Ok] at h
    have := txB_len b h.2
    rw [tx, wt]
    simp only [List.length_append, List.length_cons, List.length_nil]
    omega
  | .en b, h => by
    rw [Ok] at h
    have := txB_len b h
    rw [tx, wt]
    simp only [List.length_append, List.length_cons, List.length_nil]
    omega
  | .ti c b, h => by
    rw [Ok] at h
    have := txB_len b h.2
    have h3 := dig_len3 h.1
    have h4 : wtL b ≤ wtL b * (if c < 1 then 1 else c) := Nat.le_mul_of_pos_right _ (by split <;> omega)
    rw [tx, wt]
    simp only [List.length_append, List.length_cons, List.length_nil]
    omega
theorem txs_len : ∀ l : List Pt, OkL l → ((txs l).map fun t => t.length + 2).sum ≤ 66 * wtL l
  | [], h => by rw [txs]; exact Nat.zero_le _
  | p :: l, h => by
    rw [OkL] at h
    have h1 := tx_len p h.1
    have h2 := txs_len l h.2
    rw [txs, wtL, List.map_cons, List.sum_cons]
    omega
theorem txB_len : ∀ l : List Pt, OkL l → (txB l).length ≤ 66 * wtL l + 1
  | [], h => by rw [txB, wtL]; decide
  | p :: l, h => by
    rw [OkL] at h
    have h1 := tx_len p h.1
    have h2 := txs_len l h.2
    have h3 : (jn [44, 32] (tx p :: txs l)).length ≤ ((tx p :: txs l).map fun t => t.length + 2).sum := jn_len [44, 32] (tx p :: txs l)
    rw [txB, wtL]
    rw [List.map_cons, List.sum_cons] at h3
    omega
theorem txLL_len : ∀ l : List (List Pt), OkLL l → ((txLL l).map fun t => t.length + 3).sum ≤ 66 * wtLL l + 4 * l.length
  | [], h => by rw [txLL]; exact Nat.zero_le _
  | b :: l, h => by
    rw [OkLL] at h
    have h1 := txB_len b h.1
    have h2 := txLL_len l h.2
    rw [txLL, wtLL, List.map_cons, List.sum_cons, List.length_cons]
    omega
end
end Pk
set_option Elab.async false
set_option linter.all false
set_option maxRecDepth 100000
set_option maxHeartbeats 4000000
namespace Z
open PySem PySem.Spec PyProof.Rows L2 Pk
open SX (S S_inj S_len S_cat)
/-! ### pacts in the heap -/
/-- the classes -/
structure Cs where
  T : Addr
  E : Addr
  C : Addr
  R : Addr
  N : Addr
  M : Addr
  P : Addr
def tl3 (w d : Nat) (t : List Nat) : List (Str × V) := [("weight", .int (w : Int)), ("depth", .int (d : Int)), ("text", .str (S t))]
def tlP (p : Pt) : List (Str × V) := tl3 (wt p) (dp p) (tx p)
/-- the fields of a pact -/
def pfl (t : Addr) (l : List Pt) : List (Str × V) := ("parts", .ref t) :: tl3 (wtL l) (dpL l) (txB l)
mutual
def PtAt (c : Cs) (K : PySem.W.Frag) (H : Hp) : Pt → Addr → Prop
  | .tr p q m, a => ∃ dx, H a = some (.ins c.T dx (("payer", .str (S [p])) :: ("payee", .str (S [q])) :: ("amount", .int (m : Int)) :: tlP (.tr p q m)))
  | .ev k, a => ∃ dx, H a = some (.ins c.E dx (("mark", .str (S [k])) :: tlP (.ev k)))
  | .ch o os, a => ∃ (dx t : Addr) (as : List Addr), H a = some (.ins c.C dx (("owner", .str (S [o])) :: ("options", .ref t) :: tlP (.ch o os))) ∧ SqT K H t (as.map V.ref) ∧ PasAt c K H os as
  | .rd o b, a => ∃ (dx x dy t : Addr) (as : List Addr), H a = some (.ins c.R dx (("owner", .str (S [o])) :: ("body", .ref x) :: tlP (.rd o b))) ∧ H x = some (.ins c.P dy (pfl t b)) ∧ SqT K H t (as.map V.ref) ∧ PtsAt c K H b as
  | .en b, a => ∃ (dx x dy t : Addr) (as : List Addr), H a = some (.ins c.N dx (("body", .ref x) :: tlP (.en b))) ∧ H x = some (.ins c.P dy (pfl t b)) ∧ SqT K H t (as.map V.ref) ∧ PtsAt c K H b as
  | .ti n b, a => ∃ (dx x dy t : Addr) (as : List Addr), H a = some (.ins c.M dx (("count", .int (n : Int)) :: ("body", .ref x) :: tlP (.ti n b))) ∧ H x = some (.ins c.P dy (pfl t b)) ∧ SqT K H t (as.map V.ref) ∧ PtsAt c K H b as
def PtsAt (c : Cs) (K : PySem.W.Frag) (H : Hp) : List Pt → List Addr → Prop
  | [], as => as = []
  | p :: l, as => ∃ a r, as = a :: r ∧ PtAt c K H p a ∧ PtsAt c K H l r
def PasAt (c : Cs) (K : PySem.W.Frag) (H : Hp) : List (List Pt) → List Addr → Prop
  | [], as => as = []
  | b :: l, as => ∃ x r, as = x :: r ∧ (∃ (dy t : Addr) (bs : List Addr), H x = some (.ins c.P dy (pfl t b)) ∧ SqT K H t (bs.map V.ref) ∧ PtsAt c K H b bs) ∧ PasAt c K H l r
end
/-- a pact -/
def PaAt (c : Cs) (K : PySem.W.Frag) (H : Hp) (b : List Pt) (x : Addr) : Prop := ∃ (dy t : Addr) (as : List Addr), H x = some (.ins c.P dy (pfl t b)) ∧ SqT K H t (as.map V.ref) ∧ PtsAt c K H b as
/-- all that is no new instance and no list stands as before -/
def SmW (H H' : Hp) : Prop := ∀ a o, H a = some o → (∀ C dx, o ≠ .ins C dx []) → (∀ xs, o ≠ .lst xs) → H' a = some o
/-- all that is no new instance stands as before -/
def SmN (H H' : Hp) : Prop := ∀ a o, H a = some o → (∀ C dx, o ≠ .ins C dx []) → H' a = some o
section
variable {c : Cs} {K : PySem.W.Frag} {H H' : Hp}
theorem SmN.ins (s : SmN H H') {a C dx : Addr} {x : Str × V} {fs : List (Str × V)} (h : H a = some (.ins C dx (x :: fs))) : H' a = some (.ins C dx (x :: fs)) := s _ _ h (fun _ _ z => by cases z)
theorem SmW.ins (s : SmW H H') {a C dx : Addr} {x : Str × V} {fs : List (Str × V)} (h : H a = some (.ins C dx (x :: fs))) : H' a = some (.ins C dx (x :: fs)) := s _ _ h (fun _ _ z => by cases z) (fun _ z => by cases z)
theorem SmW.tup (s : SmW H H') {a : Addr} {xs : List V} (h : SqT K H a xs) : SqT K H' a xs := by
  rcases h with (h | ⟨o, h⟩) | h
  · exact .inl (.inl (s _ _ h (fun _ _ z => by cases z) (fun _ z => by cases z)))
  · exact .inl (.inr ⟨o, s _ _ h (fun _ _ z => by cases z) (fun _ z => by cases z)⟩)
  · exact .inr h
theorem SmN.w (s : SmN H H') : SmW H H' := fun a o e h _ => s a o e h
theorem SmN.tup (s : SmN H H') {a : Addr} {xs : List V} (h : SqT K H a xs) : SqT K H' a xs := s.w.tup h
theorem smW_of (s : Same H H') : SmW H H' := fun a o e _ _ => s a o e
theorem SmW.trans {H2 : Hp} (s : SmW H H') (t : SmW H' H2) : SmW H H2 := fun a o e h l => t a o (s a o e h l) h l
theorem SmN.sqK (s : SmN H H') {q : Bool} {a : Addr} {xs : List V} (h : SqK q K H a xs) : SqK q K H' a xs := by
  cases q
  · exact s.tup h
  · rcases h with (h | ⟨o, h⟩) | h
    · exact .inl (.inl (s _ _ h (fun _ _ z => by cases z)))
    · exact .inl (.inr ⟨o, s _ _ h (fun _ _ z => by cases z)⟩)
    · exact .inr h
theorem smN_of (s : Same H H') : SmN H H' := fun a o e _ => s a o e
theorem SmN.trans {H2 : Hp} (s : SmN H H') (t : SmN H' H2) : SmN H H2 := fun a o e h => t a o (s a o e h) h
theorem smN_sb {n C dx : Addr} (s : SB n H H') (e : H n = some (.ins C dx [])) : SmN H H' := fun a o h nz => s a o (fun z => by rw [z, e] at h; cases h; exact nz _ _ rfl) h
mutual
theorem PtAt.monoW (s : SmW H H') : ∀ (p : Pt) (a : Addr), PtAt c K H p a → PtAt c K H' p a
  | .tr p q m, a, h => by
    rw [PtAt] at h ⊢
    obtain ⟨dx, h⟩ := h
    exact ⟨dx, s.ins h⟩
  | .ev k, a, h => by
    rw [PtAt] at h ⊢
    obtain ⟨dx, h⟩ := h
    exact ⟨dx, s.ins h⟩
  | .ch o os, a, h => by
    rw [PtAt] at h ⊢
    obtain ⟨dx, t, as, h1, h2, h3⟩ := h
    exact ⟨dx, t, as, s.ins h1, (s.tup h2), PasAt.monoW s os as h3⟩
  | .rd o b, a, h => by
    rw [PtAt] at h ⊢
    obtain ⟨dx, x, dy, t, as, h1, h2, h3, h4⟩ := h
    exact ⟨dx, x, dy, t, as, s.ins h1, s.ins h2, (s.tup h3), PtsAt.monoW s b as h4⟩
  | .en b, a, h => by
    rw [PtAt] at h ⊢
    obtain ⟨dx, x, dy, t, as, h1, h2, h3, h4⟩ := h
    exact ⟨dx, x, dy, t, as, s.ins h1, s.ins h2, (s.tup h3), PtsAt.monoW s b as h4⟩
  | .ti n b, a, h => by
    rw [PtAt] at h ⊢
    obtain ⟨dx, x, dy, t, as, h1, h2, h3, h4⟩ := h
    exact ⟨dx, x, dy, t, as, s.ins h1, s.ins h2, (s.tup h3), PtsAt.monoW s b as h4⟩
theorem PtsAt.monoW (s : SmW H H') : ∀ (l : List Pt) (as : List Addr), PtsAt c K H l as → PtsAt c K H' l as
  | [], as, h => by
    rw [PtsAt] at h ⊢
    exact h
  | p :: l, as, h => by
    rw [PtsAt] at h ⊢
    obtain ⟨a, r, h1, h2, h3⟩ := h
    exact ⟨a, r, h1, PtAt.monoW s p a h2, PtsAt.monoW s l r h3⟩
theorem PasAt.monoW (s : SmW H H') : ∀ (l : List (List Pt)) (as : List Addr), PasAt c K H l as → PasAt c K H' l as
  | [], as, h => by
    rw [PasAt] at h ⊢
    exact h
  | b :: l, as, h => by
    rw [PasAt] at h ⊢
    obtain ⟨x, r, h1, ⟨dy, t, bs, h2, h3, h4⟩, h5⟩ := h
    exact ⟨x, r, h1, ⟨dy, t, bs, s.ins h2, (s.tup h3), PtsAt.monoW s b bs h4⟩, PasAt.monoW s l r h5⟩
end
theorem PaAt.monoW (s : SmW H H') {b : List Pt} {x : Addr} (h : PaAt c K H b x) : PaAt c K H' b x := by
  obtain ⟨dy, t, bs, h2, h3, h4⟩ := h
  exact ⟨dy, t, bs, s.ins h2, (s.tup h3), PtsAt.monoW s b bs h4⟩
theorem PaAt.monoN (s : SmN H H') {b : List Pt} {x : Addr} (h : PaAt c K H b x) : PaAt c K H' b x := h.monoW s.w
theorem PtAt.monoN (s : SmN H H') (p : Pt) (a : Addr) (h : PtAt c K H p a) : PtAt c K H' p a := PtAt.monoW s.w p a h
theorem PtsAt.monoN (s : SmN H H') (l : List Pt) (as : List Addr) (h : PtsAt c K H l as) : PtsAt c K H' l as := PtsAt.monoW s.w l as h
theorem PasAt.monoN (s : SmN H H') (l : List (List Pt)) (as : List Addr) (h : PasAt c K H l as) : PasAt c K H' l as := PasAt.monoW s.w l as h
theorem PaAt.mono (s : Same H H') {b : List Pt} {x : Addr} (h : PaAt c K H b x) : PaAt c K H' b x := h.monoN (smN_of s)
theorem PtAt.mono (s : Same H H') (p : Pt) (a : Addr) (h : PtAt c K H p a) : PtAt c K H' p a := h.monoN (smN_of s)
theorem PtsAt.mono (s : Same H H') (l : List Pt) (as : List Addr) (h : PtsAt c K H l as) : PtsAt c K H' l as := h.monoN (smN_of s)
theorem PasAt.mono (s : Same H H') (l : List (List Pt)) (as : List Addr) (h : PasAt c K H l as) : PasAt c K H' l as := h.monoN (smN_of s)
theorem PaAt.sbN {n C dx : Addr} (h : PaAt c K H b x) (s : SB n H H') (e : H n = some (.ins C dx [])) : PaAt c K H' b x := h.monoN (smN_sb s e)
theorem ptsAt_app : ∀ (l m : List Pt) (as bs : List Addr), PtsAt c K H l as → PtsAt c K H m bs → PtsAt c K H (l ++ m) (as ++ bs)
  | [], m, as, bs, h, h2 => by
    rw [PtsAt] at h
    rw [h]
    exact h2
  | p :: l, m, as, bs, h, h2 => by
    rw [PtsAt] at h
    obtain ⟨a, r, rfl, h1, h3⟩ := h
    rw [List.cons_append, PtsAt]
    exact ⟨a, r ++ bs, rfl, h1, ptsAt_app l m r bs h3 h2⟩
theorem PtsAt.len : ∀ (l : List Pt) (as : List Addr), PtsAt c K H l as → as.length = l.length
  | [], as, h => by
    rw [PtsAt] at h
    rw [h]
    rfl
  | p :: l, as, h => by
    rw [PtsAt] at h
    obtain ⟨a, r, rfl, h1, h3⟩ := h
    rw [List.length_cons, List.length_cons, PtsAt.len l r h3]
theorem PtsAt.get : ∀ (l : List Pt) (as : List Addr), PtsAt c K H l as → ∀ (i : Nat) (p : Pt), l[i]? = some p → ∃ a, as[i]? = some a ∧ PtAt c K H p a
  | [], as, h, i, p, e => by cases e
  | q :: l, as, h, i, p, e => by
    rw [PtsAt] at h
    obtain ⟨a, r, rfl, h1, h3⟩ := h
    cases i with
    | zero =>
      cases e
      exact ⟨a, rfl, h1⟩
    | succ i => exact PtsAt.get l r h3 i p e
theorem ptsAt_of : ∀ (l : List Pt) (as : List Addr), as.length = l.length → (∀ (i : Nat) (p : Pt) (a : Addr), l[i]? = some p → as[i]? = some a → PtAt c K H p a) → PtsAt c K H l as
  | [], as, e, h => by
    rw [PtsAt]
    exact List.length_eq_zero_iff.mp e
  | p :: l, as, e, h => by
    cases as with
    | nil => cases e
    | cons a r =>
      rw [PtsAt]
      exact ⟨a, r, rfl, h 0 p a rfl rfl, ptsAt_of l r (by rw [List.length_cons, List.length_cons] at e; omega) fun i => h (i + 1)⟩
theorem PasAt.len : ∀ (l : List (List Pt)) (as : List Addr), PasAt c K H l as → as.length = l.length
  | [], as, h => by
    rw [PasAt] at h
    rw [h]
    rfl
  | p :: l, as, h => by
    rw [PasAt] at h
    obtain ⟨a, r, rfl, h1, h3⟩ := h
    rw [List.length_cons, List.length_cons, PasAt.len l r h3]
theorem PasAt.get : ∀ (l : List (List Pt)) (as : List Addr), PasAt c K H l as → ∀ (i : Nat) (b : List Pt), l[i]? = some b → ∃ x, as[i]? = some x ∧ PaAt c K H b x
  | [], as, h, i, p, e => by cases e
  | q :: l, as, h, i, p, e => by
    rw [PasAt] at h
    obtain ⟨a, r, rfl, h1, h3⟩ := h
    cases i with
    | zero =>
      cases e
      exact ⟨a, rfl, h1⟩
    | succ i => exact PasAt.get l r h3 i p e
theorem pasAt_of : ∀ (l : List (List Pt)) (as : List Addr), as.length = l.length → (∀ (i : Nat) (b : List Pt) (x : Addr), l[i]? = some b → as[i]? = some x → PaAt c K H b x) → PasAt c K H l as
  | [], as, e, h => by
    rw [PasAt]
    exact List.length_eq_zero_iff.mp e
  | p :: l, as, e, h => by
    cases as with
    | nil => cases e
    | cons a r =>
      rw [PasAt]
      exact ⟨a, r, rfl, h 0 p a rfl rfl, pasAt_of l r (by rw [List.length_cons, List.length_cons] at e; omega) fun i => h (i + 1)⟩
end
/-! ### described pacts: tuples and lists -/
mutual
def DtAt (H : Hp) : Pt → Addr → Prop
  | .tr p q m, a => H a = some (.tup [.str "transfer", .str (S [p]), .str (S [q]), .int (m : Int)])
  | .ev k, a => H a = some (.tup [.str "event", .str (S [k])])
  | .ch o os, a => ∃ (L : Addr) (as : List Addr), H a = some (.tup [.str "choice", .str (S [o]), .ref L]) ∧ H L = some (.lst (as.map V.ref)) ∧ DasAt H os as
  | .rd o b, a => ∃ (L : Addr) (as : List Addr), H a = some (.tup [.str "rounds", .str (S [o]), .ref L]) ∧ H L = some (.lst (as.map V.ref)) ∧ DtsAt H b as
  | .en b, a => ∃ (L : Addr) (as : List Addr), H a = some (.tup [.str "endless", .ref L]) ∧ H L = some (.lst (as.map V.ref)) ∧ DtsAt H b as
  | .ti n b, a => ∃ (L : Addr) (as : List Addr), H a = some (.tup [.str "times", .int (n : Int), .ref L]) ∧ H L = some (.lst (as.map V.ref)) ∧ DtsAt H b as
def DtsAt (H : Hp) : List Pt → List Addr → Prop
  | [], as => as = []
  | p :: l, as => ∃ a r, as = a :: r ∧ DtAt H p a ∧ DtsAt H l r
def DasAt (H : Hp) : List (List Pt) → List Addr → Prop
  | [], as => as = []
  | b :: l, as => ∃ L r, as = L :: r ∧ (∃ bs : List Addr, H L = some (.lst (bs.map V.ref)) ∧ DtsAt H b bs) ∧ DasAt H l r
end
/-- a described pact -/
def DaAt (H : Hp) (b : List Pt) (L : Addr) : Prop := ∃ bs : List Addr, H L = some (.lst (bs.map V.ref)) ∧ DtsAt H b bs
section
variable {H H' : Hp}
mutual
theorem DtAt.mono (s : Same H H') : ∀ (p : Pt) (a : Addr), DtAt H p a → DtAt H' p a
  | .tr p q m, a, h => by
    rw [DtAt] at h ⊢
    exact s _ _ h
  | .ev k, a, h => by
    rw [DtAt] at h ⊢
    exact s _ _ h
  | .ch o os, a, h => by
    rw [DtAt] at h ⊢
    obtain ⟨t, as, h1, h2, h3⟩ := h
    exact ⟨t, as, s _ _ h1, s _ _ h2, DasAt.mono s os as h3⟩
  | .rd o b, a, h => by
    rw [DtAt] at h ⊢
    obtain ⟨t, as, h1, h2, h3⟩ := h
    exact ⟨t, as, s _ _ h1, s _ _ h2, DtsAt.mono s b as h3⟩
  | .en b, a, h => by
    rw [DtAt] at h ⊢
    obtain ⟨t, as, h1, h2, h3⟩ := h
    exact ⟨t, as, s _ _ h1, s _ _ h2, DtsAt.mono s b as h3⟩
  | .ti n b, a, h => by
    rw [DtAt] at h ⊢
    obtain ⟨t, as, h1, h2, h3⟩ := h
    exact ⟨t, as, s _ _ h1, s _ _ h2, DtsAt.mono s b as h3⟩
theorem DtsAt.mono (s : Same H H') : ∀ (l : List Pt) (as : List Addr), DtsAt H l as → DtsAt H' l as
  | [], as, h => by
    rw [DtsAt] at h ⊢
    exact h
  | p :: l, as, h => by
    rw [DtsAt] at h ⊢
    obtain ⟨a, r, h1, h2, h3⟩ := h
    exact ⟨a, r, h1, DtAt.mono s p a h2, DtsAt.mono s l r h3⟩
theorem DasAt.mono (s : Same H H') : ∀ (l : List (List Pt)) (as : List Addr), DasAt H l as → DasAt H' l as
  | [], as, h => by
    rw [DasAt] at h ⊢
    exact h
  | b :: l, as, h => by
    rw [DasAt] at h ⊢
    obtain ⟨x, r, h1, ⟨bs, h3, h4⟩, h5⟩ := h
    exact ⟨x, r, h1, ⟨bs, s _ _ h3, DtsAt.mono s b bs h4⟩, DasAt.mono s l r h5⟩
end
theorem DaAt.mono (s : Same H H') {b : List Pt} {x : Addr} (h : DaAt H b x) : DaAt H' b x := by
  obtain ⟨bs, h3, h4⟩ := h
  exact ⟨bs, s _ _ h3, DtsAt.mono s b bs h4⟩
theorem dtsAt_app : ∀ (l m : List Pt) (as bs : List Addr), DtsAt H l as → DtsAt H m bs → DtsAt H (l ++ m) (as ++ bs)
  | [], m, as, bs, h, h2 => by
    rw [DtsAt] at h
    rw [h]
    exact h2
  | p :: l, m, as, bs, h, h2 => by
    rw [DtsAt] at h
    obtain ⟨a, r, rfl, h1, h3⟩ := h
    rw [List.cons_append, DtsAt]
    exact ⟨a, r ++ bs, rfl, h1, dtsAt_app l m r bs h3 h2⟩
theorem dtsAt_one {p : Pt} {a : Addr} (h : DtAt H p a) : DtsAt H [p] [a] := by
  rw [DtsAt]
  exact ⟨a, [], rfl, h, by rw [DtsAt]⟩
theorem dasAt_app : ∀ (l m : List (List Pt)) (as bs : List Addr), DasAt H l as → DasAt H m bs → DasAt H (l ++ m) (as ++ bs)
  | [], m, as, bs, h, h2 => by
    rw [DasAt] at h
    rw [h]
    exact h2
  | p :: l, m, as, bs, h, h2 => by
    rw [DasAt] at h
    obtain ⟨a, r, rfl, h1, h3⟩ := h
    rw [List.cons_append, DasAt]
    exact ⟨a, r ++ bs, rfl, h1, dasAt_app l m r bs h3 h2⟩
theorem dasAt_one {b : List Pt} {a : Addr} (h : DaAt H b a) : DasAt H [b] [a] := by
  rw [DasAt]
  exact ⟨a, [], rfl, h, by rw [DasAt]⟩
theorem DtsAt.len : ∀ (l : List Pt) (as : List Addr), DtsAt H l as → as.length = l.length
  | [], as, h => by
    rw [DtsAt] at h
    rw [h]
    rfl
  | p :: l, as, h => by
    rw [DtsAt] at h
    obtain ⟨a, r, rfl, h1, h3⟩ := h
    rw [List.length_cons, List.length_cons, DtsAt.len l r h3]
theorem DtsAt.get : ∀ (l : List Pt) (as : List Addr), DtsAt H l as → ∀ (i : Nat) (p : Pt), l[i]? = some p → ∃ a, as[i]? = some a ∧ DtAt H p a
  | [], as, h, i, p, e => by cases e
  | q :: l, as, h, i, p, e => by
    rw [DtsAt] at h
    obtain ⟨a, r, rfl, h1, h3⟩ := h
    cases i with
    | zero =>
      cases e
      exact ⟨a, rfl, h1⟩
    | succ i => exact DtsAt.get l r h3 i p e
theorem DtsAt.gets {H : Hp} : ∀ (l : List Pt) (as : List Addr), DtsAt H l as → ∀ (i : Nat) (x : V), (as.map V.ref)[i]? = some x → ∃ y p, x = .ref y ∧ l[i]? = some p ∧ DtAt H p y
  | [], as, h, i, x, e => by
    rw [DtsAt] at h
    rw [h] at e
    cases e
  | q :: l, as, h, i, x, e => by
    rw [DtsAt] at h
    obtain ⟨a, r, rfl, h1, h3⟩ := h
    cases i with
    | zero =>
      cases e
      exact ⟨a, q, rfl, rfl, h1⟩
    | succ i => exact DtsAt.gets l r h3 i x e
theorem DasAt.gets {H : Hp} : ∀ (l : List (List Pt)) (as : List Addr), DasAt H l as → ∀ (i : Nat) (x : V), (as.map V.ref)[i]? = some x → ∃ y p, x = .ref y ∧ l[i]? = some p ∧ DaAt H p y
  | [], as, h, i, x, e => by
    rw [DasAt] at h
    rw [h] at e
    cases e
  | q :: l, as, h, i, x, e => by
    rw [DasAt] at h
    obtain ⟨a, r, rfl, h1, h3⟩ := h
    cases i with
    | zero =>
      cases e
      exact ⟨a, q, rfl, rfl, h1⟩
    | succ i => exact DasAt.gets l r h3 i x e
theorem dtsAt_of : ∀ (l : List Pt) (as : List Addr), as.length = l.length → (∀ (i : Nat) (p : Pt) (a : Addr), l[i]? = some p → as[i]? = some a → DtAt H p a) → DtsAt H l as
  | [], as, e, h => by
    rw [DtsAt]
    exact List.length_eq_zero_iff.mp e
  | p :: l, as, e, h => by
    cases as with
    | nil => cases e
    | cons a r =>
      rw [DtsAt]
      exact ⟨a, r, rfl, h 0 p a rfl rfl, dtsAt_of l r (by rw [List.length_cons, List.length_cons] at e; omega) fun i => h (i + 1)⟩
theorem DasAt.len : ∀ (l : List (List Pt)) (as : List Addr), DasAt H l as → as.length = l.length
  | [], as, h => by
    rw [DasAt] at h
    rw [h]
    rfl
  | p :: l, as, h => by
    rw [DasAt] at h
    obtain ⟨a, r, rfl, h1, h3⟩ := h
    rw [List.length_cons, List.length_cons, DasAt.len l r h3]
theorem DasAt.get : ∀ (l : List (List Pt)) (as : List Addr), DasAt H l as → ∀ (i : Nat) (b : List Pt), l[i]? = some b → ∃ x, as[i]? = some x ∧ DaAt H b x
  | [], as, h, i, p, e => by cases e
  | q :: l, as, h, i, p, e => by
    rw [DasAt] at h
    obtain ⟨a, r, rfl, h1, h3⟩ := h
    cases i with
    | zero =>
      cases e
      exact ⟨a, rfl, h1⟩
    | succ i => exact DasAt.get l r h3 i p e
end
/-! ### numbers as texts -/
theorem str_dig (n : Nat) : Str.ofString (toString (n : Int)) = S (dig n) := by
  rw [Str.ofString_eq_toList, show toString (n : Int) = Nat.repr n from rfl]
  unfold dig Nat.repr
  rw [String.toList_ofList]
end Z
set_option linter.all false
set_option maxRecDepth 100000
namespace Z
open PySem PySem.Spec PyProof.Rows L2
theorem none_of {H J : Hp} {p : Addr} (s : Same H J) (n : J p = none) : H p = none := by
  cases e : H p with
  | none => rfl
  | some o =>
    have := s p o e
    rw [n] at this
    cases this
theorem szC {n : Nat} (h : n ≤ 10000000) : n < sizeLine := Nat.lt_of_le_of_lt h (by decide)
theorem ixN_nat {n j : Nat} (h : j < n) : ixN n (j : Int) = some j := by
  unfold ixN
  rw [if_pos (by omega)]
  first
    | (rw [if_pos (by omega)]; congr 1)
    | simp [h]
theorem sqk_or {q : Bool} {K : PySem.W.Frag} {H : Hp} {a : Addr} {xs : List V} (h : SqK q K H a xs) : SqL K H a xs ∨ SqT K H a xs := by
  cases q
  · exact .inr h
  · exact .inl h
theorem nd_inj {l : List Nat} (nd : l.Nodup) {i j c : Nat} (hi : l[i]? = some c) (hj : l[j]? = some c) : i = j := by
  obtain ⟨h1, e1⟩ := List.getElem?_eq_some_iff.mp hi
  exact (List.getElem?_inj h1 nd).mp (hi.trans hj.symm)
theorem relv_ref {a : Addr} : L2.RelV (.ref a) (.ref a) := rfl
end Z
set_option Elab.async false
set_option linter.all false
set_option maxRecDepth 100000
set_option maxHeartbeats 4000000
namespace Z
open PySem PySem.Spec PyProof.Rows L2
/-! ### [e for x in xs], xs a list or tuple of any values, the values of e known -/
theorem lc_vs {b : Bool} {K : PySem.W.Frag} {a D : Addr} {xs : List V} {H0 : Hp} {i : Nat} {te : TE} {vs : List Nat} {σ : L2.St} {Qd : Hp → Prop} (hS : SqK b K H0 a xs) (ys : List V) (hl : ys.length = xs.length) (hn : xs.length ≤ 1000000) (nD : H0 D = none)
    (hw : ∀ x : V, wipe ((wipe σ vs).set i (some x)) vs = wipe σ vs)
    (ht : ∀ (k : Nat) (x y : V) J (Q : VK), xs[k]? = some x → ys[k]? = some y → Same H0 J → (∀ J2, Same J J2 → Q y J2) → te ((wipe σ vs).set i (some x)) J Q)
    (hd : ∀ J, Same H0 J → J D = some (.lst ys) → Qd J) : lcW (ItQ b K a) (gName i) tYes te vs σ D Qd H0 := by
  have gx : ∀ k, k < xs.length → xs[k]? = some (xs.getD k .non) := fun k hk => by
    rw [List.getD_eq_getElem?_getD, List.getElem?_eq_getElem hk]
    rfl
  have gy : ∀ k, k < xs.length → ys[k]? = some (ys.getD k .non) := fun k hk => by
    rw [List.getD_eq_getElem?_getD, List.getElem?_eq_getElem (by omega)]
    rfl
  refine lc_flt (n := xs.length) (fun k => xs.getD k .non) (fun _ => true) (fun k => ys.getD k .non) hn nD (fun k J hk s => itq_go (Z.Same.sqK s hS) (gx k hk)) (fun J s => itq_stop (Z.Same.sqK s hS) (Nat.le_refl _)) (fun k J x J2 hk s y => ?_) (fun k => hw _) (fun k J Q1 _ _ q1 => q1 _ (Same.refl _)) (fun k J Q1 hk _ s q1 => ?_) (fun J s eD => hd J s ?_)
  · obtain ⟨rfl, ex⟩ := itq_yld (Z.Same.sqK s hS) y
    rw [gx k hk] at ex
    cases ex
    exact ⟨Same.refl _, rfl⟩
  · exact ht k _ _ J Q1 (gx k hk) (gy k hk) s q1
  · rw [eD]
    congr 2
    unfold fltL
    rw [List.filter_eq_self.mpr (fun _ _ => rfl)]
    refine List.ext_getElem? fun k => ?_
    rw [List.getElem?_map]
    by_cases hk : k < xs.length
    · rw [List.getElem?_range hk, gy k hk]
      rfl
    · rw [List.getElem?_eq_none (by rw [List.length_range]; omega), List.getElem?_eq_none (by omega)]
      rfl
/-- the list form of a walk -/
theorem lc_vsL {K : PySem.W.Frag} {a D : Addr} {xs : List V} {H0 : Hp} {i : Nat} {te : TE} {vs : List Nat} {σ : L2.St} {Qd : Hp → Prop} (hS : SqL K H0 a xs) (ys : List V) (hl : ys.length = xs.length) (hn : xs.length ≤ 1000000) (nD : H0 D = none)
    (hw : ∀ x : V, wipe ((wipe σ vs).set i (some x)) vs = wipe σ vs)
    (ht : ∀ (k : Nat) (x y : V) J (Q : VK), xs[k]? = some x → ys[k]? = some y → Same H0 J → (∀ J2, Same J J2 → Q y J2) → te ((wipe σ vs).set i (some x)) J Q)
    (hd : ∀ J, Same H0 J → J D = some (.lst ys) → Qd J) : lcW (Itl K a) (gName i) tYes te vs σ D Qd H0 := lc_vs (b := true) hS ys hl hn nD hw ht hd
/-! ### tuple(xs), xs a list or a tuple -/
theorem tup_sq {K : PySem.W.Frag} {q : Bool} {H : Hp} {a : Addr} {xs : List V} {Q : VK} (h : SqK q K H a xs) (hq : ∀ t H', Same H H' → SqT K H' t xs → Q (.ref t) H') : (SqL K H a xs ∧ ∀ l, H l = none → Q (.ref l) (upd H l (.tup xs))) ∨ (SqT K H a xs ∧ Q (.ref a) H) := by
  cases q
  · exact .inr ⟨h, hq a H (Same.refl _) h⟩
  · exact .inl ⟨h, fun l nl => hq l _ (same_new nl) (SqT.of upd_same)⟩
def rTupSq (K : PySem.W.Frag) : List V → Hp → VK → Prop := fun vs H Q => ∃ (q : Bool) (a : Addr) (xs : List V), vs = [.ref a] ∧ SqK q K H a xs ∧ ∀ t H', Same H H' → SqT K H' t xs → Q (.ref t) H'
theorem call_tupleSq {X : Cx} : CallR X (.type "tuple") (rTupSq X.K) := by
  intro pins s σ H vs us Q I r h
  obtain ⟨q, a, xs, rfl, hS, hq⟩ := h
  exact call_tuple_of pins s σ H _ us Q I r ⟨a, xs, rfl, tup_sq hS hq⟩
end Z
set_option Elab.async false
set_option linter.all false
set_option maxRecDepth 100000
set_option maxHeartbeats 4000000
namespace Z
open PySem PySem.Spec PyProof.Rows L2
open SX (S S_inj S_len S_cat)
/-! ### draws and their place -/
structure Tk (K : PySem.W.Frag) (a p : Addr) (ds : List Int) (n : Nat) (H0 H1 : Hp) : Prop where
  hA : H1 a = some (.lst (ds.map V.int))
  hd : Dr n ds
  ne : a ≠ p
  sb : SB p H0 H1
  pl : ∃ m : Nat, H1 p = some (.lst [.int (m : Int)])
section
variable {K : PySem.W.Frag} {a p : Addr} {ds : List Int} {n m : Nat} {H0 H1 H2 : Hp}
theorem Tk.more (t : Tk K a p ds n H0 H1) (s : Same H1 H2) : Tk K a p ds n H0 H2 := by
  obtain ⟨m, e⟩ := t.pl
  exact ⟨s _ _ t.hA, t.hd, t.ne, t.sb.trans (Z.Same.sb s), m, s _ _ e⟩
theorem Tk.next (t : Tk K a p ds n H0 H1) (e : H1 p = some (.lst [.int (m : Int)])) : Tk K a p ds n H0 (upd H1 p (.lst [.int ((m + 1 : Nat) : Int)])) ∧ SB p H1 (upd H1 p (.lst [.int ((m + 1 : Nat) : Int)])) := by
  have sb : SB p H1 (upd H1 p (.lst [.int ((m + 1 : Nat) : Int)])) := SB.upd (Z.Same.sb (Same.refl H1))
  exact ⟨⟨sb _ _ t.ne t.hA, t.hd, t.ne, t.sb.trans sb, m + 1, upd_same⟩, sb⟩
theorem Tk.slf (t : Tk K a p ds n H0 H1) : Tk K a p ds n H1 H1 := ⟨t.hA, t.hd, t.ne, Z.Same.sb (Same.refl _), t.pl⟩
theorem Tk.tr (t : Tk K a p ds n H0 H1) (u : Tk K a p ds n H1 H2) : Tk K a p ds n H0 H2 := ⟨u.hA, u.hd, u.ne, t.sb.trans u.sb, u.pl⟩
theorem Tk.nn {q : Addr} (t : Tk K a p ds n H0 H1) (h : H1 q = none) : H0 q = none := by
  cases e : H0 q with
  | none => rfl
  | some o =>
    have pq : q ≠ p := fun z => by
      obtain ⟨m, em⟩ := t.pl
      rw [z, em] at h
      cases h
    rw [t.sb _ _ pq e] at h
    cases h
theorem Tk.at_ {q : Addr} {o : HO} (t : Tk K a p ds n H0 H1) (h : H0 q = none) (hp : p ≠ q) (ha : a ≠ q) : Tk K a p ds n H0 (upd H1 q o) := by
  obtain ⟨m, em⟩ := t.pl
  refine ⟨by rw [upd_ne ha]; exact t.hA, t.hd, t.ne, fun b u n1 n2 => ?_, m, by rw [upd_ne hp]; exact em⟩
  have bq : b ≠ q := fun z => by rw [z, h] at n2; cases n2
  rw [upd_ne bq]
  exact t.sb _ _ n1 n2
/-- an object other than the place lives on -/
theorem Tk.up (t : Tk K a p ds n H0 H1) {b : Addr} {o : HO} (e : H0 b = some o) (h : b ≠ p) : H1 b = some o := t.sb _ _ h e
end
theorem at_0 {α : Type} {x : α} {xs : List α} : atI (x :: xs) 0 = some x := show atI _ ((0 : Nat) : Int) = _ from atI_nat rfl
theorem at_1 {α : Type} {x y : α} {xs : List α} : atI (x :: y :: xs) 1 = some y := show atI _ ((1 : Nat) : Int) = _ from atI_nat rfl
theorem at_2 {α : Type} {x y z : α} {xs : List α} : atI (x :: y :: z :: xs) 2 = some z := show atI _ ((2 : Nat) : Int) = _ from atI_nat rfl
theorem at_3 {α : Type} {x y z u : α} {xs : List α} : atI (x :: y :: z :: u :: xs) 3 = some u := show atI _ ((3 : Nat) : Int) = _ from atI_nat rfl
theorem sum_one : ∀ l : List Nat, (l.map fun _ => 1).sum = l.length
  | [] => rfl
  | _ :: r => by
    rw [List.map_cons, List.sum_cons, sum_one r, List.length_cons]
    omega
theorem join_one : ∀ l : List Nat, TL.joinL [] (l.map fun c => [c]) = l
  | [] => rfl
  | [c] => rfl
  | c :: d :: r => by
    have ih := join_one (d :: r)
    show [c] ++ ([] ++ TL.joinL [] ((d :: r).map fun c => [c])) = _
    rw [ih]
    rfl
theorem ixv {b : Bool} {K : PySem.W.Frag} {H : Hp} {a : Addr} {xs : List V} {i : Int} {v : V} {Q : VK} (hS : SqK b K H a xs) (e : atI xs i = some v) (q : Q v H) : rIx K (.ref a) (.int i) H Q := by
  cases b
  · exact .inr (.inl ⟨a, _, _, _, rfl, rfl, hS, e, q⟩)
  · exact .inl ⟨a, _, _, _, rfl, rfl, hS, e, q⟩
theorem sgn_at (z : Str) (r : Int) (h : 0 < z.length) : ∃ c, atI z.cps.toList (r % (z.length : Int)) = some c := by
  have h1 := Int.emod_nonneg r (show (z.length : Int) ≠ 0 by omega)
  have h2 := Int.emod_lt_of_pos r (show 0 < (z.length : Int) by omega)
  obtain ⟨j, hj⟩ : ∃ j : Nat, r % (z.length : Int) = (j : Int) := ⟨(r % (z.length : Int)).toNat, by omega⟩
  rw [hj] at h2 ⊢
  have hl : j < z.cps.toList.length := by
    show j < z.cps.size
    have : z.length = z.cps.size := rfl
    omega
  exact ⟨z.cps.toList[j], atI_nat (List.getElem?_eq_getElem hl)⟩
theorem modN (r : Int) {n : Nat} (h : 0 < n) : ∃ c : Nat, r % (n : Int) = (c : Int) ∧ c < n := by
  have h1 := Int.emod_nonneg r (show (n : Int) ≠ 0 by omega)
  have h2 := Int.emod_lt_of_pos r (show 0 < (n : Int) by omega)
  exact ⟨(r % (n : Int)).toNat, by omega, by omega⟩
/-! ### what is new -/
/-- the objects that are new -/
def nw (H H' : Hp) : Hp := fun a => match H a with | none => H' a | some _ => none
/-- the new objects other than D -/
def nwD (H : Hp) (D : Addr) (H' : Hp) : Hp := fun a => if a = D then none else nw H H' a
def del (H : Hp) (D : Addr) : Hp := fun a => if a = D then none else H a
section
variable {H H1 H2 H3 : Hp} {D p : Addr}
theorem nw_some {a : Addr} {o : HO} (h : nw H H1 a = some o) : H a = none ∧ H1 a = some o := by
  unfold nw at h
  cases e : H a with
  | none =>
    rw [e] at h
    exact ⟨rfl, h⟩
  | some u =>
    rw [e] at h
    cases h
theorem nw_of {a : Addr} {o : HO} (h : H a = none) (h2 : H1 a = some o) : nw H H1 a = some o := by
  unfold nw
  rw [h]
  exact h2
theorem nwD_some {a : Addr} {o : HO} (h : nwD H D H1 a = some o) : a ≠ D ∧ H a = none ∧ H1 a = some o := by
  unfold nwD at h
  by_cases c : a = D
  · rw [if_pos c] at h
    cases h
  · rw [if_neg c] at h
    exact ⟨c, nw_some h⟩
theorem nwD_of {a : Addr} {o : HO} (n : a ≠ D) (h : H a = none) (h2 : H1 a = some o) : nwD H D H1 a = some o := by
  unfold nwD
  rw [if_neg n]
  exact nw_of h h2
theorem nw_same : Same (nw H H1) H1 := fun _ _ h => (nw_some h).2
theorem nwD_nw : Same (nwD H D H1) (nw H H1) := fun _ _ h => nw_of (nwD_some h).2.1 (nwD_some h).2.2
theorem nwD_same : Same (nwD H D H1) H1 := fun _ _ h => (nwD_some h).2.2
theorem del_same : Same (del H D) H := fun a o h => by
  unfold del at h
  by_cases c : a = D
  · rw [if_pos c] at h
    cases h
  · rw [if_neg c] at h
    exact h
theorem del_of {a : Addr} {o : HO} (n : a ≠ D) (h : H a = some o) : del H D a = some o := by
  unfold del
  rw [if_neg n]
  exact h
theorem del_mono (s : Same H H1) : Same (del H D) (del H1 D) := fun a o h => by
  unfold del at h
  by_cases c : a = D
  · rw [if_pos c] at h
    cases h
  · rw [if_neg c] at h
    exact del_of c (s _ _ h)
theorem del_sb (s : SB D H H1) : Same (del H D) (del H1 D) := fun a o h => by
  unfold del at h
  by_cases c : a = D
  · rw [if_pos c] at h
    cases h
  · rw [if_neg c] at h
    exact del_of c (s _ _ c h)
/-- objects of a heap where D is not yet -/
theorem del_new (s : Same H H1) (n : H D = none) : Same H (del H1 D) := fun a o h => del_of (fun e => by rw [e, n] at h; cases h) (s _ _ h)
/-- what is new from H1 to H2, told from H on -/
theorem nw_tail (nn : ∀ q, H1 q = none → H q = none) (hD : H1 D ≠ none) : Same (nw H1 H2) (nwD H D H2) := fun a o h => nwD_of (fun e => hD (e ▸ (nw_some h).1)) (nn _ (nw_some h).1) (nw_some h).2
theorem nwD_sb (s : SB p H1 H2) (hp : H p ≠ none) : Same (nwD H D H1) (nwD H D H2) := fun a o h => nwD_of (nwD_some h).1 (nwD_some h).2.1 (s _ _ (fun e => hp (e ▸ (nwD_some h).2.1)) (nwD_some h).2.2)
theorem nwD_upd {o : HO} : Same (nwD H D H1) (nwD H D (upd H1 D o)) := fun a u h => nwD_of (nwD_some h).1 (nwD_some h).2.1 (by rw [upd_ne (nwD_some h).1]; exact (nwD_some h).2.2)
theorem nw_trans (nn : ∀ q, H1 q = none → H q = none) : Same (nw H1 H2) (nw H H2) := fun a o h => nw_of (nn _ (nw_some h).1) (nw_some h).2
theorem nw_sb (s : SB p H1 H2) (hp : H p ≠ none) : Same (nw H H1) (nw H H2) := fun a o h => nw_of (nw_some h).1 (s _ _ (fun e => hp (e ▸ (nw_some h).1)) (nw_some h).2)
end
theorem Tk.hp {K : PySem.W.Frag} {a p : Addr} {ds : List Int} {n : Nat} {H0 H1 : Hp} (t : Tk K a p ds n H0 H1) : H1 p ≠ none := by
  obtain ⟨m, e⟩ := t.pl
  rw [e]
  exact fun z => by cases z
/-- [e for ..], the values drawn: each value is told by its new objects -/
theorem lc_nw {K : PySem.W.Frag} {a p : Addr} {ds : List Int} {m : Nat} {J : It} {D : Addr} {n : Nat} {H0 : Hp} {i : Nat} {te : TE} {vs : List Nat} {σ : L2.St} {Qd : Hp → Prop} (G : Nat → Hp → V → Prop) (mono : ∀ i X Y y, Same X Y → G i X y → G i Y y) (hT : Tk K a p ds m H0 H0) (nD : H0 D = none) (hn : n ≤ 1000000)
    (hgo : ∀ k J', k < n → J.go k J') (hst : ∀ J', J.stop n J') (hy : ∀ k J1 x J2, k < n → J.yld k J1 x J2 → J2 = J1)
    (hw : ∀ x : V, wipe ((wipe σ vs).set i (some x)) vs = wipe σ vs)
    (ht : ∀ (k : Nat) (x : V) J1 (Q : VK), k < n → J.yld k J1 x J1 → Tk K a p ds m H0 J1 → (∀ y J2, Tk K a p ds m J1 J2 → G k (nw J1 J2) y → Q y J2) → te ((wipe σ vs).set i (some x)) J1 Q)
    (hd : ∀ J1 ys, Tk K a p ds m H0 J1 → J1 D = some (.lst ys) → ys.length = n → (∀ k y, ys[k]? = some y → G k (nwD H0 D J1) y) → Qd J1) : lcW J (gName i) tYes te vs σ D Qd H0 := by
  have Dp : p ≠ D := fun e => hT.hp (e ▸ nD)
  have aD : a ≠ D := fun e => by have := hT.hA; rw [e, nD] at this; cases this
  refine lc_gen (n := n) (fun k J1 => Tk K a p ds m H0 J1 ∧ ∃ ys, J1 D = some (.lst ys) ∧ ys.length = k ∧ ∀ k y, ys[k]? = some y → G k (nwD H0 D J1) y) ⟨hT.more (same_new nD), [], upd_same, rfl, fun k y e => by cases e⟩ (fun k J1 hk _ => hgo k J1 hk) (fun J1 _ => hst J1) (fun k J1 x J2 hk ⟨hT1, ys, eD, ly, hG⟩ y => ?_) (fun J1 ⟨hT1, ys, eD, ly, hG⟩ => hd J1 ys hT1 eD ly hG)
  obtain rfl := hy k J1 x J2 hk y
  refine ⟨hw x, ?_⟩
  show te ((wipe σ vs).set i (some x)) J2 _
  refine ht k x J2 _ hk y hT1 fun v J3 hT3 hv => ?_
  have eD3 := hT3.up eD Dp.symm
  refine ⟨ys, eD3, Nat.lt_of_le_of_lt (show ys.length ≤ 1000000 by omega) (by decide), (hT1.tr hT3).at_ nD Dp aD, ys ++ [v], upd_same, by rw [List.length_append, ly]; rfl, fun k2 y2 e => ?_⟩
  refine mono _ _ _ _ nwD_upd ?_
  by_cases c : k2 < ys.length
  · rw [List.getElem?_append_left c] at e
    exact mono _ _ _ _ (nwD_sb hT3.sb hT.hp) (hG _ _ e)
  · rw [List.getElem?_append_right (by omega)] at e
    have k0 : k2 = k := by
      have := (List.getElem?_eq_some_iff.mp e).1
      simp only [List.length_cons, List.length_nil] at this
      omega
    subst k0
    rw [ly, Nat.sub_self] at e
    cases e
    exact mono _ _ _ _ (nw_tail (fun q h => hT1.nn h) (by rw [eD]; exact fun z => by cases z)) hv
/-- [e for x in xs], each value told by what stays if only lists change -/
theorem lc_rel {b : Bool} {K : PySem.W.Frag} {a D : Addr} {xs : List V} {H0 : Hp} {i : Nat} {te : TE} {vs : List Nat} {σ : L2.St} {Qd : Hp → Prop} (G : Nat → Hp → V → Prop) (mono : ∀ i X Y y, SmW X Y → G i X y → G i Y y) (hS : SqK b K H0 a xs) (hn : xs.length ≤ 1000000) (nD : H0 D = none)
    (hw : ∀ x : V, wipe ((wipe σ vs).set i (some x)) vs = wipe σ vs)
    (ht : ∀ (k : Nat) (x : V) J1 (Q : VK), xs[k]? = some x → Same H0 J1 → (∀ y J2, Same J1 J2 → G k J2 y → Q y J2) → te ((wipe σ vs).set i (some x)) J1 Q)
    (hd : ∀ J1 ys, Same H0 J1 → J1 D = some (.lst ys) → ys.length = xs.length → (∀ k y, ys[k]? = some y → G k J1 y) → Qd J1) : lcW (ItQ b K a) (gName i) tYes te vs σ D Qd H0 := by
  have gx : ∀ k, k < xs.length → xs[k]? = some (xs.getD k .non) := fun k hk => by
    rw [List.getD_eq_getElem?_getD, List.getElem?_eq_getElem hk]
    rfl
  refine lc_gen (n := xs.length) (fun k J1 => Same H0 J1 ∧ ∃ ys, J1 D = some (.lst ys) ∧ ys.length = k ∧ ∀ k y, ys[k]? = some y → G k J1 y) ⟨same_new nD, [], upd_same, rfl, fun k y e => by cases e⟩ (fun k J1 hk h => itq_go (Z.Same.sqK h.1 hS) (gx k hk)) (fun J1 h => itq_stop (Z.Same.sqK h.1 hS) (Nat.le_refl _)) (fun k J1 x J2 hk ⟨s1, ys, eD, ly, hG⟩ y => ?_) (fun J1 ⟨s1, ys, eD, ly, hG⟩ => hd J1 ys s1 eD ly hG)
  obtain ⟨rfl, ex⟩ := itq_yld (Z.Same.sqK s1 hS) y
  refine ⟨hw x, ?_⟩
  show te ((wipe σ vs).set i (some x)) J2 _
  refine ht k x J2 _ ex s1 fun v J3 s3 hv => ?_
  have eD3 := s3 _ _ eD
  have sw : SmW J3 (upd J3 D (.lst (ys ++ [v]))) := fun c o e _ nl => by
    by_cases cD : c = D
    · rw [cD, eD3] at e
      cases e
      exact absurd rfl (nl _)
    · rw [upd_ne cD]
      exact e
  refine ⟨ys, eD3, Nat.lt_of_le_of_lt (show ys.length ≤ 1000000 by omega) (by decide), Z.Same.mut (s1.trans s3) nD, ys ++ [v], upd_same, by rw [List.length_append, ly]; rfl, fun k2 y2 e => ?_⟩
  refine mono _ _ _ _ sw ?_
  by_cases c : k2 < ys.length
  · rw [List.getElem?_append_left c] at e
    exact mono _ _ _ _ (smW_of s3) (hG _ _ e)
  · rw [List.getElem?_append_right (by omega)] at e
    have k0 : k2 = k := by
      have := (List.getElem?_eq_some_iff.mp e).1
      simp only [List.length_cons, List.length_nil] at this
      omega
    subst k0
    rw [ly, Nat.sub_self] at e
    cases e
    exact hv
theorem lc_relL {K : PySem.W.Frag} {a D : Addr} {xs : List V} {H0 : Hp} {i : Nat} {te : TE} {vs : List Nat} {σ : L2.St} {Qd : Hp → Prop} (G : Nat → Hp → V → Prop) (mono : ∀ i X Y y, SmW X Y → G i X y → G i Y y) (hS : SqL K H0 a xs) (hn : xs.length ≤ 1000000) (nD : H0 D = none)
    (hw : ∀ x : V, wipe ((wipe σ vs).set i (some x)) vs = wipe σ vs)
    (ht : ∀ (k : Nat) (x : V) J1 (Q : VK), xs[k]? = some x → Same H0 J1 → (∀ y J2, Same J1 J2 → G k J2 y → Q y J2) → te ((wipe σ vs).set i (some x)) J1 Q)
    (hd : ∀ J1 ys, Same H0 J1 → J1 D = some (.lst ys) → ys.length = xs.length → (∀ k y, ys[k]? = some y → G k J1 y) → Qd J1) : lcW (Itl K a) (gName i) tYes te vs σ D Qd H0 := lc_rel (b := true) G mono hS hn nD hw ht hd
/-- values that are all references -/
theorem refs_of : ∀ (ys : List V), (∀ (k : Nat) y, ys[k]? = some y → ∃ x, y = V.ref x) → ∃ as : List Addr, ys = as.map V.ref
  | [], _ => ⟨[], rfl⟩
  | y :: ys, h => by
    obtain ⟨x, rfl⟩ := h 0 y rfl
    obtain ⟨as, rfl⟩ := refs_of ys fun k y e => h (k + 1) y e
    exact ⟨x :: as, rfl⟩
end Z
set_option pp.maxSteps 700
set_option Elab.async false
set_option linter.all false
set_option maxRecDepth 100000
set_option maxHeartbeats 4000000
open SX (S S_inj S_len S_cat)
namespace Z
open Pk NdefX
open PySem PySem.Spec PyProof.Rows L2
open C8 (pss_cut tCut)
local macro_rules | `(tactic| walk_at "num") => `(tactic| first | rfl | omega | decide | exact Nat.le_of_lt (small1000 (by simp)) | exact ⟨by omega, by omega⟩ | exact ⟨by omega, by omega, by omega⟩ | exact ⟨by decide, by decide, by decide⟩ | exact Or.inl ⟨by omega, by omega⟩ | exact Or.inr ⟨by omega, by omega⟩)
local macro_rules | `(tactic| walk_at "go") => `(tactic| repeat (first | refine ⟨_, rfl, ?_⟩ | refine ⟨_, _, rfl, rfl, ?_⟩ | refine ⟨_, _, rfl, ?_⟩ | (refine ⟨_, _, rfl, rfl, ?_, ?_⟩; focus walk_at "num") | refine Or.inl ⟨_, rfl, ?_⟩ | refine ⟨_, _, _, _, rfl, rfl, (by assumption), (by rfl), ?_⟩ | refine ⟨_, _, _, _, _, rfl, (by assumption), (by assumption), (by assumption), (by rfl), ?_⟩ | refine ⟨rfl, ?_⟩ | (refine And.intro ?_ ?_; focus walk_at "num")))
abbrev s_is_party : Stmt := topS 15
abbrev N_is_party : List Str := ["text"]
abbrev P_is_party : List Str := ["text"]
theorem sc_is_party : FnScope N_is_party P_is_party (defScope s_is_party) := ⟨rfl, rfl, rfl, by decide +kernel, rfl, by decide +kernel, by decide +kernel⟩
abbrev s_is_mark : Stmt := topS 16
abbrev N_is_mark : List Str := ["text"]
abbrev P_is_mark : List Str := ["text"]
theorem sc_is_mark : FnScope N_is_mark P_is_mark (defScope s_is_mark) := ⟨rfl, rfl, rfl, by decide +kernel, rfl, by decide +kernel, by decide +kernel⟩
abbrev s_check_party : Stmt := topS 17
abbrev N_check_party : List Str := ["party"]
abbrev P_check_party : List Str := ["party"]
theorem sc_check_party : FnScope N_check_party P_check_party (defScope s_check_party) := ⟨rfl, rfl, rfl, by decide +kernel, rfl, by decide +kernel, by decide +kernel⟩
abbrev s_check_mark : Stmt := topS 18
abbrev N_check_mark : List Str := ["mark"]
abbrev P_check_mark : List Str := ["mark"]
theorem sc_check_mark : FnScope N_check_mark P_check_mark (defScope s_check_mark) := ⟨rfl, rfl, rfl, by decide +kernel, rfl, by decide +kernel, by decide +kernel⟩
abbrev s_check_size : Stmt := topS 26
abbrev N_check_size : List Str := ["weight", "depth"]
abbrev P_check_size : List Str := ["weight", "depth"]
theorem sc_check_size : FnScope N_check_size P_check_size (defScope s_check_size) := ⟨rfl, rfl, rfl, by decide +kernel, rfl, by decide +kernel, by decide +kernel⟩
abbrev s_Part___init__ : Stmt := inClass (topS 27) 1
abbrev N_Part___init__ : List Str := ["self", "weight", "depth", "text"]
abbrev P_Part___init__ : List Str := ["self", "weight", "depth", "text"]
theorem sc_Part___init__ : FnScope N_Part___init__ P_Part___init__ (defScope s_Part___init__) := ⟨rfl, rfl, rfl, by decide +kernel, rfl, by decide +kernel, by decide +kernel⟩
theorem relv_str {x : Str} {t : Tok} : L2.RelV (.str x) (.str x t) := ⟨t, rfl⟩
theorem szl {n : Nat} (h : n ≤ 100000) : n ≤ sizeLine := Nat.le_trans h (by decide)
abbrev FnM (K : PySem.W.Frag) (x q : Str) (st : Stmt) (f : Addr) (fd : FuncData) : Prop := FunD K x q (defArgs st) (defBody st) (defScope st) [] [] f fd
theorem emS (a : List Nat) : Str.empty ++ S a = S a := S_cat [] a
theorem lg60 {m : Nat} (h : m ≤ 10 ^ 60) : ((m : Int)).natAbs.log2 < 1920 := by
  rw [Int.natAbs_natCast]
  by_cases c : m = 0
  · rw [c]
    decide
  · exact (Nat.log2_lt c).mpr (Nat.lt_of_le_of_lt h (by decide +kernel))
def isPy (t : List Nat) : Bool := decide (t.length = 1) && t.all fun c => decide (c ∈ PAR)
def isMk (t : List Nat) : Bool := decide (t.length = 1) && t.all fun c => decide (c ∈ MRK)
theorem par_eq : (Str.ofString "abcdef").cps.toList = PAR := by decide +kernel
theorem mrk_eq : (Str.ofString "ABCDEFGHIJKLMNOPQRSTUVWXYZ").cps.toList = MRK := by decide +kernel
theorem isPy_one {c : Nat} (h : c ∈ PAR) : isPy [c] = true := by
  unfold isPy
  rw [List.all_cons, decide_eq_true h]
  rfl
theorem isMk_one {c : Nat} (h : c ∈ MRK) : isMk [c] = true := by
  unfold isMk
  rw [List.all_cons, decide_eq_true h]
  rfl
section
variable {P : Program} {w : World} {K : PySem.W.Frag} {mg : Str → Option Value} {base : Heap} {f C CP CM : Addr} {fd : FuncData}
def spIsP : Sp := fun vs H Q _ => ∃ t : List Nat, vs = [.str (S t)] ∧ t.length ≤ 10000 ∧ ∀ b : Bool, b = isPy t → Q (.bl b) H
theorem ok_is_party (F : FnP K "is_party" s_is_party f fd) (m_len : mg "len" = none) (tok_PARTIES : Tok) (g_PARTIES : mg "PARTIES" = some (.str "abcdef" tok_PARTIES)) : FnOk P w K mg base CX0 1 f fd P_is_party spIsP := by
  refine F.ok sc_is_party (fun vs H Q E h => ?_) (fun cdv A outer s H vs Q E hr h => ?_)
  · obtain ⟨t, rfl, _⟩ := h
    rfl
  · obtain ⟨t, rfl, lt, q⟩ := h
    refine ⟨_, PSs.nox (pss_one (ps_ret (pe_and (pe_cmpR op_eq (pe_callB call_len_str (by rfl) m_len PySem.boot_len (pa_cons (pv 0) pa_nil)) pe_int (nomark _)) (pe_one (pe_cmpR op_in_sign (pv 0) (pe_glob (by rfl) g_PARTIES (relv_str (x := "abcdef"))) (by rfl)))))), ?_⟩
    walk_at "go"
    refine ⟨by rw [S_len]; exact szl (by omega), ?_⟩
    rw [S_len]
    refine ⟨rfl, _, rfl, ?_⟩
    by_cases c1 : t.length = 1
    · rw [decide_eq_true (show V.int (t.length : Int) = V.int 1 by rw [c1]; rfl)]
      match t, c1 with
      | [c], _ =>
        walk_at "go"
        refine q _ ?_
        rw [par_eq]
        unfold isPy
        rw [List.all_cons, List.all_nil, Bool.and_true]
        exact (Bool.true_and _).symm
    · rw [decide_eq_false (show ¬ V.int (t.length : Int) = V.int 1 from fun h => by injection h with h; omega)]
      walk_at "go"
      refine q _ ?_
      unfold isPy
      rw [decide_eq_false c1]
      rfl
def spIsM : Sp := fun vs H Q _ => ∃ t : List Nat, vs = [.str (S t)] ∧ t.length ≤ 10000 ∧ ∀ b : Bool, b = isMk t → Q (.bl b) H
theorem ok_is_mark (F : FnP K "is_mark" s_is_mark f fd) (m_len : mg "len" = none) (tok_MARKS : Tok) (g_MARKS : mg "MARKS" = some (.str "ABCDEFGHIJKLMNOPQRSTUVWXYZ" tok_MARKS)) : FnOk P w K mg base CX0 1 f fd P_is_mark spIsM := by
  refine F.ok sc_is_mark (fun vs H Q E h => ?_) (fun cdv A outer s H vs Q E hr h => ?_)
  · obtain ⟨t, rfl, _⟩ := h
    rfl
  · obtain ⟨t, rfl, lt, q⟩ := h
    refine ⟨_, PSs.nox (pss_one (ps_ret (pe_and (pe_cmpR op_eq (pe_callB call_len_str (by rfl) m_len PySem.boot_len (pa_cons (pv 0) pa_nil)) pe_int (nomark _)) (pe_one (pe_cmpR op_in_sign (pv 0) (pe_glob (by rfl) g_MARKS (relv_str (x := "ABCDEFGHIJKLMNOPQRSTUVWXYZ"))) (by rfl)))))), ?_⟩
    walk_at "go"
    refine ⟨by rw [S_len]; exact szl (by omega), ?_⟩
    rw [S_len]
    refine ⟨rfl, _, rfl, ?_⟩
    by_cases c1 : t.length = 1
    · rw [decide_eq_true (show V.int (t.length : Int) = V.int 1 by rw [c1]; rfl)]
      match t, c1 with
      | [c], _ =>
        walk_at "go"
        refine q _ ?_
        rw [mrk_eq]
        unfold isMk
        rw [List.all_cons, List.all_nil, Bool.and_true]
        exact (Bool.true_and _).symm
    · rw [decide_eq_false (show ¬ V.int (t.length : Int) = V.int 1 from fun h => by injection h with h; omega)]
      walk_at "go"
      refine q _ ?_
      unfold isMk
      rw [decide_eq_false c1]
      rfl
def spChP (CP : Addr) : Sp := fun vs H Q E => ∃ t : List Nat, vs = [.str (S t)] ∧ t.length ≤ 10000 ∧ (isPy t = true → Q .non H) ∧ (isPy t = false → ∀ d, H d = none → E (.ref CP) (some d) (upd H d (.xd [("party", .str (S t))])))
theorem ok_check_party (F : FnP K "check_party" s_check_party f fd) (c_is_party : Cal P w K mg base 1 "is_party" spIsP) (x_BadParty : Exn P w K mg base "BadParty" CP "party") : FnOk P w K mg base (L2N.CX P w) 3 f fd P_check_party (spChP CP) := by
  refine F.ok sc_check_party (fun vs H Q E h => ?_) (fun cdv A outer s H vs Q E hr h => ?_)
  · obtain ⟨t, rfl, _⟩ := h
    rfl
  · obtain ⟨t, rfl, lt, q1, q2⟩ := h
    have tk := takes_fn (P := P) (w := w) (K := K) (mg := mg) (base := base) (N := N_check_party) (qual := "check_party") (scope := defScope s_check_party) (f := f) (cd := cdv) (A := A) (outer := outer) (s := s) (H := H) (E := E)
    refine ⟨_, (pss_one (ps_if (pt_not (pt_val (pe_cl c_is_party hr (by decide) (by rfl) (pa_cons (pv 0) pa_nil)))) (pss_one (ps_exn rfl tk x_BadParty hr (by decide) (by rfl) (pa_cons (pv 0) pa_nil))) pss_nil)), ?_⟩
    walk_at "go"
    intro b hb
    subst hb
    cases c : isPy t with
    | true =>
      walk_at "go"
      exact q1 c
    | false =>
      walk_at "go"
      exact mkx_of fun d nd => (show E (.ref CP) (some d) (upd H d (.xd [("party", .str (S t))])) from q2 c d nd)
/-- (in right pacts the marks are right) -/
def spChM : Sp := fun vs H Q _ => ∃ t : List Nat, vs = [.str (S t)] ∧ t.length ≤ 10000 ∧ isMk t = true ∧ Q .non H
theorem ok_check_mark (F : FnP K "check_mark" s_check_mark f fd) (c_is_mark : Cal P w K mg base 1 "is_mark" spIsM) : FnOk P w K mg base (L2N.CX P w) 3 f fd P_check_mark spChM := by
  refine F.ok sc_check_mark (fun vs H Q E h => ?_) (fun cdv A outer s H vs Q E hr h => ?_)
  · obtain ⟨t, rfl, _⟩ := h
    rfl
  · obtain ⟨t, rfl, lt, c, q1⟩ := h
    refine ⟨_, (pss_one (ps_if (pt_not (pt_val (pe_cl c_is_mark hr (by decide) (by rfl) (pa_cons (pv 0) pa_nil)))) (pss_one ps_never) pss_nil)), ?_⟩
    walk_at "go"
    intro b hb
    subst hb
    rw [c]
    walk_at "go"
    exact q1
def spSize : Sp := fun vs H Q _ => ∃ w d : Nat, vs = [.int (w : Int), .int (d : Int)] ∧ w ≤ 400 ∧ d ≤ 30 ∧ Q .non H
theorem ok_check_size (F : FnP K "check_size" s_check_size f fd) (tok_MOST_WEIGHT : Tok) (g_MOST_WEIGHT : mg "MOST_WEIGHT" = some (.int 400 tok_MOST_WEIGHT)) (tok_MOST_DEPTH : Tok) (g_MOST_DEPTH : mg "MOST_DEPTH" = some (.int 30 tok_MOST_DEPTH)) : FnOk P w K mg base (L2N.CX P w) 3 f fd P_check_size spSize := by
  refine F.ok sc_check_size (fun vs H Q E h => ?_) (fun cdv A outer s H vs Q E hr h => ?_)
  · obtain ⟨w, d, rfl, _⟩ := h
    rfl
  · obtain ⟨w, d, rfl, h1, h2, q1⟩ := h
    refine ⟨_, (pss_one (ps_if (PW.pt (pw_or (pt_cmpR op_gt (pv 0) (pe_glob (v := .int 400) (by rfl) g_MOST_WEIGHT ⟨_, rfl⟩) (nomark _)) (pw_or1 (pt_cmpR op_gt (pv 1) (pe_glob (v := .int 30) (by rfl) g_MOST_DEPTH ⟨_, rfl⟩) (nomark _))))) (pss_one ps_never) pss_nil)), ?_⟩
    walk_at "go"
    rw [decide_eq_false (by omega : ¬ (400 : Int) < (w : Int))]
    walk_at "go"
    rw [decide_eq_false (by omega : ¬ (30 : Int) < (d : Int))]
    walk_at "go"
    exact q1
/-- the three fields that every part has -/
structure Fl3 (K : PySem.W.Frag) (C : Addr) : Prop where
  cls : Cls K C
  nw : NoAttr K C "weight"
  nd : NoAttr K C "depth"
  nt : NoAttr K C "text"
def put3 (w d : Nat) (t : Str) (fs : List (Str × V)) : List (Str × V) := putF "text" (.str t) (putF "depth" (.int (d : Int)) (putF "weight" (.int (w : Int)) fs))
def spPart (K : PySem.W.Frag) : Sp := fun vs H Q _ => ∃ (n C dx : Addr) (fs : List (Str × V)) (w d : Nat) (t : Str), vs = [.ref n, .int (w : Int), .int (d : Int), .str t] ∧ H n = some (.ins C dx fs) ∧ Fl3 K C ∧ fs.length ≤ 10 ∧ w ≤ 400 ∧ d ≤ 30 ∧ Q .non (upd H n (.ins C dx (put3 w d t fs)))
theorem put_len (x : Str) (v : V) : ∀ fs : List (Str × V), (putF x v fs).length ≤ fs.length + 1
  | [] => Nat.le_refl _
  | (g, y) :: fs => by
    unfold putF
    split
    · exact Nat.le_succ _
    · have := put_len x v fs
      rw [List.length_cons, List.length_cons]
      omega
theorem ok_part (F : FnM K "__init__" "Part.__init__" s_Part___init__ f fd) (c_check_size : CalX P w K mg base 3 "check_size" spSize) : FnOk P w K mg base (L2N.CX P w) 4 f fd P_Part___init__ (spPart K) := by
  refine F.ok sc_Part___init__ (fun vs H Q E h => ?_) (fun cdv A outer s H vs Q E hr h => ?_)
  · obtain ⟨n, C, dx, fs, w, d, t, rfl, _⟩ := h
    rfl
  · obtain ⟨n, C, dx, fs, w, d, t, rfl, hn, fl, lf, h1, h2, q⟩ := h
    refine ⟨_, (pss_cons (ps_expr (pe_clE c_check_size (fun _ => passS0) hr (by decide) (by rfl) (pa_cons (pv 1) (pa_cons (pv 2) pa_nil))))
      (pss_cons (ps_fld (pv 0) (pv 1) rfl)
      (pss_cons (ps_fld (pv 0) (pv 2) rfl)
      (pss_one (ps_fld (pv 0) (pv 3) rfl))))), ?_⟩
    have l1 := put_len "weight" (V.int (w : Int)) fs
    have l2 := put_len "depth" (V.int (d : Int)) (putF "weight" (V.int (w : Int)) fs)
    walk_at "go"
    refine ⟨n, C, dx, _, rfl, hn, fl.cls, fl.nw, by omega, ?_⟩
    walk_at "go"
    refine ⟨n, C, dx, _, rfl, upd_same, fl.cls, fl.nd, by omega, ?_⟩
    walk_at "go"
    refine ⟨n, C, dx, _, rfl, upd_same, fl.cls, fl.nt, by omega, ?_⟩
    rw [upd_upd, upd_upd]
    exact q
end
abbrev s_Transfer___init__ : Stmt := inClass (topS 28) 1
abbrev N_Transfer___init__ : List Str := ["self", "payer", "payee", "amount", "__class__"]
abbrev P_Transfer___init__ : List Str := ["self", "payer", "payee", "amount"]
theorem sc_Transfer___init__ : NdefX.NScope N_Transfer___init__ P_Transfer___init__ [("__class__" : Str)] (defScope s_Transfer___init__) := NdefX.nscope_by (by decide +kernel)
abbrev s_Event___init__ : Stmt := inClass (topS 29) 1
abbrev N_Event___init__ : List Str := ["self", "mark", "__class__"]
abbrev P_Event___init__ : List Str := ["self", "mark"]
theorem sc_Event___init__ : NdefX.NScope N_Event___init__ P_Event___init__ [("__class__" : Str)] (defScope s_Event___init__) := NdefX.nscope_by (by decide +kernel)
section
variable {P : Program} {w : World} {K : PySem.W.Frag} {mg : Str → Option Value} {base : Heap} {f c cc g CP CM : Addr} {k : Cs} {fd : FuncData}
abbrev FnB (P : Program) (w : World) (K : PySem.W.Frag) (mg : Str → Option Value) (base : Heap) (g : Addr) : Prop := FnR P w K mg base (L2N.CX P w) 4 g (spPart K)
/-- what the class of the part x says: its __init__ ends with super().__init__(..) -/
structure SupI (P : Program) (K : PySem.W.Frag) (C f g : Addr) (q : Str) (st : Stmt) (fd : FuncData) : Prop where
  ex : ∃ (c cc : Addr) (dV kV doc pm ct : Value) (an : Option Addr), fd = PySem.W.fnX "__init__" q (defArgs st) (defBody st) (defScope st) [(("__class__" : Str), cc)] dV kV doc pm an (.ref c) ct ∧ SupP P K C f c cc g fd ∧ PySem.W.codeIn K (.ref c) q = true
def tF (p q m : Nat) : List (Str × V) := ("payer", .str (S [p])) :: ("payee", .str (S [q])) :: ("amount", .int (m : Int)) :: tlP (.tr p q m)
def spTI (C : Addr) : Sp := fun vs H Q _ => ∃ (n dx : Addr) (p q m : Nat), vs = [.ref n, .str (S [p]), .str (S [q]), .int (m : Int)] ∧ H n = some (.ins C dx []) ∧ Ok (.tr p q m) ∧ Q .non (upd H n (.ins C dx (tF p q m)))
theorem ok_tinit {C : Addr} (SI : SupI P K C f g "Transfer.__init__" s_Transfer___init__ fd) (FB : FnB P w K mg base g) (m_super : mg "super" = none) (fl : Fl3 K C) (n1 : NoAttr K C "payer") (n2 : NoAttr K C "payee") (n3 : NoAttr K C "amount") (tok_MOST_AMOUNT : Tok) (g_MOST_AMOUNT : mg "MOST_AMOUNT" = some (.int (10 ^ 60) tok_MOST_AMOUNT)) (c_check_party : CalX P w K mg base 3 "check_party" (spChP CP)) : FnOk P w K mg base (L2N.CX P w) 5 f fd P_Transfer___init__ (spTI C) := by
  obtain ⟨c, cc, dV, kV, doc, pm, ct, an, hfd, SS, hcd⟩ := SI.ex
  refine sup_last (F := ⟨"__init__", "Transfer.__init__", defArgs s_Transfer___init__, defBody s_Transfer___init__, defScope s_Transfer___init__, [(("__class__" : Str), cc)], c⟩) (N := N_Transfer___init__) (pre := (defBody s_Transfer___init__).dropLast) (j := 4) (k := 4) hfd SS hcd sc_Transfer___init__ rfl rfl (show (defScope s_Transfer___init__).names.lookup ("super" : Str) = some .globalImplicit by decide +kernel) m_super rfl (show (defScope s_Transfer___init__).names.lookup ("self" : Str) = some .local by decide +kernel) rfl FB (Nat.le_refl _) (fun vs H Q E h => ?_) (fun _ _ _ _ _ => rfl) (fun _ _ _ _ _ => rfl) (fun _ _ _ _ _ => rfl) (fun _ _ _ _ _ => rfl) (fun _ _ _ _ _ => rfl) (fun A outer s H vs Q E hr h => ?_)
  · obtain ⟨n, dx, p, q, m, rfl, _⟩ := h
    rfl
  · obtain ⟨n, dx, p, q, m, rfl, hn, ok, qq⟩ := h
    rw [Ok] at ok
    obtain ⟨hp, hq, pq, hm⟩ := ok
    refine ⟨_, _, (pss_cons (ps_expr (pe_clE c_check_party (fun _ => passS0) hr (by decide) (by rfl) (pa_cons (pv 1) pa_nil)))
      (pss_cons (ps_expr (pe_clE c_check_party (fun _ => passS0) hr (by decide) (by rfl) (pa_cons (pv 2) pa_nil)))
      (pss_cons (ps_if (pt_cmpR op_eq (pv 2) (pv 1) (nomark _)) (pss_one ps_never) pss_nil)
      (pss_cons (ps_if (PW.pt (pw_or (pt_cmpR op_lt (pv 3) pe_int (nomark _)) (pw_or1 (pt_cmpR op_gt (pv 3) (pe_glob (v := .int 1000000000000000000000000000000000000000000000000000000000000) (by rfl) g_MOST_AMOUNT ⟨_, rfl⟩) (nomark _))))) (pss_one ps_never) pss_nil)
      (pss_cons (ps_fld (pv 0) (pv 1) rfl)
      (pss_cons (ps_fld (pv 0) (pv 2) rfl)
      (pss_one (ps_fld (pv 0) (pv 3) rfl)))))))), (pa_cons pe_int (pa_cons pe_int (pa_cons (pe_joined (.cons (pe_fmt (pv 1)) (.cons (pe_fmt (pv 2)) (.cons (pe_fmt (pv 3)) .nil)))) pa_nil))), ?_⟩
    walk_at "go"
    refine ⟨(show 1 ≤ 10000 by decide), fun _ => ?_, fun z => by rw [isPy_one hp] at z; cases z⟩
    walk_at "go"
    refine ⟨(show 1 ≤ 10000 by decide), fun _ => ?_, fun z => by rw [isPy_one hq] at z; cases z⟩
    walk_at "go"
    rw [decide_eq_false (show ¬ V.str (S [q]) = V.str (S [p]) from fun z => by
      injection z with z
      have := S_inj z
      injection this with this
      exact pq this.symm)]
    walk_at "go"
    refine ite2 (fun e => by have := of_decide_eq_true e; omega) (fun _ => ?_)
    walk_at "go"
    refine ⟨n, C, dx, _, rfl, hn, fl.cls, n1, (show 0 < 1000 by decide), ?_⟩
    walk_at "go"
    refine ⟨n, C, dx, _, rfl, upd_same, fl.cls, n2, (show 1 < 1000 by decide), ?_⟩
    walk_at "go"
    refine ⟨n, C, dx, _, rfl, upd_same, fl.cls, n3, (show 2 < 1000 by decide), ?_⟩
    refine ⟨n, dx, _, rfl, upd_same, ?_⟩
    walk_at "go"
    refine ⟨by rw [S_len]; exact szl (show 1 ≤ 100000 by decide), S [p], rfl, by rw [emS, S_len]; exact szl (show 1 ≤ 100000 by decide), ?_⟩
    rw [emS]
    walk_at "go"
    refine ⟨by rw [S_len]; exact szl (show 1 ≤ 100000 by decide), S [q], rfl, by rw [S_cat, S_len]; exact szl (show 2 ≤ 100000 by decide), ?_⟩
    rw [S_cat]
    have ld := dig_len hm
    refine ⟨_, rfl, .inr ⟨(m : Int), rfl, lg60 hm, ?_⟩⟩
    rw [str_dig]
    refine ⟨S (dig m), rfl, by rw [S_cat, S_len]; exact szl (by rw [List.length_append]; show 2 + (dig m).length ≤ 100000; omega), ?_⟩
    rw [S_cat]
    refine ⟨n, C, dx, _, 1, 1, S (tx (.tr p q m)), by rw [tx]; rfl, upd_same, fl, (show 3 ≤ 10 by decide), by decide, by decide, ?_⟩
    rw [upd_upd, upd_upd, upd_upd]
    have e : tF p q m = put3 1 1 (S (tx (.tr p q m))) (putF "amount" (V.int (m : Int)) (putF "payee" (V.str (S [q])) (putF "payer" (V.str (S [p])) []))) := by
      unfold tF tlP
      rw [wt, dp]
      rfl
    rw [← e]
    exact qq
end
end Z
set_option pp.maxSteps 700
set_option Elab.async false
set_option linter.all false
set_option maxRecDepth 100000
set_option maxHeartbeats 4000000
open SX (S S_inj S_len S_cat)
namespace Z
open Pk NdefX
open PySem PySem.Spec PyProof.Rows L2
open C8 (pss_cut tCut)
local macro_rules | `(tactic| walk_at "num") => `(tactic| first | rfl | omega | decide | exact Nat.le_of_lt (small1000 (by simp)) | exact ⟨by omega, by omega⟩ | exact ⟨by omega, by omega, by omega⟩ | exact ⟨by decide, by decide, by decide⟩ | exact Or.inl ⟨by omega, by omega⟩ | exact Or.inr ⟨by omega, by omega⟩)
local macro_rules | `(tactic| walk_at "go") => `(tactic| repeat (first | refine ⟨_, rfl, ?_⟩ | refine ⟨_, _, rfl, rfl, ?_⟩ | refine ⟨_, _, rfl, ?_⟩ | (refine ⟨_, _, rfl, rfl, ?_, ?_⟩; focus walk_at "num") | refine Or.inl ⟨_, rfl, ?_⟩ | refine ⟨_, _, _, _, rfl, rfl, (by assumption), (by rfl), ?_⟩ | refine ⟨_, _, _, _, _, rfl, (by assumption), (by assumption), (by assumption), (by rfl), ?_⟩ | refine ⟨rfl, ?_⟩ | (refine And.intro ?_ ?_; focus walk_at "num")))
abbrev s_as_pact : Stmt := topS 35
abbrev N_as_pact : List Str := ["value"]
abbrev P_as_pact : List Str := ["value"]
theorem sc_as_pact : FnScope N_as_pact P_as_pact (defScope s_as_pact) := ⟨rfl, rfl, rfl, by decide +kernel, rfl, by decide +kernel, by decide +kernel⟩
abbrev s_Rounds___init__ : Stmt := inClass (topS 31) 1
abbrev N_Rounds___init__ : List Str := ["self", "owner", "body", "__class__"]
abbrev P_Rounds___init__ : List Str := ["self", "owner", "body"]
theorem sc_Rounds___init__ : NdefX.NScope N_Rounds___init__ P_Rounds___init__ [("__class__" : Str)] (defScope s_Rounds___init__) := NdefX.nscope_by (by decide +kernel)
abbrev s_Endless___init__ : Stmt := inClass (topS 32) 1
abbrev N_Endless___init__ : List Str := ["self", "body", "__class__"]
abbrev P_Endless___init__ : List Str := ["self", "body"]
theorem sc_Endless___init__ : NdefX.NScope N_Endless___init__ P_Endless___init__ [("__class__" : Str)] (defScope s_Endless___init__) := NdefX.nscope_by (by decide +kernel)
abbrev s_Times___init__ : Stmt := inClass (topS 33) 1
abbrev N_Times___init__ : List Str := ["self", "count", "body", "__class__"]
abbrev P_Times___init__ : List Str := ["self", "count", "body"]
theorem sc_Times___init__ : NdefX.NScope N_Times___init__ P_Times___init__ [("__class__" : Str)] (defScope s_Times___init__) := NdefX.nscope_by (by decide +kernel)
section
variable {P : Program} {w : World} {K : PySem.W.Frag} {mg : Str → Option Value} {base : Heap} {f C g CP : Addr} {k : Cs} {fd : FuncData}
def eF (c : Nat) : List (Str × V) := ("mark", .str (S [c])) :: tlP (.ev c)
def spEI (C : Addr) : Sp := fun vs H Q _ => ∃ (n dx : Addr) (c : Nat), vs = [.ref n, .str (S [c])] ∧ H n = some (.ins C dx []) ∧ Ok (.ev c) ∧ Q .non (upd H n (.ins C dx (eF c)))
theorem ok_einit (SI : SupI P K C f g "Event.__init__" s_Event___init__ fd) (FB : FnB P w K mg base g) (m_super : mg "super" = none) (fl : Fl3 K C) (n1 : NoAttr K C "mark") (c_check_mark : CalX P w K mg base 3 "check_mark" spChM) : FnOk P w K mg base (L2N.CX P w) 5 f fd P_Event___init__ (spEI C) := by
  obtain ⟨c, cc, dV, kV, doc, pm, ct, an, hfd, SS, hcd⟩ := SI.ex
  refine sup_last (F := ⟨"__init__", "Event.__init__", defArgs s_Event___init__, defBody s_Event___init__, defScope s_Event___init__, [(("__class__" : Str), cc)], c⟩) (N := N_Event___init__) (pre := (defBody s_Event___init__).dropLast) (j := 4) (k := 4) hfd SS hcd sc_Event___init__ rfl rfl (show (defScope s_Event___init__).names.lookup ("super" : Str) = some .globalImplicit by decide +kernel) m_super rfl (show (defScope s_Event___init__).names.lookup ("self" : Str) = some .local by decide +kernel) rfl FB (Nat.le_refl _) (fun vs H Q E h => ?_) (fun _ _ _ _ _ => rfl) (fun _ _ _ _ _ => rfl) (fun _ _ _ _ _ => rfl) (fun _ _ _ _ _ => rfl) (fun _ _ _ _ _ => rfl) (fun A outer s H vs Q E hr h => ?_)
  · obtain ⟨n, dx, c, rfl, _⟩ := h
    rfl
  · obtain ⟨n, dx, c, rfl, hn, ok, qq⟩ := h
    rw [Ok] at ok
    refine ⟨_, _, (pss_cons (ps_expr (pe_clE c_check_mark (fun _ => passS0) hr (by decide) (by rfl) (pa_cons (pv 1) pa_nil)))
      (pss_one (ps_fld (pv 0) (pv 1) rfl))), (pa_cons pe_int (pa_cons pe_int (pa_cons (pv 1) pa_nil))), ?_⟩
    walk_at "go"
    refine ⟨(show 1 ≤ 10000 by decide), isMk_one ok, ?_⟩
    walk_at "go"
    refine ⟨n, C, dx, _, rfl, hn, fl.cls, n1, (show 0 < 1000 by decide), ?_⟩
    refine ⟨n, dx, _, rfl, upd_same, ?_⟩
    walk_at "go"
    refine ⟨n, C, dx, _, 1, 1, S (tx (.ev c)), by rw [tx]; rfl, upd_same, fl, (show 1 ≤ 10 by decide), by decide, by decide, ?_⟩
    rw [upd_upd]
    have e : eF c = put3 1 1 (S (tx (.ev c))) (putF "mark" (V.str (S [c])) []) := by
      unfold eF tlP
      rw [wt, dp]
      rfl
    rw [← e]
    exact qq
/-- the facts of the class Pact -/
structure PaK (K : PySem.W.Frag) (C : Addr) : Prop where
  is : C8.InsC K C
  fl : Fl3 K C
  np : NoAttr K C "parts"
def spAsP (k : Cs) (K : PySem.W.Frag) : Sp := fun vs H Q _ => ∃ (x : Addr) (b : List Pt), vs = [.ref x] ∧ PaAt k K H b x ∧ Q (.ref x) H
theorem ok_as_pact (F : FnP K "as_pact" s_as_pact f fd) (m_isinstance : mg "isinstance" = none) (pk : PaK K k.P) (g_Pact : mg "Pact" = some (.ref k.P)) : FnOk P w K mg base (L2N.CX P w) 1 f fd P_as_pact (spAsP k K) := by
  refine F.ok sc_as_pact (fun vs H Q E h => ?_) (fun cdv A outer s H vs Q E hr h => ?_)
  · obtain ⟨x, b, rfl, _⟩ := h
    rfl
  · obtain ⟨x, b, rfl, ⟨dy, t, as, hx, _⟩, q⟩ := h
    have isP := pk.is
    refine ⟨_, (pss_cons (ps_if (pt_not (pt_val (pe_callB (C8.call_isC isP) (by rfl) m_isinstance (by decide +kernel) (pa_cons (pv 0) (pa_cons (pe_glob (by rfl) g_Pact relv_ref) pa_nil))))) (pss_one ps_never) pss_nil)
      (pss_one (ps_ret (pv 0)))), ?_⟩
    walk_at "go"
    refine ⟨x, dy, _, rfl, hx, ?_⟩
    walk_at "go"
    exact q
theorem put_at {fs : List (Str × V)} {C dx : Addr} {n : Addr} {H : Hp} (e : H n = some (.ins C dx fs)) : (upd H n (.ins C dx fs)) n = some (.ins C dx fs) := upd_same
def rF (o : Nat) (b : List Pt) (x : Addr) : List (Str × V) := ("owner", .str (S [o])) :: ("body", .ref x) :: tlP (.rd o b)
def spRI (C : Addr) (k : Cs) (K : PySem.W.Frag) : Sp := fun vs H Q _ => ∃ (n dx x : Addr) (o : Nat) (b : List Pt), vs = [.ref n, .str (S [o]), .ref x] ∧ H n = some (.ins C dx []) ∧ Ok (.rd o b) ∧ PaAt k K H b x ∧ wt (.rd o b) ≤ 400 ∧ dp (.rd o b) ≤ 30 ∧ Q .non (upd H n (.ins C dx (rF o b x)))
theorem ok_rinit (SI : SupI P K C f g "Rounds.__init__" s_Rounds___init__ fd) (FB : FnB P w K mg base g) (m_super : mg "super" = none) (fl : Fl3 K C) (n1 : NoAttr K C "owner") (n2 : NoAttr K C "body") (pk : PaK K k.P) (c_check_party : CalX P w K mg base 3 "check_party" (spChP CP)) (c_as_pact : CalX P w K mg base 1 "as_pact" (spAsP k K)) : FnOk P w K mg base (L2N.CX P w) 5 f fd P_Rounds___init__ (spRI C k K) := by
  obtain ⟨c, cc, dV, kV, doc, pm, ct, an, hfd, SS, hcd⟩ := SI.ex
  refine sup_last (F := ⟨"__init__", "Rounds.__init__", defArgs s_Rounds___init__, defBody s_Rounds___init__, defScope s_Rounds___init__, [(("__class__" : Str), cc)], c⟩) (N := N_Rounds___init__) (pre := (defBody s_Rounds___init__).dropLast) (j := 4) (k := 4) hfd SS hcd sc_Rounds___init__ rfl rfl (show (defScope s_Rounds___init__).names.lookup ("super" : Str) = some .globalImplicit by decide +kernel) m_super rfl (show (defScope s_Rounds___init__).names.lookup ("self" : Str) = some .local by decide +kernel) rfl FB (Nat.le_refl _) (fun vs H Q E h => ?_) (fun _ _ _ _ _ => rfl) (fun _ _ _ _ _ => rfl) (fun _ _ _ _ _ => rfl) (fun _ _ _ _ _ => rfl) (fun _ _ _ _ _ => rfl) (fun A outer s H vs Q E hr h => ?_)
  · obtain ⟨n, dx, x, o, b, rfl, _⟩ := h
    rfl
  · obtain ⟨n, dx, x, o, b, rfl, hn, ok, hb, hw, hd, qq⟩ := h
    rw [Ok] at ok
    obtain ⟨ho, okb⟩ := ok
    have lb := txB_len b okb
    have lS : (S (txB b)).length = (txB b).length := S_len _
    obtain ⟨dy, t, as, hx, ht, hps⟩ := id hb
    have xn : x ≠ n := fun e => by rw [e, hn] at hx; cases hx
    rw [wt] at hw
    rw [dp] at hd
    refine ⟨_, _, (pss_cons (ps_expr (pe_clE c_check_party (fun _ => passS0) hr (by decide) (by rfl) (pa_cons (pv 1) pa_nil)))
      (pss_cons (ps_fld (pv 0) (pv 1) rfl)
      (pss_one (ps_fld (pv 0) (pe_clE c_as_pact (fun _ => passS0) hr (by decide) (by rfl) (pa_cons (pv 2) pa_nil)) rfl)))), (pa_cons (pe_op op_add (pe_fld (pv 2) rfl) pe_int) (pa_cons (pe_op op_add (pe_fld (pv 2) rfl) pe_int) (pa_cons (pe_joined (.cons (pe_fmt (pv 1)) (.cons pe_str (.cons (pe_fmt (pe_fld (pv 2) rfl)) (.cons pe_str .nil))))) pa_nil))), ?_⟩
    walk_at "go"
    refine ⟨(show 1 ≤ 10000 by decide), fun _ => ?_, fun z => by rw [isPy_one ho] at z; cases z⟩
    walk_at "go"
    refine ⟨n, C, dx, _, rfl, hn, fl.cls, n1, (show 0 < 1000 by decide), ?_⟩
    walk_at "go"
    have sb : SB n H (upd H n (.ins C dx (putF "owner" (V.str (S [o])) []))) := SB.upd (Z.Same.sb (Same.refl _))
    refine ⟨x, b, rfl, hb.sbN sb hn, ?_⟩
    walk_at "go"
    refine ⟨n, C, dx, _, rfl, upd_same, fl.cls, n2, (show 1 < 1000 by decide), ?_⟩
    rw [upd_upd]
    have hx2 : (upd H n (.ins C dx (putF "body" (V.ref x) (putF "owner" (V.str (S [o])) [])))) x = some (.ins k.P dy (pfl t b)) := by rw [upd_ne xn]; exact hx
    refine ⟨n, dx, _, rfl, upd_same, ?_⟩
    walk_at "go"
    refine ⟨x, k.P, dy, _, _, rfl, hx2, pk.fl.cls, pk.fl.nw, rfl, ?_⟩
    walk_at "go"
    refine ⟨x, k.P, dy, _, _, rfl, hx2, pk.fl.cls, pk.fl.nd, rfl, ?_⟩
    walk_at "go"
    refine ⟨by rw [S_len]; exact szl (show 1 ≤ 100000 by decide), S [o], rfl, by rw [emS, S_len]; exact szl (show 1 ≤ 100000 by decide), ?_⟩
    rw [emS]
    refine ⟨S [91], rfl, by rw [S_cat, S_len]; exact szl (by simp only [List.length_append, List.length_cons, List.length_nil]; omega), ?_⟩
    rw [S_cat]
    refine ⟨_, rfl, ?_⟩
    refine ⟨x, k.P, dy, _, _, rfl, hx2, pk.fl.cls, pk.fl.nt, rfl, ?_⟩
    refine .inl ⟨S (txB b), rfl, by rw [S_len]; exact szl (by omega), S (txB b), rfl, by rw [S_cat, S_len]; exact szl (by simp only [List.length_append, List.length_cons, List.length_nil]; omega), ?_⟩
    rw [S_cat]
    refine ⟨S [93], rfl, by rw [S_cat, S_len]; exact szl (by simp only [List.length_append, List.length_cons, List.length_nil]; omega), ?_⟩
    rw [S_cat]
    refine ⟨n, C, dx, _, wtL b + 1, dpL b + 1, S (tx (.rd o b)), by rw [tx]; rfl, upd_same, fl, (show 2 ≤ 10 by decide), hw, hd, ?_⟩
    rw [upd_upd]
    have e : rF o b x = put3 (wtL b + 1) (dpL b + 1) (S (tx (.rd o b))) (putF "body" (V.ref x) (putF "owner" (V.str (S [o])) [])) := by
      unfold rF tlP
      rw [wt, dp]
      rfl
    rw [← e]
    exact qq
def nF (b : List Pt) (x : Addr) : List (Str × V) := ("body", .ref x) :: tlP (.en b)
def spNI (C : Addr) (k : Cs) (K : PySem.W.Frag) : Sp := fun vs H Q _ => ∃ (n dx x : Addr) (b : List Pt), vs = [.ref n, .ref x] ∧ H n = some (.ins C dx []) ∧ Ok (.en b) ∧ PaAt k K H b x ∧ wt (.en b) ≤ 400 ∧ dp (.en b) ≤ 30 ∧ Q .non (upd H n (.ins C dx (nF b x)))
theorem ok_ninit (SI : SupI P K C f g "Endless.__init__" s_Endless___init__ fd) (FB : FnB P w K mg base g) (m_super : mg "super" = none) (fl : Fl3 K C) (n2 : NoAttr K C "body") (pk : PaK K k.P) (c_as_pact : CalX P w K mg base 1 "as_pact" (spAsP k K)) : FnOk P w K mg base (L2N.CX P w) 5 f fd P_Endless___init__ (spNI C k K) := by
  obtain ⟨c, cc, dV, kV, doc, pm, ct, an, hfd, SS, hcd⟩ := SI.ex
  refine sup_last (F := ⟨"__init__", "Endless.__init__", defArgs s_Endless___init__, defBody s_Endless___init__, defScope s_Endless___init__, [(("__class__" : Str), cc)], c⟩) (N := N_Endless___init__) (pre := (defBody s_Endless___init__).dropLast) (j := 4) (k := 4) hfd SS hcd sc_Endless___init__ rfl rfl (show (defScope s_Endless___init__).names.lookup ("super" : Str) = some .globalImplicit by decide +kernel) m_super rfl (show (defScope s_Endless___init__).names.lookup ("self" : Str) = some .local by decide +kernel) rfl FB (Nat.le_refl _) (fun vs H Q E h => ?_) (fun _ _ _ _ _ => rfl) (fun _ _ _ _ _ => rfl) (fun _ _ _ _ _ => rfl) (fun _ _ _ _ _ => rfl) (fun _ _ _ _ _ => rfl) (fun A outer s H vs Q E hr h => ?_)
  · obtain ⟨n, dx, x, b, rfl, _⟩ := h
    rfl
  · obtain ⟨n, dx, x, b, rfl, hn, ok, hb, hw, hd, qq⟩ := h
    rw [Ok] at ok
    have lb := txB_len b ok
    have lS : (S (txB b)).length = (txB b).length := S_len _
    obtain ⟨dy, t, as, hx, ht, hps⟩ := id hb
    have xn : x ≠ n := fun e => by rw [e, hn] at hx; cases hx
    rw [wt] at hw
    rw [dp] at hd
    refine ⟨_, _, (pss_one (ps_fld (pv 0) (pe_clE c_as_pact (fun _ => passS0) hr (by decide) (by rfl) (pa_cons (pv 1) pa_nil)) rfl)), (pa_cons (pe_op op_add (pe_fld (pv 1) rfl) pe_int) (pa_cons (pe_op op_add (pe_fld (pv 1) rfl) pe_int) (pa_cons (pe_joined (.cons pe_str (.cons (pe_fmt (pe_fld (pv 1) rfl)) (.cons pe_str .nil)))) pa_nil))), ?_⟩
    walk_at "go"
    refine ⟨x, b, rfl, hb, ?_⟩
    walk_at "go"
    refine ⟨n, C, dx, _, rfl, hn, fl.cls, n2, (show 0 < 1000 by decide), ?_⟩
    have hx2 : (upd H n (.ins C dx (putF "body" (V.ref x) []))) x = some (.ins k.P dy (pfl t b)) := by rw [upd_ne xn]; exact hx
    refine ⟨n, dx, _, rfl, upd_same, ?_⟩
    walk_at "go"
    refine ⟨x, k.P, dy, _, _, rfl, hx2, pk.fl.cls, pk.fl.nw, rfl, ?_⟩
    walk_at "go"
    refine ⟨x, k.P, dy, _, _, rfl, hx2, pk.fl.cls, pk.fl.nd, rfl, ?_⟩
    walk_at "go"
    rw [show Str.empty ++ Str.ofString "[" = S [91] by decide +kernel]
    refine ⟨x, k.P, dy, _, _, rfl, hx2, pk.fl.cls, pk.fl.nt, rfl, ?_⟩
    refine .inl ⟨S (txB b), rfl, by rw [S_len]; exact szl (by omega), S (txB b), rfl, by rw [S_cat, S_len]; exact szl (by simp only [List.length_append, List.length_cons, List.length_nil]; omega), ?_⟩
    rw [S_cat]
    refine ⟨S [93], rfl, by rw [S_cat, S_len]; exact szl (by simp only [List.length_append, List.length_cons, List.length_nil]; omega), ?_⟩
    rw [S_cat]
    refine ⟨n, C, dx, _, wtL b + 1, dpL b + 1, S (tx (.en b)), by rw [tx]; rfl, upd_same, fl, (show 1 ≤ 10 by decide), hw, hd, ?_⟩
    rw [upd_upd]
    have e : nF b x = put3 (wtL b + 1) (dpL b + 1) (S (tx (.en b))) (putF "body" (V.ref x) []) := by
      unfold nF tlP
      rw [wt, dp]
      rfl
    rw [← e]
    exact qq
def mF (c : Nat) (b : List Pt) (x : Addr) : List (Str × V) := ("count", .int (c : Int)) :: ("body", .ref x) :: tlP (.ti c b)
def spMI (C : Addr) (k : Cs) (K : PySem.W.Frag) : Sp := fun vs H Q _ => ∃ (n dx x : Addr) (c : Nat) (b : List Pt), vs = [.ref n, .int (c : Int), .ref x] ∧ H n = some (.ins C dx []) ∧ Ok (.ti c b) ∧ PaAt k K H b x ∧ wt (.ti c b) ≤ 400 ∧ dp (.ti c b) ≤ 30 ∧ Q .non (upd H n (.ins C dx (mF c b x)))
theorem ok_timesinit (SI : SupI P K C f g "Times.__init__" s_Times___init__ fd) (FB : FnB P w K mg base g) (m_super : mg "super" = none) (m_max : mg "max" = none) (tok_MOST_COUNT : Tok) (g_MOST_COUNT : mg "MOST_COUNT" = some (.int 100 tok_MOST_COUNT)) (fl : Fl3 K C) (n1 : NoAttr K C "count") (n2 : NoAttr K C "body") (pk : PaK K k.P) (c_as_pact : CalX P w K mg base 1 "as_pact" (spAsP k K)) : FnOk P w K mg base (L2N.CX P w) 5 f fd P_Times___init__ (spMI C k K) := by
  obtain ⟨c, cc, dV, kV, doc, pm, ct, an, hfd, SS, hcd⟩ := SI.ex
  refine sup_last (F := ⟨"__init__", "Times.__init__", defArgs s_Times___init__, defBody s_Times___init__, defScope s_Times___init__, [(("__class__" : Str), cc)], c⟩) (N := N_Times___init__) (pre := (defBody s_Times___init__).dropLast) (j := 4) (k := 4) hfd SS hcd sc_Times___init__ rfl rfl (show (defScope s_Times___init__).names.lookup ("super" : Str) = some .globalImplicit by decide +kernel) m_super rfl (show (defScope s_Times___init__).names.lookup ("self" : Str) = some .local by decide +kernel) rfl FB (Nat.le_refl _) (fun vs H Q E h => ?_) (fun _ _ _ _ _ => rfl) (fun _ _ _ _ _ => rfl) (fun _ _ _ _ _ => rfl) (fun _ _ _ _ _ => rfl) (fun _ _ _ _ _ => rfl) (fun A outer s H vs Q E hr h => ?_)
  · obtain ⟨n, dx, x, o, b, rfl, _⟩ := h
    rfl
  · obtain ⟨n, dx, x, o, b, rfl, hn, ok, hb, hw, hd, qq⟩ := h
    rw [Ok] at ok
    obtain ⟨ho, okb⟩ := ok
    have lb := txB_len b okb
    have lS : (S (txB b)).length = (txB b).length := S_len _
    have ld := dig_len3 ho
    obtain ⟨dy, t, as, hx, ht, hps⟩ := id hb
    have xn : x ≠ n := fun e => by rw [e, hn] at hx; cases hx
    rw [wt] at hw
    rw [dp] at hd
    have lg : ((o : Int)).natAbs.log2 < 1920 := lg60 (Nat.le_trans ho (by decide +kernel))
    refine ⟨_, _, (pss_cons (ps_if (pt_not (pt_chain op_le op_le pe_int (pv 1) (pe_glob (v := .int 100) (by rfl) g_MOST_COUNT ⟨_, rfl⟩))) (pss_one ps_never) pss_nil)
      (pss_cons (ps_fld (pv 0) (pv 1) rfl)
      (pss_one (ps_fld (pv 0) (pe_clE c_as_pact (fun _ => passS0) hr (by decide) (by rfl) (pa_cons (pv 2) pa_nil)) rfl)))), (pa_cons (pe_op op_add (pe_op op_mul (pe_fld (pv 2) rfl) (pe_callB (call_max2 rfl) (by rfl) m_max (by decide +kernel) (pa_cons pe_int (pa_cons (pv 1) pa_nil)))) pe_int) (pa_cons (pe_op op_add (pe_fld (pv 2) rfl) pe_int) (pa_cons (pe_joined (.cons (pe_fmt (pv 1)) (.cons pe_str (.cons (pe_fmt (pe_fld (pv 2) rfl)) (.cons pe_str .nil))))) pa_nil))), ?_⟩
    walk_at "go"
    rw [decide_eq_true (show (o : Int) ≤ 100 by omega)]
    walk_at "go"
    refine ⟨n, C, dx, _, rfl, hn, fl.cls, n1, (show 0 < 1000 by decide), ?_⟩
    walk_at "go"
    have sb : SB n H (upd H n (.ins C dx (putF "count" (V.int (o : Int)) []))) := SB.upd (Z.Same.sb (Same.refl _))
    refine ⟨x, b, rfl, hb.sbN sb hn, ?_⟩
    walk_at "go"
    refine ⟨n, C, dx, _, rfl, upd_same, fl.cls, n2, (show 1 < 1000 by decide), ?_⟩
    rw [upd_upd]
    have hx2 : (upd H n (.ins C dx (putF "body" (V.ref x) (putF "count" (V.int (o : Int)) [])))) x = some (.ins k.P dy (pfl t b)) := by rw [upd_ne xn]; exact hx
    refine ⟨n, dx, _, rfl, upd_same, ?_⟩
    walk_at "go"
    refine ⟨x, k.P, dy, _, _, rfl, hx2, pk.fl.cls, pk.fl.nw, rfl, ?_⟩
    obtain ⟨z, hz⟩ : ∃ z : Nat, z = if o < 1 then 1 else o := ⟨_, rfl⟩
    have hz2 : (if (o : Int) > 1 then (o : Int) else 1) = (z : Int) := by
      rw [hz]
      by_cases c : o < 1
      · rw [if_pos c, if_neg (by omega)]
        rfl
      · rw [if_neg c]
        by_cases c2 : (o : Int) > 1
        · rw [if_pos c2]
        · rw [if_neg c2]
          omega
    have z1 : 1 ≤ z := by rw [hz]; split <;> omega
    have wb : wtL b ≤ wtL b * z := Nat.le_mul_of_pos_right _ z1
    rw [← hz] at hw
    walk_at "go"
    rw [hz2]
    refine ⟨x, k.P, dy, _, _, rfl, hx2, pk.fl.cls, pk.fl.nd, rfl, ?_⟩
    walk_at "go"
    refine .inr ⟨_, rfl, lg, ?_⟩
    rw [str_dig, ]
    refine ⟨_, rfl, by rw [emS, S_len]; exact szl (by omega), ?_⟩
    rw [emS]
    refine ⟨S [40], rfl, by rw [S_cat, S_len]; exact szl (by simp only [List.length_append, List.length_cons, List.length_nil]; omega), ?_⟩
    rw [S_cat]
    refine ⟨_, rfl, ?_⟩
    refine ⟨x, k.P, dy, _, _, rfl, hx2, pk.fl.cls, pk.fl.nt, rfl, ?_⟩
    refine .inl ⟨S (txB b), rfl, by rw [S_len]; exact szl (by omega), S (txB b), rfl, by rw [S_cat, S_len]; exact szl (by simp only [List.length_append, List.length_cons, List.length_nil]; omega), ?_⟩
    rw [S_cat]
    refine ⟨S [41], rfl, by rw [S_cat, S_len]; exact szl (by simp only [List.length_append, List.length_cons, List.length_nil]; omega), ?_⟩
    rw [S_cat]
    refine ⟨n, C, dx, _, wtL b * z + 1, dpL b + 1, S (tx (.ti o b)), by rw [tx]; rfl, upd_same, fl, (show 2 ≤ 10 by decide), hw, hd, ?_⟩
    rw [upd_upd]
    have e : mF o b x = put3 (wtL b * z + 1) (dpL b + 1) (S (tx (.ti o b))) (putF "body" (V.ref x) (putF "count" (V.int (o : Int)) [])) := by
      unfold mF tlP
      rw [wt, dp, ← hz]
      rfl
    rw [← e]
    exact qq
end
end Z
set_option pp.maxSteps 700
set_option Elab.async false
set_option linter.all false
set_option maxRecDepth 100000
set_option maxHeartbeats 4000000
open SX (S S_inj S_len S_cat)
namespace Z
open Pk NdefX
open PySem PySem.Spec PyProof.Rows L2
open C8 (pss_cut tCut)
local macro_rules | `(tactic| walk_at "num") => `(tactic| first | rfl | omega | decide | exact Nat.le_of_lt (small1000 (by simp)) | exact ⟨by omega, by omega⟩ | exact ⟨by omega, by omega, by omega⟩ | exact ⟨by decide, by decide, by decide⟩ | exact Or.inl ⟨by omega, by omega⟩ | exact Or.inr ⟨by omega, by omega⟩)
local macro_rules | `(tactic| walk_at "go") => `(tactic| repeat (first | refine ⟨_, rfl, ?_⟩ | refine ⟨_, _, rfl, rfl, ?_⟩ | refine ⟨_, _, rfl, ?_⟩ | (refine ⟨_, _, rfl, rfl, ?_, ?_⟩; focus walk_at "num") | refine Or.inl ⟨_, rfl, ?_⟩ | refine ⟨_, _, _, _, rfl, rfl, (by assumption), (by rfl), ?_⟩ | refine ⟨_, _, _, _, _, rfl, (by assumption), (by assumption), (by assumption), (by rfl), ?_⟩ | refine ⟨rfl, ?_⟩ | (refine And.intro ?_ ?_; focus walk_at "num")))
abbrev s_Choice___init__ : Stmt := inClass (topS 30) 1
abbrev N_Choice___init__ : List Str := ["self", "owner", "options", "__class__", "option", "weight", "depth", "inner"]
abbrev P_Choice___init__ : List Str := ["self", "owner", "options"]
theorem sc_Choice___init__ : NdefX.NScope N_Choice___init__ P_Choice___init__ [("__class__" : Str)] (defScope s_Choice___init__) := NdefX.nscope_by (by decide +kernel)
section
variable {P : Program} {w : World} {K : PySem.W.Frag} {mg : Str → Option Value} {base : Heap} {f C g CP : Addr} {k : Cs} {fd : FuncData}
theorem jn_eq (s : List Nat) : ∀ ts : List (List Nat), TL.joinL s ts = jn s ts
  | [] => rfl
  | [a] => rfl
  | a :: b :: r => by
    have := jn_eq s (b :: r)
    show a ++ (s ++ TL.joinL s (b :: r)) = a ++ s ++ jn s (b :: r)
    rw [this, List.append_assoc]
theorem len3 (ts : List (List Nat)) : ((ts.map S).map fun x => x.length).sum + (ts.map S).length * 3 = (ts.map fun t => t.length + 3).sum := by
  induction ts with
  | nil => rfl
  | cons t ts ih =>
    rw [List.map_cons, List.map_cons, List.map_cons, List.sum_cons, List.sum_cons, List.length_cons, S_len, ← ih]
    omega
theorem max_is {ns : List Int} {m : Int} (h1 : m ∈ ns) (h2 : ∀ x ∈ ns, x ≤ m) : ∀ m2, m2 ∈ ns → (∀ x ∈ ns, x ≤ m2) → m2 = m := fun m2 g1 g2 => by
  have := h2 m2 g1
  have := g2 m h1
  omega
theorem dpLL_max : ∀ {os : List (List Pt)} {m : Int}, m ∈ os.map (fun b => (dpL b : Int)) → (∀ x ∈ os.map (fun b => (dpL b : Int)), x ≤ m) → m = (dpLL os : Int)
  | [], m, h, _ => by cases h
  | b :: os, m, h, h2 => by
    rw [dpLL]
    have hb : (dpL b : Int) ≤ m := h2 (dpL b : Int) (List.mem_map.mpr ⟨b, List.mem_cons_self, rfl⟩)
    by_cases c : os = []
    · subst c
      rw [dpLL]
      have : m = (dpL b : Int) := List.mem_singleton.mp h
      omega
    · obtain ⟨m2, hm2, hx2⟩ : ∃ m2 : Int, m2 ∈ os.map (fun b => (dpL b : Int)) ∧ ∀ x ∈ os.map (fun b => (dpL b : Int)), x ≤ m2 := by
        refine ⟨(dpLL os : Int), ?_, fun x hx => ?_⟩
        · clear h h2 hb
          induction os with
          | nil => exact absurd rfl c
          | cons d os ih =>
            rw [dpLL]
            by_cases e : os = []
            · subst e
              rw [dpLL, Nat.max_eq_left (Nat.zero_le _)]
              exact List.mem_map.mpr ⟨d, List.mem_cons_self, rfl⟩
            · by_cases l : dpLL os ≤ dpL d
              · rw [Nat.max_eq_left l]
                exact List.mem_map.mpr ⟨d, List.mem_cons_self, rfl⟩
              · rw [Nat.max_eq_right (by omega)]
                have := ih e
                rw [List.map_cons]
                exact List.mem_cons_of_mem _ this
        · obtain ⟨d, hd, rfl⟩ := List.mem_map.mp hx
          have := dpLL_mem hd
          show (dpL d : Int) ≤ _
          omega
      have e2 := dpLL_max hm2 hx2
      rw [List.map_cons] at h
      rcases List.mem_cons.mp h with h | h
      · have h : m = (dpL b : Int) := h
        have : m2 ≤ m := h2 m2 (by rw [List.map_cons]; exact List.mem_cons_of_mem _ hm2)
        omega
      · have g1 := hx2 m h
        have g2 : m2 ≤ m := h2 m2 (by rw [List.map_cons]; exact List.mem_cons_of_mem _ hm2)
        omega
theorem isum (g : α → Nat) : ∀ l : List α, (l.map fun x => (g x : Int)).sum = ((l.map g).sum : Nat)
  | [] => rfl
  | x :: l => by
    rw [List.map_cons, List.map_cons, List.sum_cons, List.sum_cons, isum g l]
    omega
def cF (o : Nat) (os : List (List Pt)) (t : Addr) : List (Str × V) := ("owner", .str (S [o])) :: ("options", .ref t) :: tlP (.ch o os)
def spCI (C : Addr) (k : Cs) (K : PySem.W.Frag) : Sp := fun vs H Q _ => ∃ (q : Bool) (n dx a : Addr) (o : Nat) (os : List (List Pt)) (as : List Addr), vs = [.ref n, .str (S [o]), .ref a] ∧ H n = some (.ins C dx []) ∧ Ok (.ch o os) ∧ SqK q K H a (as.map V.ref) ∧ PasAt k K H os as ∧ wt (.ch o os) ≤ 400 ∧ dp (.ch o os) ≤ 30 ∧ ∀ (t : Addr) H', SB n H H' → SqT K H' t (as.map V.ref) → H' n = some (.ins C dx (cF o os t)) → Q .non H'
theorem ok_cinit (SI : SupI P K C f g "Choice.__init__" s_Choice___init__ fd) (FB : FnB P w K mg base g) (m_super : mg "super" = none) (m_len : mg "len" = none) (m_tuple : mg "tuple" = none) (m_sum : mg "sum" = none) (m_max : mg "max" = none) (tok_MOST_OPTIONS : Tok) (g_MOST_OPTIONS : mg "MOST_OPTIONS" = some (.int 6 tok_MOST_OPTIONS)) (fl : Fl3 K C) (n1 : NoAttr K C "owner") (n2 : NoAttr K C "options") (pk : PaK K k.P) (c_check_party : CalX P w K mg base 3 "check_party" (spChP CP)) (c_as_pact : CalX P w K mg base 1 "as_pact" (spAsP k K)) : FnOk P w K mg base (L2N.CX P w) 5 f fd P_Choice___init__ (spCI C k K) := by
  obtain ⟨c, cc, dV, kV, doc, pm, ct, an, hfd, SS, hcd⟩ := SI.ex
  refine sup_last (F := ⟨"__init__", "Choice.__init__", defArgs s_Choice___init__, defBody s_Choice___init__, defScope s_Choice___init__, [(("__class__" : Str), cc)], c⟩) (N := N_Choice___init__) (pre := (defBody s_Choice___init__).dropLast) (j := 4) (k := 4) hfd SS hcd sc_Choice___init__ rfl rfl (show (defScope s_Choice___init__).names.lookup ("super" : Str) = some .globalImplicit by decide +kernel) m_super rfl (show (defScope s_Choice___init__).names.lookup ("self" : Str) = some .local by decide +kernel) rfl FB (Nat.le_refl _) (fun vs H Q E h => ?_) (fun _ _ _ _ _ => rfl) (fun _ _ _ _ _ => rfl) (fun _ _ _ _ _ => rfl) (fun _ _ _ _ _ => rfl) (fun _ _ _ _ _ => rfl) (fun A outer s H vs Q E hr h => ?_)
  · obtain ⟨q, n, dx, a, o, os, as, rfl, _⟩ := h
    rfl
  · obtain ⟨q, n, dx, a, o, os, as, rfl, hn, ok, hS, hP, hw, hd, qq⟩ := h
    rw [Ok] at ok
    obtain ⟨ho, l2, l6, okb⟩ := ok
    have la := PasAt.len _ _ hP
    rw [wt] at hw
    rw [dp] at hd
    refine ⟨_, _, (pss_cons (ps_expr (pe_clE c_check_party (fun _ => passS0) hr (by decide) (by rfl) (pa_cons (pv 1) pa_nil)))
      (pss_cons (ps_if (pt_not (pt_chain op_le op_le pe_int (pe_callB call_len_seq (by rfl) m_len PySem.boot_len (pa_cons (pv 2) pa_nil)) (pe_glob (v := .int 6) (by rfl) g_MOST_OPTIONS ⟨_, rfl⟩))) (pss_one ps_never) pss_nil)
      (pss_cons (ps_for (passes_of rfl) rfl (pi_sq (pv 2)) (pg_name (i := 4) sc_Choice___init__.nd rfl (by first | exact .inl rfl | exact .inr rfl))
        (pss_one (ps_expr (pe_clE c_as_pact (fun _ => passS0) hr (by decide) (by rfl) (pa_cons (pv 4) pa_nil)))))
      (pss_cons (ps_fld (pv 0) (pv 1) rfl)
      (pss_cons (ps_fld (pv 0) (pe_callTy call_tupleSq (by rfl) m_tuple (by decide +kernel) (pa_cons (pv 2) pa_nil)) rfl)
      (pss_cons (ps_set (i := 5) sc_Choice___init__.nd rfl (by first | exact .inl rfl | exact .inr rfl) (pe_op op_add pe_int (pe_callB (cr_sum rfl) (by rfl) m_sum (by decide +kernel) (pa_cons (pe_lc (own := [("option", 4)]) (g := (gName 4)) (tt := tYes) (by rfl) sc_Choice___init__.nd (pi_sq (pv 2)) (blkOk_by (own := [("option", 4)]) (N := N_Choice___init__) (sc := defScope s_Choice___init__) (by decide +kernel)) (fun _ _ _ _ _ => (pg_name (i := 4) sc_Choice___init__.nd rfl (by first | exact .inl rfl | exact .inr rfl))) (fun _ _ _ _ _ => pts_nil) (fun _ _ _ _ _ => (pe_fld_K (K := K) rfl (pv 4) rfl))) pa_nil))))
      (pss_cons (ps_set (i := 6) sc_Choice___init__.nd rfl (by first | exact .inl rfl | exact .inr rfl) (pe_op op_add pe_int (pe_callB (cr_max rfl) (by rfl) m_max (by decide +kernel) (pa_cons (pe_lc (own := [("option", 4)]) (g := (gName 4)) (tt := tYes) (by rfl) sc_Choice___init__.nd (pi_sq (pv 2)) (blkOk_by (own := [("option", 4)]) (N := N_Choice___init__) (sc := defScope s_Choice___init__) (by decide +kernel)) (fun _ _ _ _ _ => (pg_name (i := 4) sc_Choice___init__.nd rfl (by first | exact .inl rfl | exact .inr rfl))) (fun _ _ _ _ _ => pts_nil) (fun _ _ _ _ _ => (pe_fld_K (K := K) rfl (pv 4) rfl))) pa_nil))))
      (pss_one (ps_set (i := 7) sc_Choice___init__.nd rfl (by first | exact .inl rfl | exact .inr rfl) (pe_join pe_str (pe_lc (own := [("option", 4)]) (g := (gName 4)) (tt := tYes) (by rfl) sc_Choice___init__.nd (pi_sq (pv 2)) (blkOk_by (own := [("option", 4)]) (N := N_Choice___init__) (sc := defScope s_Choice___init__) (by decide +kernel)) (fun _ _ _ _ _ => (pg_name (i := 4) sc_Choice___init__.nd rfl (by first | exact .inl rfl | exact .inr rfl))) (fun _ _ _ _ _ => pts_nil) (fun _ _ _ _ _ => (pe_fld_K (K := K) rfl (pv 4) rfl))))))))))))), (pa_cons (pv 5) (pa_cons (pv 6) (pa_cons (pe_joined (.cons (pe_fmt (pv 1)) (.cons pe_str (.cons (pe_fmt (pv 7)) (.cons pe_str .nil))))) pa_nil))), ?_⟩
    walk_at "go"
    refine ⟨(show 1 ≤ 10000 by decide), fun _ => ?_, fun z => by rw [isPy_one ho] at z; cases z⟩
    walk_at "go"
    refine ⟨a, _, rfl, sqk_or hS, ?_⟩
    rw [List.length_map]
    walk_at "go"
    rw [decide_eq_true (show (2 : Int) ≤ (as.length : Int) by omega)]
    walk_at "go"
    rw [decide_eq_true (show (as.length : Int) ≤ 6 by omega)]
    walk_at "go"
    have gx : ∀ (i : Nat) (x : V), (as.map V.ref)[i]? = some x → ∃ (y : Addr) (b : List Pt), x = .ref y ∧ os[i]? = some b ∧ PaAt k K H b y := fun i x e => by
      rw [List.getElem?_map] at e
      cases e1 : as[i]? with
      | none => rw [e1] at e; cases e
      | some y =>
        rw [e1] at e
        cases e
        have li := (List.getElem?_eq_some_iff.mp e1).1
        obtain ⟨y2, e2, hp⟩ := PasAt.get _ _ hP i (os[i]'(by omega)) (List.getElem?_eq_getElem (by omega))
        rw [e1] at e2
        cases e2
        exact ⟨y, _, rfl, List.getElem?_eq_getElem (by omega), hp⟩
    refine rd_sq (b := q) rfl hS ?_
    refine for_sq hS (fun i σ J => J = H ∧ ∃ v4 : Option V, σ = [some (.ref n), some (.str (S [o])), some (.ref a), some (.ref C), v4, none, none, none]) ⟨rfl, none, rfl⟩ (fun i σ J h => by rw [h.1]; exact Same.refl _) (fun i x σ J ex h => ?_) (fun σ J h => ?_)
    · obtain ⟨rfl, v4, rfl⟩ := h
      obtain ⟨y, b, rfl, _, hp⟩ := gx i x ex
      walk_at "go"
      refine ⟨y, b, rfl, hp, ?_⟩
      exact ⟨rfl, _, rfl⟩
    obtain ⟨rfl, v4, rfl⟩ := h
    walk_at "go"
    refine ⟨n, C, dx, _, rfl, hn, fl.cls, n1, (show 0 < 1000 by decide), ?_⟩
    have sb1 : SB n J (upd J n (.ins C dx (putF "owner" (V.str (S [o])) []))) := SB.upd (Z.Same.sb (Same.refl _))
    have sm1 := smN_sb sb1 hn
    have hn1 : (upd J n (.ins C dx (putF "owner" (V.str (S [o])) []))) n = some (.ins C dx (putF "owner" (V.str (S [o])) [])) := upd_same
    generalize upd J n (.ins C dx (putF "owner" (V.str (S [o])) [])) = J1 at sb1 sm1 hn1
    have hS1 := sm1.sqK hS
    walk_at "go"
    refine ⟨q, a, _, rfl, hS1, fun t J2 s2 hT => ?_⟩
    have hn2 := s2 _ _ hn1
    walk_at "go"
    refine ⟨n, C, dx, _, rfl, hn2, fl.cls, n2, (show 1 < 1000 by decide), ?_⟩
    have sb3 : SB n J2 (upd J2 n (.ins C dx (putF "options" (V.ref t) (putF "owner" (V.str (S [o])) [])))) := SB.upd (Z.Same.sb (Same.refl _))
    have hn3 : (upd J2 n (.ins C dx (putF "options" (V.ref t) (putF "owner" (V.str (S [o])) [])))) n = some (.ins C dx (putF "options" (V.ref t) (putF "owner" (V.str (S [o])) []))) := upd_same
    have hT3 : SqT K (upd J2 n (.ins C dx (putF "options" (V.ref t) (putF "owner" (V.str (S [o])) [])))) t (as.map V.ref) := by
      rcases hT with (h | ⟨ob, h⟩) | h
      · exact .inl (.inl (sb3 _ _ (fun e => by rw [e, hn2] at h; cases h) h))
      · exact .inl (.inr ⟨ob, sb3 _ _ (fun e => by rw [e, hn2] at h; cases h) h⟩)
      · exact .inr h
    generalize upd J2 n (.ins C dx (putF "options" (V.ref t) (putF "owner" (V.str (S [o])) []))) = J3 at sb3 hn3 hT3
    have sb03 : SB n J J3 := (sb1.trans (Z.Same.sb s2)).trans sb3
    have sm3 := smN_sb sb03 hn
    have hS3 := sm3.sqK hS
    have gx3 : ∀ (i : Nat) (x : V), (as.map V.ref)[i]? = some x → ∃ (y dy tt : Addr) (b : List Pt), x = .ref y ∧ os[i]? = some b ∧ J3 y = some (.ins k.P dy (pfl tt b)) := fun i x e => by
      obtain ⟨y, b, rfl, eb, hp⟩ := gx i x e
      obtain ⟨dy, tt, bs, h1, _⟩ := hp.monoN sm3
      exact ⟨y, dy, tt, b, rfl, eb, h1⟩
    clear s2 sb1 sm1 hn1 hS1 hn2 hT hn gx
    walk_at "go"
    refine rd_sq (b := q) rfl hS3 ?_
    walk_at "go"
    intro D nD
    refine lc_vs hS3 (os.map fun b => .int (wtL b : Int)) (by rw [List.length_map, List.length_map, la]) (by rw [List.length_map]; omega) nD (fun x => rfl) (fun i x y J4 Q4 ex ey s4 q4 => ?_) (fun J4 s4 eD => ?_)
    · obtain ⟨y2, dy, tt, b, rfl, eb, hy⟩ := gx3 i x ex
      rw [List.getElem?_map, eb] at ey
      cases ey
      walk_at "go"
      refine ⟨y2, k.P, dy, _, _, rfl, s4 _ _ hy, pk.fl.cls, pk.fl.nw, rfl, ?_⟩
      exact q4 _ (Same.refl _)
    walk_at "go"
    refine ⟨D, os.map fun b => (wtL b : Int), rfl, SqL.of (by rw [List.map_map]; exact eD), ?_⟩
    rw [isum, ← wtLL_sum]
    have gx4 : ∀ (i : Nat) (x : V), (as.map V.ref)[i]? = some x → ∃ (y dy tt : Addr) (b : List Pt), x = .ref y ∧ os[i]? = some b ∧ J4 y = some (.ins k.P dy (pfl tt b)) := fun i x e => by
      obtain ⟨y, dy, tt, b, h1, h2, h3⟩ := gx3 i x e
      exact ⟨y, dy, tt, b, h1, h2, s4 _ _ h3⟩
    have hS4 := Z.Same.sqK s4 hS3
    have sb04 := sb03.trans (Z.Same.sb s4)
    have hn4 := s4 _ _ hn3
    have hT4 : SqT K J4 t (as.map V.ref) := Z.Same.sqK (b := false) s4 hT3
    clear eD nD s4 gx3 sb03 sm3 hn3 hT3 sb3 hS3
    walk_at "go"
    refine rd_sq (b := q) rfl hS4 ?_
    walk_at "go"
    intro D nD
    refine lc_vs hS4 (os.map fun b => .int (dpL b : Int)) (by rw [List.length_map, List.length_map, la]) (by rw [List.length_map]; omega) nD (fun x => rfl) (fun i x y J5 Q4 ex ey s4 q4 => ?_) (fun J5 s4 eD => ?_)
    · obtain ⟨y2, dy, tt, b, rfl, eb, hy⟩ := gx4 i x ex
      rw [List.getElem?_map, eb] at ey
      cases ey
      walk_at "go"
      refine ⟨y2, k.P, dy, _, _, rfl, s4 _ _ hy, pk.fl.cls, pk.fl.nd, rfl, ?_⟩
      exact q4 _ (Same.refl _)
    walk_at "go"
    refine ⟨D, os.map fun b => (dpL b : Int), rfl, SqL.of (by rw [List.map_map]; exact eD), (by rw [List.length_map]; omega), fun m hm hx => ?_⟩
    rw [dpLL_max hm hx]
    have gx5 : ∀ (i : Nat) (x : V), (as.map V.ref)[i]? = some x → ∃ (y dy tt : Addr) (b : List Pt), x = .ref y ∧ os[i]? = some b ∧ J5 y = some (.ins k.P dy (pfl tt b)) := fun i x e => by
      obtain ⟨y, dy, tt, b, h1, h2, h3⟩ := gx4 i x e
      exact ⟨y, dy, tt, b, h1, h2, s4 _ _ h3⟩
    have hS5 := Z.Same.sqK s4 hS4
    have sb05 := sb04.trans (Z.Same.sb s4)
    have hn5 := s4 _ _ hn4
    have hT5 : SqT K J5 t (as.map V.ref) := Z.Same.sqK (b := false) s4 hT4
    clear eD nD s4 gx4 sb04 hn4 hT4 hS4
    walk_at "go"
    refine ⟨⟨_, rfl⟩, ?_⟩
    walk_at "go"
    refine rd_sq (b := q) rfl hS5 ?_
    walk_at "go"
    intro D nD
    refine lc_vs hS5 (os.map fun b => .str (S (txB b))) (by rw [List.length_map, List.length_map, la]) (by rw [List.length_map]; omega) nD (fun x => rfl) (fun i x y J6 Q4 ex ey s4 q4 => ?_) (fun J6 s4 eD => ?_)
    · obtain ⟨y2, dy, tt, b, rfl, eb, hy⟩ := gx5 i x ex
      rw [List.getElem?_map, eb] at ey
      cases ey
      walk_at "go"
      refine ⟨y2, k.P, dy, _, _, rfl, s4 _ _ hy, pk.fl.cls, pk.fl.nt, rfl, ?_⟩
      exact q4 _ (Same.refl _)
    have hT6 : SqT K J6 t (as.map V.ref) := Z.Same.sqK (b := false) s4 hT5
    have sb06 := sb05.trans (Z.Same.sb s4)
    have hn6 := s4 _ _ hn5
    have ljn := txLL_len os okb
    have ljn2 := jn_len [32, 124, 32] (txLL os)
    walk_at "go"
    refine ⟨S [32, 124, 32], D, (txLL os).map S, rfl, rfl, .inl (SqL.of (by rw [txLL_map, List.map_map, List.map_map]; exact eD)), ?_, ?_⟩
    · rw [show (S [32, 124, 32]).length = 3 from S_len _, len3]
      omega
    rw [SX.join_S, jn_eq]
    have ljn3 : (jn [32, 124, 32] (txLL os)).length ≤ ((txLL os).map fun t => t.length + 3).sum := ljn2
    generalize hjn : jn [32, 124, 32] (txLL os) = inner at ljn3
    have lS : (S inner).length = inner.length := S_len _
    refine ⟨n, dx, _, rfl, hn6, ?_⟩
    walk_at "go"
    refine ⟨by rw [S_len]; exact szl (show 1 ≤ 100000 by decide), S [o], rfl, by rw [emS, S_len]; exact szl (show 1 ≤ 100000 by decide), ?_⟩
    rw [emS]
    refine ⟨S [40], rfl, by rw [S_cat, S_len]; exact szl (by simp only [List.length_append, List.length_cons, List.length_nil]; omega), ?_⟩
    rw [S_cat]
    refine ⟨_, rfl, .inl ⟨S inner, rfl, by rw [S_len]; exact szl (by omega), S inner, rfl, by rw [S_cat, S_len]; exact szl (by simp only [List.length_append, List.length_cons, List.length_nil]; omega), ?_⟩⟩
    rw [S_cat]
    refine ⟨S [41], rfl, by rw [S_cat, S_len]; exact szl (by simp only [List.length_append, List.length_cons, List.length_nil]; omega), ?_⟩
    rw [S_cat]
    have etx : tx (.ch o os) = [o] ++ [40] ++ inner ++ [41] := by rw [tx, hjn]
    refine ⟨n, C, dx, _, 1 + wtLL os, 1 + dpLL os, S (tx (.ch o os)), by rw [etx]; rfl, hn6, fl, (show 2 ≤ 10 by decide), hw, hd, ?_⟩
    have e : cF o os t = put3 (1 + wtLL os) (1 + dpLL os) (S (tx (.ch o os))) (putF "options" (V.ref t) (putF "owner" (V.str (S [o])) [])) := by
      unfold cF tlP
      rw [wt, dp]
      rfl
    rw [← e]
    refine qq t _ (sb06.trans (SB.upd (Z.Same.sb (Same.refl _)))) ?_ upd_same
    rcases hT6 with (h | ⟨ob, h⟩) | h
    · exact .inl (.inl (by rw [upd_ne (fun e => by rw [e, hn6] at h; cases h)]; exact h))
    · exact .inl (.inr ⟨ob, by rw [upd_ne (fun e => by rw [e, hn6] at h; cases h)]; exact h⟩)
    · exact .inr h
/-- what every part class says: its instances are parts, with the three fields -/
structure PtK (K : PySem.W.Frag) (cP C : Addr) : Prop where
  fl : Fl3 K C
  is : PySem.W.kitOne K (.ref C) (.ref cP) = some true
  ic : C8.InsC K C
/-- the facts of all part classes (cP: the class Part) -/
structure PtsK (K : PySem.W.Frag) (cP : Addr) (k : Cs) : Prop where
  t : PtK K cP k.T
  e : PtK K cP k.E
  c : PtK K cP k.C
  r : PtK K cP k.R
  n : PtK K cP k.N
  m : PtK K cP k.M
/-- a part is an instance of some part class with its three fields -/
theorem PtAt.ins {cP : Addr} (pk : PtsK K cP k) {H : Hp} : ∀ {p : Pt} {a : Addr}, PtAt k K H p a → ∃ (C dx : Addr) (fs : List (Str × V)), PtK K cP C ∧ H a = some (.ins C dx fs) ∧ fs.lookup ("weight" : Str) = some (.int (wt p : Int)) ∧ fs.lookup ("depth" : Str) = some (.int (dp p : Int)) ∧ fs.lookup ("text" : Str) = some (.str (S (tx p)))
  | .tr p q m, a, h => by
    rw [PtAt] at h
    obtain ⟨dx, h⟩ := h
    exact ⟨_, dx, _, pk.t, h, rfl, rfl, rfl⟩
  | .ev c, a, h => by
    rw [PtAt] at h
    obtain ⟨dx, h⟩ := h
    exact ⟨_, dx, _, pk.e, h, rfl, rfl, rfl⟩
  | .ch o os, a, h => by
    rw [PtAt] at h
    obtain ⟨dx, t, as, h, _⟩ := h
    exact ⟨_, dx, _, pk.c, h, rfl, rfl, rfl⟩
  | .rd o b, a, h => by
    rw [PtAt] at h
    obtain ⟨dx, x, dy, t, as, h, _⟩ := h
    exact ⟨_, dx, _, pk.r, h, rfl, rfl, rfl⟩
  | .en b, a, h => by
    rw [PtAt] at h
    obtain ⟨dx, x, dy, t, as, h, _⟩ := h
    exact ⟨_, dx, _, pk.n, h, rfl, rfl, rfl⟩
  | .ti c b, a, h => by
    rw [PtAt] at h
    obtain ⟨dx, x, dy, t, as, h, _⟩ := h
    exact ⟨_, dx, _, pk.m, h, rfl, rfl, rfl⟩
end
end Z
set_option pp.maxSteps 700
set_option Elab.async false
set_option linter.all false
set_option maxRecDepth 100000
set_option maxHeartbeats 4000000
open SX (S S_inj S_len S_cat)
namespace Z
open Pk NdefX
open PySem PySem.Spec PyProof.Rows L2
open C8 (pss_cut tCut)
local macro_rules | `(tactic| walk_at "num") => `(tactic| first | rfl | omega | decide | exact Nat.le_of_lt (small1000 (by simp)) | exact ⟨by omega, by omega⟩ | exact ⟨by omega, by omega, by omega⟩ | exact ⟨by decide, by decide, by decide⟩ | exact Or.inl ⟨by omega, by omega⟩ | exact Or.inr ⟨by omega, by omega⟩)
local macro_rules | `(tactic| walk_at "go") => `(tactic| repeat (first | refine ⟨_, rfl, ?_⟩ | refine ⟨_, _, rfl, rfl, ?_⟩ | refine ⟨_, _, rfl, ?_⟩ | (refine ⟨_, _, rfl, rfl, ?_, ?_⟩; focus walk_at "num") | refine Or.inl ⟨_, rfl, ?_⟩ | refine ⟨_, _, _, _, rfl, rfl, (by assumption), (by rfl), ?_⟩ | refine ⟨_, _, _, _, _, rfl, (by assumption), (by assumption), (by assumption), (by rfl), ?_⟩ | refine ⟨rfl, ?_⟩ | (refine And.intro ?_ ?_; focus walk_at "num")))
abbrev s_Pact___init__ : Stmt := inClass (topS 34) 0
abbrev N_Pact___init__ : List Str := ["self", "parts", "part"]
abbrev P_Pact___init__ : List Str := ["self", "parts"]
theorem sc_Pact___init__ : FnScope N_Pact___init__ P_Pact___init__ (defScope s_Pact___init__) := ⟨rfl, rfl, rfl, by decide +kernel, rfl, by decide +kernel, by decide +kernel⟩
section
variable {P : Program} {w : World} {K : PySem.W.Frag} {mg : Str → Option Value} {base : Heap} {f C g CP cP : Addr} {k : Cs} {fd : FuncData}
theorem mxf : ∀ (r : List Pt) (d : Nat), (r.map fun p => (dp p : Int)).foldl max (d : Int) = ((max d (dpL r) : Nat) : Int)
  | [], d => by
    rw [dpL]
    show (d : Int) = _
    omega
  | p :: r, d => by
    rw [dpL, List.map_cons, List.foldl_cons, show max (d : Int) (dp p : Int) = ((max d (dp p) : Nat) : Int) by omega, mxf r]
    omega
theorem mxD_dp : ∀ l : List Pt, mxD 0 (l.map fun p => (dp p : Int)) = (dpL l : Int)
  | [] => by rw [dpL]; rfl
  | p :: r => by
    rw [dpL]
    exact mxf r (dp p)
theorem len2 (ts : List (List Nat)) : ((ts.map S).map fun x => x.length).sum + (ts.map S).length * 2 = (ts.map fun t => t.length + 2).sum := by
  induction ts with
  | nil => rfl
  | cons t ts ih =>
    rw [List.map_cons, List.map_cons, List.map_cons, List.sum_cons, List.sum_cons, List.length_cons, S_len, ← ih]
    omega
theorem len_wt : ∀ l : List Pt, l.length ≤ wtL l
  | [] => Nat.zero_le _
  | p :: l => by
    have := wt_pos p
    have := len_wt l
    rw [wtL, List.length_cons]
    omega
/-- what the walk needs of the part at i -/
def PtX (cP : Addr) (k : Cs) (K : PySem.W.Frag) (J : Hp) (l : List Pt) (i : Nat) (x : V) : Prop := ∃ (y C dy : Addr) (fs : List (Str × V)) (p : Pt), x = .ref y ∧ l[i]? = some p ∧ PtK K cP C ∧ J y = some (.ins C dy fs) ∧ fs.lookup ("weight" : Str) = some (.int (wt p : Int)) ∧ fs.lookup ("depth" : Str) = some (.int (dp p : Int)) ∧ fs.lookup ("text" : Str) = some (.str (S (tx p)))
theorem ptx_of (pk : PtsK K cP k) {H : Hp} {l : List Pt} {as : List Addr} (hP : PtsAt k K H l as) : ∀ (i : Nat) (x : V), (as.map V.ref)[i]? = some x → PtX cP k K H l i x := fun i x e => by
  have la := PtsAt.len _ _ hP
  rw [List.getElem?_map] at e
  cases e1 : as[i]? with
  | none => rw [e1] at e; cases e
  | some y =>
    rw [e1] at e
    cases e
    have li := (List.getElem?_eq_some_iff.mp e1).1
    obtain ⟨y2, e2, hp⟩ := PtsAt.get _ _ hP i (l[i]'(by omega)) (List.getElem?_eq_getElem (by omega))
    rw [e1] at e2
    cases e2
    obtain ⟨C, e, fs, pt, hy, h1, h2, h3⟩ := hp.ins pk
    exact ⟨y, C, e, fs, _, rfl, List.getElem?_eq_getElem (by omega), pt, hy, h1, h2, h3⟩
theorem sb_tup {J J2 : Hp} {n t : Addr} {x : List V} {C dx : Addr} {fs : List (Str × V)} (s : SB n J J2) (hn : J n = some (.ins C dx fs)) (hT : SqT K J t x) : SqT K J2 t x := by
  rcases hT with (h | ⟨ob, h⟩) | h
  · exact .inl (.inl (s _ _ (fun e => by rw [e, hn] at h; cases h) h))
  · exact .inl (.inr ⟨ob, s _ _ (fun e => by rw [e, hn] at h; cases h) h⟩)
  · exact .inr h
def spPI (k : Cs) (K : PySem.W.Frag) : Sp := fun vs H Q _ => ∃ (q : Bool) (n dx a : Addr) (l : List Pt) (as : List Addr), vs = [.ref n, .ref a] ∧ H n = some (.ins k.P dx []) ∧ OkL l ∧ SqK q K H a (as.map V.ref) ∧ PtsAt k K H l as ∧ wtL l ≤ 400 ∧ dpL l ≤ 30 ∧ ∀ (t : Addr) H', SB n H H' → SqT K H' t (as.map V.ref) → H' n = some (.ins k.P dx (pfl t l)) → Q .non H'
theorem ok_pinit {cP : Addr} (F : FnM K "__init__" "Pact.__init__" s_Pact___init__ f fd) (m_len : mg "len" = none) (m_tuple : mg "tuple" = none) (m_sum : mg "sum" = none) (m_max : mg "max" = none) (m_isinstance : mg "isinstance" = none) (g_Part : mg "Part" = some (.ref cP)) (pa : PaK K k.P) (pk : PtsK K cP k) (c_check_size : CalX P w K mg base 3 "check_size" spSize) : FnOk P w K mg base (L2N.CX P w) 4 f fd P_Pact___init__ (spPI k K) := by
  refine F.ok sc_Pact___init__ (fun vs H Q E h => ?_) (fun cdv A outer s H vs Q E hr h => ?_)
  · obtain ⟨q, n, dx, a, l, as, rfl, _⟩ := h
    rfl
  · obtain ⟨q, n, dx, a, l, as, rfl, hn, ok, hS, hP, hw, hd, qq⟩ := h
    have la := PtsAt.len _ _ hP
    have lw := len_wt l
    refine ⟨_, (pss_cons (ps_for (passes_of rfl) rfl (pi_sq (pv 1)) (pg_name (i := 2) sc_Pact___init__.nd rfl (by first | exact .inl rfl | exact .inr rfl))
        (pss_one (ps_if (pt_not (pt_val (pe_callB call_isi (by rfl) m_isinstance (by decide +kernel) (pa_cons (pv 2) (pa_cons (pe_glob (by rfl) g_Part relv_ref) pa_nil))))) (pss_one ps_never) pss_nil)))
      (pss_cons (ps_fld (pv 0) (pe_callTy call_tupleSq (by rfl) m_tuple (by decide +kernel) (pa_cons (pv 1) pa_nil)) rfl)
      (pss_cons (ps_fld (pv 0) (pe_callB (cr_sum rfl) (by rfl) m_sum (by decide +kernel) (pa_cons (pe_lc (own := [("part", 2)]) (g := (gName 2)) (tt := tYes) (by rfl) sc_Pact___init__.nd (pi_sq (pv 1)) (blkOk_by (own := [("part", 2)]) (N := N_Pact___init__) (sc := defScope s_Pact___init__) (by decide +kernel)) (fun _ _ _ _ _ => (pg_name (i := 2) sc_Pact___init__.nd rfl (by first | exact .inl rfl | exact .inr rfl))) (fun _ _ _ _ _ => pts_nil) (fun _ _ _ _ _ => (pe_fld_K (K := K) rfl (pv 2) rfl))) pa_nil)) rfl)
      (pss_cons (ps_fld (pv 0) (pe_callBK (cr_maxD rfl hr.units) (by rfl) m_max (by decide +kernel) (pa_cons (pe_lc (own := [("part", 2)]) (g := (gName 2)) (tt := tYes) (by rfl) sc_Pact___init__.nd (pi_sq (pv 1)) (blkOk_by (own := [("part", 2)]) (N := N_Pact___init__) (sc := defScope s_Pact___init__) (by decide +kernel)) (fun _ _ _ _ _ => (pg_name (i := 2) sc_Pact___init__.nd rfl (by first | exact .inl rfl | exact .inr rfl))) (fun _ _ _ _ _ => pts_nil) (fun _ _ _ _ _ => (pe_fld_K (K := K) rfl (pv 2) rfl))) pa_nil) (pk_cons pe_int pk_nil)) rfl)
      (pss_cons (ps_expr (pe_clE c_check_size (fun _ => passS0) hr (by decide) (by rfl) (pa_cons (pe_fld (pv 0) rfl) (pa_cons (pe_fld (pv 0) rfl) pa_nil))))
      (pss_one (ps_fld (pv 0) (pe_ifExp (pt_cmpR op_gt (pe_callB call_len_seq (by rfl) m_len PySem.boot_len (pa_cons (pv 1) pa_nil)) pe_int (nomark _)) (pe_join pe_str (pe_lc (own := [("part", 2)]) (g := (gName 2)) (tt := tYes) (by rfl) sc_Pact___init__.nd (pi_sq (pv 1)) (blkOk_by (own := [("part", 2)]) (N := N_Pact___init__) (sc := defScope s_Pact___init__) (by decide +kernel)) (fun _ _ _ _ _ => (pg_name (i := 2) sc_Pact___init__.nd rfl (by first | exact .inl rfl | exact .inr rfl))) (fun _ _ _ _ _ => pts_nil) (fun _ _ _ _ _ => (pe_fld_K (K := K) rfl (pv 2) rfl)))) pe_str) rfl))))))), ?_⟩
    walk_at "go"
    refine rd_sq (b := q) rfl hS ?_
    refine for_sq hS (fun i σ J => J = H ∧ ∃ v2 : Option V, σ = [some (.ref n), some (.ref a), v2]) ⟨rfl, none, rfl⟩ (fun i σ J h => by rw [h.1]; exact Same.refl _) (fun i x σ J ex h => ?_) (fun σ J h => ?_)
    · obtain ⟨rfl, v2, rfl⟩ := h
      obtain ⟨y, C, e, fs, p, rfl, _, pt, hy, _⟩ := ptx_of pk hP i x ex
      walk_at "go"
      refine ⟨.ref y, .ref cP, .ref C, .ref cP, true, rfl, .own cP, .base (.ins hy pt.ic.cl pt.ic.ha pt.ic.hn pt.ic.htk pt.ic.hm), pt.is, ?_⟩
      walk_at "go"
      first
        | exact ⟨rfl, _, rfl⟩
        | exact ⟨_, rfl⟩
        | skip
    obtain ⟨rfl, v2, rfl⟩ := h
    walk_at "go"
    refine ⟨q, a, _, rfl, hS, fun t J2 s2 hT => ?_⟩
    have hn2 := s2 _ _ hn
    walk_at "go"
    refine ⟨n, k.P, dx, _, rfl, hn2, pa.fl.cls, pa.np, (show 0 < 1000 by decide), ?_⟩
    have sb3 : SB n J2 (upd J2 n (.ins k.P dx (putF "parts" (V.ref t) []))) := SB.upd (Z.Same.sb (Same.refl _))
    have hn3 : (upd J2 n (.ins k.P dx (putF "parts" (V.ref t) []))) n = some (.ins k.P dx (putF "parts" (V.ref t) [])) := upd_same
    have hT3 := sb_tup sb3 hn2 hT
    generalize upd J2 n (.ins k.P dx (putF "parts" (V.ref t) [])) = J3 at sb3 hn3 hT3
    have sb03 : SB n J J3 := (Z.Same.sb s2).trans sb3
    have sm3 := smN_sb sb03 hn
    have hS3 := sm3.sqK hS
    have gx3 := ptx_of pk (PtsAt.monoN sm3 _ _ hP)
    clear s2 hn2 hT
    walk_at "go"
    refine rd_sq (b := q) rfl hS3 ?_
    walk_at "go"
    intro D nD
    refine lc_vs hS3 (l.map fun b => .int (wt b : Int)) (by rw [List.length_map, List.length_map, la]) (by rw [List.length_map]; omega) nD (fun x => rfl) (fun i x y J4 Q4 ex ey s4 q4 => ?_) (fun J4 s4 eD => ?_)
    · obtain ⟨y2, C, dy, fs, p, rfl, eb, pt, hy, h1, h2, h3⟩ := gx3 i x ex
      rw [List.getElem?_map, eb] at ey
      cases ey
      walk_at "go"
      refine ⟨y2, C, dy, _, _, rfl, s4 _ _ hy, pt.fl.cls, pt.fl.nw, h1, ?_⟩
      exact q4 _ (Same.refl _)
    walk_at "go"
    refine ⟨D, l.map fun b => (wt b : Int), rfl, SqL.of (by rw [List.map_map]; exact eD), ?_⟩
    rw [isum, ← wtL_sum]
    have hn4 := s4 _ _ hn3
    walk_at "go"
    refine ⟨n, k.P, dx, _, rfl, hn4, pa.fl.cls, pa.fl.nw, (show 1 < 1000 by decide), ?_⟩
    have sb5 : SB n J4 (upd J4 n (.ins k.P dx (putF "weight" (V.int (wtL l : Int)) (putF "parts" (V.ref t) [])))) := SB.upd (Z.Same.sb (Same.refl _))
    have hn5 : (upd J4 n (.ins k.P dx (putF "weight" (V.int (wtL l : Int)) (putF "parts" (V.ref t) [])))) n = some (.ins k.P dx (putF "weight" (V.int (wtL l : Int)) (putF "parts" (V.ref t) []))) := upd_same
    have hT5 := sb_tup sb5 hn4 (Z.Same.sqK (b := false) s4 hT3)
    generalize upd J4 n (.ins k.P dx (putF "weight" (V.int (wtL l : Int)) (putF "parts" (V.ref t) []))) = J5 at sb5 hn5 hT5
    have sb05 : SB n J J5 := (sb03.trans (Z.Same.sb s4)).trans sb5
    have sm5 := smN_sb sb05 hn
    have hS5 := sm5.sqK hS
    have gx5 := ptx_of pk (PtsAt.monoN sm5 _ _ hP)
    clear s4 hn3 hn4 hT3 hS3 eD nD
    walk_at "go"
    refine rd_sq (b := q) rfl hS5 ?_
    walk_at "go"
    intro D nD
    refine lc_vs hS5 (l.map fun b => .int (dp b : Int)) (by rw [List.length_map, List.length_map, la]) (by rw [List.length_map]; omega) nD (fun x => rfl) (fun i x y J6 Q4 ex ey s4 q4 => ?_) (fun J6 s4 eD => ?_)
    · obtain ⟨y2, C, dy, fs, p, rfl, eb, pt, hy, h1, h2, h3⟩ := gx5 i x ex
      rw [List.getElem?_map, eb] at ey
      cases ey
      walk_at "go"
      refine ⟨y2, C, dy, _, _, rfl, s4 _ _ hy, pt.fl.cls, pt.fl.nd, h2, ?_⟩
      exact q4 _ (Same.refl _)
    walk_at "go"
    refine ⟨D, l.map fun b => (dp b : Int), 0, rfl, rfl, SqL.of (by rw [List.map_map]; exact eD), ?_⟩
    rw [mxD_dp]
    have hn6 := s4 _ _ hn5
    walk_at "go"
    refine ⟨n, k.P, dx, _, rfl, hn6, pa.fl.cls, pa.fl.nd, (show 2 < 1000 by decide), ?_⟩
    have sb7 : SB n J6 (upd J6 n (.ins k.P dx (putF "depth" (V.int (dpL l : Int)) (putF "weight" (V.int (wtL l : Int)) (putF "parts" (V.ref t) []))))) := SB.upd (Z.Same.sb (Same.refl _))
    have hn7 : (upd J6 n (.ins k.P dx (putF "depth" (V.int (dpL l : Int)) (putF "weight" (V.int (wtL l : Int)) (putF "parts" (V.ref t) []))))) n = some (.ins k.P dx (putF "depth" (V.int (dpL l : Int)) (putF "weight" (V.int (wtL l : Int)) (putF "parts" (V.ref t) [])))) := upd_same
    have hT7 := sb_tup sb7 hn6 (Z.Same.sqK (b := false) s4 hT5)
    generalize upd J6 n (.ins k.P dx (putF "depth" (V.int (dpL l : Int)) (putF "weight" (V.int (wtL l : Int)) (putF "parts" (V.ref t) [])))) = J7 at sb7 hn7 hT7
    have sb07 : SB n J J7 := (sb05.trans (Z.Same.sb s4)).trans sb7
    have sm7 := smN_sb sb07 hn
    have hS7 := sm7.sqK hS
    have gx7 := ptx_of pk (PtsAt.monoN sm7 _ _ hP)
    clear s4 hn5 hn6 hT5 hS5 eD nD
    walk_at "go"
    refine ⟨n, k.P, dx, _, _, rfl, hn7, pa.fl.cls, pa.fl.nw, rfl, ?_⟩
    walk_at "go"
    refine ⟨n, k.P, dx, _, _, rfl, hn7, pa.fl.cls, pa.fl.nd, rfl, ?_⟩
    walk_at "go"
    refine ⟨a, _, rfl, sqk_or hS7, ?_⟩
    rw [List.length_map, la]
    walk_at "go"
    have fin : ∀ J9, Same J7 J9 → Q .non (upd J9 n (.ins k.P dx (putF "text" (V.str (S (txB l))) (putF "depth" (V.int (dpL l : Int)) (putF "weight" (V.int (wtL l : Int)) (putF "parts" (V.ref t) [])))))) := fun J9 s9 => by
      have hn9 := s9 _ _ hn7
      have sb9 : SB n J9 (upd J9 n (.ins k.P dx (putF "text" (V.str (S (txB l))) (putF "depth" (V.int (dpL l : Int)) (putF "weight" (V.int (wtL l : Int)) (putF "parts" (V.ref t) [])))))) := SB.upd (Z.Same.sb (Same.refl _))
      refine qq t _ ((sb07.trans (Z.Same.sb s9)).trans sb9) (sb_tup sb9 hn9 (Z.Same.sqK (b := false) s9 hT7)) ?_
      rw [upd_same]
      rfl
    match l, fin, la, gx7, lw with
    | [], fin, la, _, _ =>
      rw [decide_eq_false (show ¬ (0 : Int) < (([] : List Pt).length : Int) by decide)]
      walk_at "go"
      refine ⟨n, k.P, dx, _, rfl, hn7, pa.fl.cls, pa.fl.nt, (show 3 < 1000 by decide), ?_⟩
      refine (show _ → _ from fun h => h) (fin J7 (Same.refl _))
    | p0 :: l0, fin, la, gx7, lw =>
      rw [decide_eq_true (show (0 : Int) < ((p0 :: l0).length : Int) by rw [List.length_cons]; omega)]
      walk_at "go"
      refine ⟨⟨_, rfl⟩, ?_⟩
      walk_at "go"
      refine rd_sq (b := q) rfl hS7 ?_
      walk_at "go"
      intro D nD
      refine lc_vs hS7 ((p0 :: l0).map fun b => .str (S (tx b))) (by rw [List.length_map, List.length_map, la]) (by rw [List.length_map]; omega) nD (fun x => rfl) (fun i x y J8 Q4 ex ey s4 q4 => ?_) (fun J8 s4 eD => ?_)
      · obtain ⟨y2, C, dy, fs, p, rfl, eb, pt, hy, h1, h2, h3⟩ := gx7 i x ex
        rw [List.getElem?_map, eb] at ey
        cases ey
        walk_at "go"
        refine ⟨y2, C, dy, _, _, rfl, s4 _ _ hy, pt.fl.cls, pt.fl.nt, h3, ?_⟩
        exact q4 _ (Same.refl _)
      have lt := txs_len (p0 :: l0) ok
      walk_at "go"
      refine ⟨S [44, 32], D, (txs (p0 :: l0)).map S, rfl, rfl, .inl (SqL.of (by rw [txs_map, List.map_map, List.map_map]; exact eD)), ?_, ?_⟩
      · rw [show (S [44, 32]).length = 2 from S_len _, len2]
        omega
      rw [SX.join_S, jn_eq, ← txB_cons]
      have hn8 := s4 _ _ hn7
      walk_at "go"
      refine ⟨n, k.P, dx, _, rfl, hn8, pa.fl.cls, pa.fl.nt, (show 3 < 1000 by decide), ?_⟩
      exact fin J8 s4
end
end Z
set_option pp.maxSteps 700
set_option Elab.async false
set_option linter.all false
set_option maxRecDepth 100000
set_option maxHeartbeats 4000000
open SX (S S_inj S_len S_cat)
namespace Z
open Pk NdefX
open PySem PySem.Spec PyProof.Rows L2
open C8 (pss_cut tCut)
local macro_rules | `(tactic| walk_at "num") => `(tactic| first | rfl | omega | decide | exact Nat.le_of_lt (small1000 (by simp)) | exact ⟨by omega, by omega⟩ | exact ⟨by omega, by omega, by omega⟩ | exact ⟨by decide, by decide, by decide⟩ | exact Or.inl ⟨by omega, by omega⟩ | exact Or.inr ⟨by omega, by omega⟩)
local macro_rules | `(tactic| walk_at "go") => `(tactic| repeat (first | refine ⟨_, rfl, ?_⟩ | refine ⟨_, _, rfl, rfl, ?_⟩ | refine ⟨_, _, rfl, ?_⟩ | (refine ⟨_, _, rfl, rfl, ?_, ?_⟩; focus walk_at "num") | refine Or.inl ⟨_, rfl, ?_⟩ | refine ⟨_, _, _, _, rfl, rfl, (by assumption), (by rfl), ?_⟩ | refine ⟨_, _, _, _, _, rfl, (by assumption), (by assumption), (by assumption), (by rfl), ?_⟩ | refine ⟨rfl, ?_⟩ | (refine And.intro ?_ ?_; focus walk_at "num")))
/-! ### the classes' promises -/
section
variable {H H' : Hp} {n dx C : Addr}
theorem made_new {o : HO} (hn : H n = none) (hd : H dx = none) (h : SB n (upd (upd H dx (.own n)) n (.ins C dx [])) H') : Same H H' := fun a u e => h a u (fun z => by rw [z, hn] at e; cases e) (by rw [upd_ne (fun z => by rw [z, hn] at e; cases e), upd_ne (fun z => by rw [z, hd] at e; cases e)]; exact e)
theorem made_same (hn : H n = none) (hd : H dx = none) : Same H (upd (upd H dx (.own n)) n (.ins C dx [])) := made_new (o := .own n) hn hd (Z.Same.sb (Same.refl _))
theorem made_upd {o : HO} (hn : H n = none) (hd : H dx = none) : Same H (upd (upd (upd H dx (.own n)) n (.ins C dx [])) n o) := made_new (o := o) hn hd (SB.upd (Z.Same.sb (Same.refl _)))
end
section
variable {P : Program} {w : World} {K : PySem.W.Frag} {mg : Str → Option Value} {base : Heap} {k : Cs}
def spT (k : Cs) (K : PySem.W.Frag) : Sp := fun vs H Q _ => ∃ p q m : Nat, vs = [.str (S [p]), .str (S [q]), .int (m : Int)] ∧ Ok (.tr p q m) ∧ ∀ x H', Same H H' → H x = none → PtAt k K H' (.tr p q m) x → Q (.ref x) H'
theorem mk_T (h : MakX P w K mg base 5 "Transfer" k.T (spTI k.T)) : MakY P w K mg base 5 "Transfer" (spT k K) := ⟨k.T, _, h, fun vs H Q E hq n dx hn hd ne => by
  obtain ⟨p, q, m, rfl, ok, cc⟩ := hq
  refine ⟨n, dx, p, q, m, rfl, upd_same, ok, rfl, cc n _ (made_upd hn hd) hn ?_⟩
  rw [PtAt]
  exact ⟨dx, upd_same⟩⟩
def spE (k : Cs) (K : PySem.W.Frag) : Sp := fun vs H Q _ => ∃ c : Nat, vs = [.str (S [c])] ∧ Ok (.ev c) ∧ ∀ x H', Same H H' → H x = none → PtAt k K H' (.ev c) x → Q (.ref x) H'
theorem mk_E (h : MakX P w K mg base 5 "Event" k.E (spEI k.E)) : MakY P w K mg base 5 "Event" (spE k K) := ⟨k.E, _, h, fun vs H Q E hq n dx hn hd ne => by
  obtain ⟨c, rfl, ok, cc⟩ := hq
  refine ⟨n, dx, c, rfl, upd_same, ok, rfl, cc n _ (made_upd hn hd) hn ?_⟩
  rw [PtAt]
  exact ⟨dx, upd_same⟩⟩
def spC (k : Cs) (K : PySem.W.Frag) : Sp := fun vs H Q _ => ∃ (q : Bool) (a : Addr) (o : Nat) (os : List (List Pt)) (as : List Addr), vs = [.str (S [o]), .ref a] ∧ Ok (.ch o os) ∧ SqK q K H a (as.map V.ref) ∧ PasAt k K H os as ∧ wt (.ch o os) ≤ 400 ∧ dp (.ch o os) ≤ 30 ∧ ∀ x H', Same H H' → H x = none → PtAt k K H' (.ch o os) x → Q (.ref x) H'
theorem mk_C (h : MakX P w K mg base 5 "Choice" k.C (spCI k.C k K)) : MakY P w K mg base 5 "Choice" (spC k K) := ⟨k.C, _, h, fun vs H Q E hq n dx hn hd ne => by
  obtain ⟨q, a, o, os, as, rfl, ok, hS, hP, hw, hdp, cc⟩ := hq
  have s1 : Same H (upd (upd H dx (.own n)) n (.ins k.C dx [])) := made_same hn hd
  refine ⟨q, n, dx, a, o, os, as, rfl, upd_same, ok, Z.Same.sqK s1 hS, PasAt.mono s1 _ _ hP, hw, hdp, fun t H' sb hT hN => ⟨rfl, cc n H' (made_new (o := .own n) hn hd sb) hn ?_⟩⟩
  rw [PtAt]
  exact ⟨dx, t, as, hN, hT, PasAt.monoN (smN_sb sb upd_same) _ _ (PasAt.mono s1 _ _ hP)⟩⟩
def spR (k : Cs) (K : PySem.W.Frag) : Sp := fun vs H Q _ => ∃ (y : Addr) (o : Nat) (b : List Pt), vs = [.str (S [o]), .ref y] ∧ Ok (.rd o b) ∧ PaAt k K H b y ∧ wt (.rd o b) ≤ 400 ∧ dp (.rd o b) ≤ 30 ∧ ∀ x H', Same H H' → H x = none → PtAt k K H' (.rd o b) x → Q (.ref x) H'
theorem sb_self {H H1 : Hp} {n C dx : Addr} {o : HO} (s : SB n H (upd H1 n o)) (e : H n = some (.ins C dx [])) : SmN H (upd H1 n o) := smN_sb s e
theorem mk_R (h : MakX P w K mg base 5 "Rounds" k.R (spRI k.R k K)) : MakY P w K mg base 5 "Rounds" (spR k K) := ⟨k.R, _, h, fun vs H Q E hq n dx hn hd ne => by
  obtain ⟨y, o, b, rfl, ok, hP, hw, hdp, cc⟩ := hq
  have s1 : Same H (upd (upd H dx (.own n)) n (.ins k.R dx [])) := made_same hn hd
  refine ⟨n, dx, y, o, b, rfl, upd_same, ok, hP.mono s1, hw, hdp, rfl, cc n _ (made_upd hn hd) hn ?_⟩
  obtain ⟨dy, t, as, h1, h2, h3⟩ := (hP.mono s1).monoN (sb_self (SB.upd (o := .ins k.R dx (rF o b y)) (Z.Same.sb (Same.refl _))) upd_same)
  rw [PtAt]
  exact ⟨dx, y, dy, t, as, upd_same, h1, h2, h3⟩⟩
def spN (k : Cs) (K : PySem.W.Frag) : Sp := fun vs H Q _ => ∃ (y : Addr) (b : List Pt), vs = [.ref y] ∧ Ok (.en b) ∧ PaAt k K H b y ∧ wt (.en b) ≤ 400 ∧ dp (.en b) ≤ 30 ∧ ∀ x H', Same H H' → H x = none → PtAt k K H' (.en b) x → Q (.ref x) H'
theorem mk_N (h : MakX P w K mg base 5 "Endless" k.N (spNI k.N k K)) : MakY P w K mg base 5 "Endless" (spN k K) := ⟨k.N, _, h, fun vs H Q E hq n dx hn hd ne => by
  obtain ⟨y, b, rfl, ok, hP, hw, hdp, cc⟩ := hq
  have s1 : Same H (upd (upd H dx (.own n)) n (.ins k.N dx [])) := made_same hn hd
  refine ⟨n, dx, y, b, rfl, upd_same, ok, hP.mono s1, hw, hdp, rfl, cc n _ (made_upd hn hd) hn ?_⟩
  obtain ⟨dy, t, as, h1, h2, h3⟩ := (hP.mono s1).monoN (sb_self (SB.upd (o := .ins k.N dx (nF b y)) (Z.Same.sb (Same.refl _))) upd_same)
  rw [PtAt]
  exact ⟨dx, y, dy, t, as, upd_same, h1, h2, h3⟩⟩
def spM (k : Cs) (K : PySem.W.Frag) : Sp := fun vs H Q _ => ∃ (y : Addr) (c : Nat) (b : List Pt), vs = [.int (c : Int), .ref y] ∧ Ok (.ti c b) ∧ PaAt k K H b y ∧ wt (.ti c b) ≤ 400 ∧ dp (.ti c b) ≤ 30 ∧ ∀ x H', Same H H' → H x = none → PtAt k K H' (.ti c b) x → Q (.ref x) H'
theorem mk_M (h : MakX P w K mg base 5 "Times" k.M (spMI k.M k K)) : MakY P w K mg base 5 "Times" (spM k K) := ⟨k.M, _, h, fun vs H Q E hq n dx hn hd ne => by
  obtain ⟨y, c, b, rfl, ok, hP, hw, hdp, cc⟩ := hq
  have s1 : Same H (upd (upd H dx (.own n)) n (.ins k.M dx [])) := made_same hn hd
  refine ⟨n, dx, y, c, b, rfl, upd_same, ok, hP.mono s1, hw, hdp, rfl, cc n _ (made_upd hn hd) hn ?_⟩
  obtain ⟨dy, t, as, h1, h2, h3⟩ := (hP.mono s1).monoN (sb_self (SB.upd (o := .ins k.M dx (mF c b y)) (Z.Same.sb (Same.refl _))) upd_same)
  rw [PtAt]
  exact ⟨dx, y, dy, t, as, upd_same, h1, h2, h3⟩⟩
def spP (k : Cs) (K : PySem.W.Frag) : Sp := fun vs H Q _ => ∃ (q : Bool) (a : Addr) (l : List Pt) (as : List Addr), vs = [.ref a] ∧ OkL l ∧ SqK q K H a (as.map V.ref) ∧ PtsAt k K H l as ∧ wtL l ≤ 400 ∧ dpL l ≤ 30 ∧ ∀ x H', Same H H' → H x = none → PaAt k K H' l x → Q (.ref x) H'
theorem mk_P (h : MakX P w K mg base 4 "Pact" k.P (spPI k K)) : MakY P w K mg base 4 "Pact" (spP k K) := ⟨k.P, _, h, fun vs H Q E hq n dx hn hd ne => by
  obtain ⟨q, a, l, as, rfl, ok, hS, hP, hw, hdp, cc⟩ := hq
  have s1 : Same H (upd (upd H dx (.own n)) n (.ins k.P dx [])) := made_same hn hd
  refine ⟨q, n, dx, a, l, as, rfl, upd_same, ok, Z.Same.sqK s1 hS, PtsAt.mono s1 _ _ hP, hw, hdp, fun t H' sb hT hN => ⟨rfl, cc n H' (made_new (o := .own n) hn hd sb) hn ?_⟩⟩
  exact ⟨dx, t, as, hN, hT, PtsAt.monoN (smN_sb sb upd_same) _ _ (PtsAt.mono s1 _ _ hP)⟩⟩
end
end Z
set_option pp.maxSteps 700
set_option Elab.async false
set_option linter.all false
set_option maxRecDepth 100000
set_option maxHeartbeats 4000000
open SX (S S_inj S_len S_cat)
namespace Z
open Pk NdefX
open PySem PySem.Spec PyProof.Rows L2
open C8 (pss_cut tCut)
local macro_rules | `(tactic| walk_at "num") => `(tactic| first | rfl | omega | decide | exact Nat.le_of_lt (small1000 (by simp)) | exact ⟨by omega, by omega⟩ | exact ⟨by omega, by omega, by omega⟩ | exact ⟨by decide, by decide, by decide⟩ | exact Or.inl ⟨by omega, by omega⟩ | exact Or.inr ⟨by omega, by omega⟩)
local macro_rules | `(tactic| walk_at "go") => `(tactic| repeat (first | refine ⟨_, rfl, ?_⟩ | refine ⟨_, _, rfl, rfl, ?_⟩ | refine ⟨_, _, rfl, ?_⟩ | (refine ⟨_, _, rfl, rfl, ?_, ?_⟩; focus walk_at "num") | refine Or.inl ⟨_, rfl, ?_⟩ | refine ⟨_, _, _, _, rfl, rfl, (by assumption), (by rfl), ?_⟩ | refine ⟨_, _, _, _, _, rfl, (by assumption), (by assumption), (by assumption), (by rfl), ?_⟩ | refine ⟨rfl, ?_⟩ | (refine And.intro ?_ ?_; focus walk_at "num")))
abbrev s_build : Stmt := topS 59
abbrev N_build : List Str := ["_law_pact_here", "_law_part_here"]
abbrev P_build : List Str := ["_law_pact_here"]
theorem sc_build : FnScope N_build P_build (defScope s_build) := ⟨rfl, rfl, rfl, by decide +kernel, rfl, by decide +kernel, by decide +kernel⟩
abbrev s_build_part : Stmt := topS 60
abbrev N_build_part : List Str := ["_law_part_here", "_law_option"]
abbrev P_build_part : List Str := ["_law_part_here"]
theorem sc_build_part : FnScope N_build_part P_build_part (defScope s_build_part) := ⟨rfl, rfl, rfl, by decide +kernel, rfl, by decide +kernel, by decide +kernel⟩
section
variable {P : Program} {w : World} {K : PySem.W.Frag} {mg : Str → Option Value} {base : Heap} {f : Addr} {k : Cs} {fd : FuncData}
theorem Same.back {H H' : Hp} {x : Addr} (s : Same H H') (h : H' x = none) : H x = none := by
  cases e : H x with
  | none => rfl
  | some o => rw [s _ _ e] at h; cases h
theorem no_fn {CX : CXT} {m : Nat} {ps : List Str} {sp : Sp} (h : ∀ vs H Q E, ¬ sp vs H Q E) : FnOk P w K mg base CX m f fd ps sp := ⟨fun _ _ _ _ z => (h _ _ _ _ z).elim, fun _ _ _ _ _ _ _ _ _ _ _ _ _ z => (h _ _ _ _ z).elim⟩
def spBl (k : Cs) (K : PySem.W.Frag) (d : Nat) : Sp := fun vs H Q _ => ∃ (L : Addr) (l : List Pt), vs = [.ref L] ∧ DaAt H l L ∧ OkL l ∧ wtL l ≤ 400 ∧ dpL l ≤ 30 ∧ dpL l + 1 ≤ d ∧ ∀ x H', Same H H' → H x = none → PaAt k K H' l x → Q (.ref x) H'
def spBp (k : Cs) (K : PySem.W.Frag) (d : Nat) : Sp := fun vs H Q _ => ∃ (a : Addr) (p : Pt), vs = [.ref a] ∧ DtAt H p a ∧ Ok p ∧ wt p ≤ 400 ∧ dp p ≤ 30 ∧ dp p ≤ d ∧ ∀ x H', Same H H' → H x = none → PtAt k K H' p x → Q (.ref x) H'
theorem ok_build {d : Nat} (F : FnP K "_law_build" s_build f fd) (y_Pact : MakY P w K mg base 4 "Pact" (spP k K)) (c_build_part : Cal P w K mg base (2 * d + 7) "_law_build_part" (spBp k K d)) : FnOk P w K mg base CX0 (2 * d + 8) f fd P_build (spBl k K (d + 1)) := by
  refine F.ok sc_build (fun vs H Q E h => ?_) (fun cdv A outer s H vs Q E hr h => ?_)
  · obtain ⟨L, l, rfl, _⟩ := h
    rfl
  · obtain ⟨L, l, rfl, ⟨bs, hL, hD⟩, ok, hw, hd, hd2, qq⟩ := h
    refine ⟨_, PSs.nox (pss_one (ps_ret (pe_mkY y_Pact (fun _ => passS0) hr (by omega) (by rfl) (pa_cons (pe_lc (own := [("_law_part_here", 1)]) (g := (gName 1)) (tt := tYes) (by rfl) sc_build.nd (pi_list (pv 0)) (blkOk_by (own := [("_law_part_here", 1)]) (N := N_build) (sc := defScope s_build) (by decide +kernel)) (fun _ _ _ _ _ => (pg_name (i := 1) sc_build.nd rfl (by first | exact .inl rfl | exact .inr rfl))) (fun _ _ _ _ _ => pts_nil) (fun _ _ _ _ _ => (pe_cl c_build_part hr (by omega) (by rfl) (pa_cons (pv 1) pa_nil)))) pa_nil)))), ?_⟩
    have lw := len_wt l
    have lb := DtsAt.len _ _ hD
    walk_at "go"
    refine ⟨⟨_, SqL.of hL⟩, ?_⟩
    intro D nD
    refine lc_relL (fun i J y => ∃ x p, y = .ref x ∧ l[i]? = some p ∧ PtAt k K J p x) (fun i X Y y s h => ?_) (SqL.of hL) (by rw [List.length_map]; omega) nD (fun x => rfl) (fun i x J Q4 ex s4 q4 => ?_) (fun J ys s4 eD ly hG => ?_)
    · obtain ⟨x, p, h1, h2, h3⟩ := h
      exact ⟨x, p, h1, h2, PtAt.monoW s _ _ h3⟩
    · obtain ⟨y, p, rfl, ep, hp⟩ := DtsAt.gets _ _ hD i x ex
      have pm := List.mem_of_getElem? ep
      have := wtL_mem pm
      have := dpL_mem pm
      walk_at "go"
      refine ⟨y, p, rfl, hp.mono s4, okL_iff.mp ok p pm, by omega, by omega, by omega, fun z J2 s2 _ hz => q4 _ _ s2 ⟨z, p, rfl, ep, hz⟩⟩
    obtain ⟨as, rfl⟩ := refs_of ys fun i y e => by
      obtain ⟨x, p, h1, _⟩ := hG i y e
      exact ⟨x, h1⟩
    rw [List.length_map, List.length_map, lb] at ly
    walk_at "go"
    refine ⟨true, D, l, as, rfl, ok, SqL.of eD, ptsAt_of l as ly fun i p a ep ea => ?_, hw, hd, fun x H' s5 hx hP => qq x H' (s4.trans s5) (Same.back s4 hx) hP⟩
    obtain ⟨x, p2, h1, h2, h3⟩ := hG i (.ref a) (by rw [List.getElem?_map, ea]; rfl)
    cases h1
    rw [ep] at h2
    cases h2
    exact h3
theorem ok_build_part {d : Nat} (F : FnP K "_law_build_part" s_build_part f fd) (y_Transfer : MakY P w K mg base 5 "Transfer" (spT k K)) (y_Event : MakY P w K mg base 5 "Event" (spE k K)) (y_Choice : MakY P w K mg base 5 "Choice" (spC k K)) (y_Rounds : MakY P w K mg base 5 "Rounds" (spR k K)) (y_Endless : MakY P w K mg base 5 "Endless" (spN k K)) (y_Times : MakY P w K mg base 5 "Times" (spM k K)) (c_build : Cal P w K mg base (2 * d + 6) "_law_build" (spBl k K d)) : FnOk P w K mg base CX0 (2 * d + 7) f fd P_build_part (spBp k K d) := by
  refine F.ok sc_build_part (fun vs H Q E h => ?_) (fun cdv A outer s H vs Q E hr h => ?_)
  · obtain ⟨a, p, rfl, _⟩ := h
    rfl
  · obtain ⟨a, p, rfl, hD, ok, hw, hd, hd2, qq⟩ := h
    refine ⟨_, PSs.nox (pss_cons (ps_if (pt_cmpR op_eq (pe_ix ix_tup (pv 0) pe_int (fun _ _ => rfl)) pe_str (nomark _)) (pss_one (ps_ret (pe_mkY y_Transfer (fun _ => passS0) hr (by omega) (by rfl) (pa_cons (pe_ix ix_tup (pv 0) pe_int (fun _ _ => rfl)) (pa_cons (pe_ix ix_tup (pv 0) pe_int (fun _ _ => rfl)) (pa_cons (pe_ix ix_tup (pv 0) pe_int (fun _ _ => rfl)) pa_nil)))))) pss_nil)
      (pss_cons (ps_if (pt_cmpR op_eq (pe_ix ix_tup (pv 0) pe_int (fun _ _ => rfl)) pe_str (nomark _)) (pss_one (ps_ret (pe_mkY y_Event (fun _ => passS0) hr (by omega) (by rfl) (pa_cons (pe_ix ix_tup (pv 0) pe_int (fun _ _ => rfl)) pa_nil)))) pss_nil)
      (pss_cons (ps_if (pt_cmpR op_eq (pe_ix ix_tup (pv 0) pe_int (fun _ _ => rfl)) pe_str (nomark _)) (pss_one (ps_ret (pe_mkY y_Choice (fun _ => passS0) hr (by omega) (by rfl) (pa_cons (pe_ix ix_tup (pv 0) pe_int (fun _ _ => rfl)) (pa_cons (pe_lc (own := [("_law_option", 1)]) (g := (gName 1)) (tt := tYes) (by rfl) sc_build_part.nd (pi_list (pe_ix ix_tup (pv 0) pe_int (fun _ _ => rfl))) (blkOk_by (own := [("_law_option", 1)]) (N := N_build_part) (sc := defScope s_build_part) (by decide +kernel)) (fun _ _ _ _ _ => (pg_name (i := 1) sc_build_part.nd rfl (by first | exact .inl rfl | exact .inr rfl))) (fun _ _ _ _ _ => pts_nil) (fun _ _ _ _ _ => (pe_cl c_build hr (by omega) (by rfl) (pa_cons (pv 1) pa_nil)))) pa_nil))))) pss_nil)
      (pss_cons (ps_if (pt_cmpR op_eq (pe_ix ix_tup (pv 0) pe_int (fun _ _ => rfl)) pe_str (nomark _)) (pss_one (ps_ret (pe_mkY y_Rounds (fun _ => passS0) hr (by omega) (by rfl) (pa_cons (pe_ix ix_tup (pv 0) pe_int (fun _ _ => rfl)) (pa_cons (pe_cl c_build hr (by omega) (by rfl) (pa_cons (pe_ix ix_tup (pv 0) pe_int (fun _ _ => rfl)) pa_nil)) pa_nil))))) pss_nil)
      (pss_cons (ps_if (pt_cmpR op_eq (pe_ix ix_tup (pv 0) pe_int (fun _ _ => rfl)) pe_str (nomark _)) (pss_one (ps_ret (pe_mkY y_Endless (fun _ => passS0) hr (by omega) (by rfl) (pa_cons (pe_cl c_build hr (by omega) (by rfl) (pa_cons (pe_ix ix_tup (pv 0) pe_int (fun _ _ => rfl)) pa_nil)) pa_nil)))) pss_nil)
      (pss_one (ps_ret (pe_mkY y_Times (fun _ => passS0) hr (by omega) (by rfl) (pa_cons (pe_ix ix_tup (pv 0) pe_int (fun _ _ => rfl)) (pa_cons (pe_cl c_build hr (by omega) (by rfl) (pa_cons (pe_ix ix_tup (pv 0) pe_int (fun _ _ => rfl)) pa_nil)) pa_nil)))))))))), ?_⟩
    have hD0 := hD
    match p, hD, ok, hw, hd, hd2, qq with
    | .tr p q m, hD, ok, hw, hd, hd2, qq =>
      rw [DtAt] at hD
      have hT : SqT K H a _ := SqT.of hD
      walk_at "go"
      exact ⟨p, q, m, rfl, ok, qq⟩
    | .ev c, hD, ok, hw, hd, hd2, qq =>
      rw [DtAt] at hD
      have hT : SqT K H a _ := SqT.of hD
      walk_at "go"
      exact qq
    | .ch o os, hD, ok, hw, hd, hd2, qq =>
      rw [DtAt] at hD
      obtain ⟨L, as, hD, hL, hA⟩ := hD
      have hT : SqT K H a _ := SqT.of hD
      walk_at "go"
      refine ⟨⟨_, SqL.of hL⟩, ?_⟩
      intro D nD
      have la := DasAt.len _ _ hA
      have okk := ok
      rw [Ok] at okk
      have hw2 := hw
      rw [wt] at hw2
      have hd3 := hd
      have hd4 := hd2
      rw [dp] at hd3 hd4
      refine lc_relL (fun i J y => ∃ x b, y = .ref x ∧ os[i]? = some b ∧ PaAt k K J b x) (fun i X Y y s h => ?_) (SqL.of hL) (by rw [List.length_map]; omega) nD (fun x => rfl) (fun i x J Q4 ex s4 q4 => ?_) (fun J ys s4 eD ly hG => ?_)
      · obtain ⟨x, p, h1, h2, h3⟩ := h
        exact ⟨x, p, h1, h2, PaAt.monoW s h3⟩
      · obtain ⟨y, b, rfl, ep, hp⟩ := DasAt.gets _ _ hA i x ex
        have pm := List.mem_of_getElem? ep
        have := wtLL_mem pm
        have := dpLL_mem pm
        walk_at "go"
        refine ⟨y, b, rfl, hp.mono s4, okLL_iff.mp okk.2.2.2 b pm, by omega, by omega, by omega, fun z J2 s2 _ hz => q4 _ _ s2 ⟨z, b, rfl, ep, hz⟩⟩
      obtain ⟨bs, rfl⟩ := refs_of ys fun i y e => by
        obtain ⟨x, p, h1, _⟩ := hG i y e
        exact ⟨x, h1⟩
      rw [List.length_map, List.length_map, la] at ly
      walk_at "go"
      refine ⟨true, D, o, os, bs, rfl, ok, SqL.of eD, pasAt_of os bs ly fun i p a ep ea => ?_, hw, hd, fun x H' s5 hx hP => qq x H' (s4.trans s5) (Same.back s4 hx) hP⟩
      obtain ⟨x, p2, h1, h2, h3⟩ := hG i (.ref a) (by rw [List.getElem?_map, ea]; rfl)
      cases h1
      rw [ep] at h2
      cases h2
      exact h3
    | .rd o b, hD, ok, hw, hd, hd2, qq =>
      rw [DtAt] at hD
      obtain ⟨L, as, hD, hL, hA⟩ := hD
      have hT : SqT K H a _ := SqT.of hD
      walk_at "go"
      rw [Ok] at ok
      rw [wt] at hw
      rw [dp] at hd hd2
      refine ⟨L, b, rfl, ⟨as, hL, hA⟩, ok.2, by omega, by omega, by omega, fun y H1 s1 ny hy => ?_⟩
      refine ⟨y, o, b, rfl, by rw [Ok]; exact ok, hy, by rw [wt]; exact hw, by rw [dp]; exact hd, fun x H2 s2 nx hx => qq x H2 (s1.trans s2) (Same.back s1 nx) hx⟩
    | .en b, hD, ok, hw, hd, hd2, qq =>
      rw [DtAt] at hD
      obtain ⟨L, as, hD, hL, hA⟩ := hD
      have hT : SqT K H a _ := SqT.of hD
      walk_at "go"
      rw [Ok] at ok
      rw [wt] at hw
      rw [dp] at hd hd2
      refine ⟨L, b, rfl, ⟨as, hL, hA⟩, ok, by omega, by omega, by omega, fun y H1 s1 ny hy => ?_⟩
      refine ⟨y, b, rfl, by rw [Ok]; exact ok, hy, by rw [wt]; exact hw, by rw [dp]; exact hd, fun x H2 s2 nx hx => qq x H2 (s1.trans s2) (Same.back s1 nx) hx⟩
    | .ti c b, hD, ok, hw, hd, hd2, qq =>
      rw [DtAt] at hD
      obtain ⟨L, as, hD, hL, hA⟩ := hD
      have hT : SqT K H a _ := SqT.of hD
      walk_at "go"
      rw [Ok] at ok
      rw [wt] at hw
      rw [dp] at hd hd2
      have h4 : wtL b ≤ wtL b * (if c < 1 then 1 else c) := Nat.le_mul_of_pos_right _ (by split <;> omega)
      refine ⟨L, b, rfl, ⟨as, hL, hA⟩, ok.2, by omega, by omega, by omega, fun y H1 s1 ny hy => ?_⟩
      refine ⟨y, c, b, rfl, by rw [Ok]; exact ok, hy, by rw [wt]; exact hw, by rw [dp]; exact hd, fun x H2 s2 nx hx => qq x H2 (s1.trans s2) (Same.back s1 nx) hx⟩
end
end Z
set_option pp.maxSteps 700
set_option Elab.async false
set_option linter.all false
set_option maxRecDepth 100000
set_option maxHeartbeats 4000000
open SX (S S_inj S_len S_cat)
namespace Z
open Pk NdefX
open PySem PySem.Spec PyProof.Rows L2
open C8 (pss_cut tCut)
local macro_rules | `(tactic| walk_at "num") => `(tactic| first | rfl | omega | decide | exact Nat.le_of_lt (small1000 (by simp)) | exact ⟨by omega, by omega⟩ | exact ⟨by omega, by omega, by omega⟩ | exact ⟨by decide, by decide, by decide⟩ | exact Or.inl ⟨by omega, by omega⟩ | exact Or.inr ⟨by omega, by omega⟩)
local macro_rules | `(tactic| walk_at "go") => `(tactic| repeat (first | refine ⟨_, rfl, ?_⟩ | refine ⟨_, _, rfl, rfl, ?_⟩ | refine ⟨_, _, rfl, ?_⟩ | (refine ⟨_, _, rfl, rfl, ?_, ?_⟩; focus walk_at "num") | refine Or.inl ⟨_, rfl, ?_⟩ | refine ⟨_, _, _, _, rfl, rfl, (by assumption), (by rfl), ?_⟩ | refine ⟨_, _, _, _, _, rfl, (by assumption), (by assumption), (by assumption), (by rfl), ?_⟩ | refine ⟨rfl, ?_⟩ | (refine And.intro ?_ ?_; focus walk_at "num")))
abbrev s_weight : Stmt := topS 54
abbrev N_weight : List Str := ["_law_pact_here", "_law_part_here"]
abbrev P_weight : List Str := ["_law_pact_here"]
theorem sc_weight : FnScope N_weight P_weight (defScope s_weight) := ⟨rfl, rfl, rfl, by decide +kernel, rfl, by decide +kernel, by decide +kernel⟩
abbrev s_part_weight : Stmt := topS 55
abbrev N_part_weight : List Str := ["_law_part_here", "_law_option"]
abbrev P_part_weight : List Str := ["_law_part_here"]
theorem sc_part_weight : FnScope N_part_weight P_part_weight (defScope s_part_weight) := ⟨rfl, rfl, rfl, by decide +kernel, rfl, by decide +kernel, by decide +kernel⟩
abbrev s_cut : Stmt := topS 56
abbrev N_cut : List Str := ["_law_pact_here", "_law_limit", "_law_kept", "_law_part_here"]
abbrev P_cut : List Str := ["_law_pact_here", "_law_limit"]
theorem sc_cut : FnScope N_cut P_cut (defScope s_cut) := ⟨rfl, rfl, rfl, by decide +kernel, rfl, by decide +kernel, by decide +kernel⟩
section
variable {P : Program} {w : World} {K : PySem.W.Frag} {mg : Str → Option Value} {base : Heap} {f : Addr} {k : Cs} {fd : FuncData}
def spWl (d : Nat) : Sp := fun vs H Q _ => ∃ (L : Addr) (l : List Pt), vs = [.ref L] ∧ DaAt H l L ∧ OkL l ∧ wtL l ≤ 1000000 ∧ dpL l + 1 ≤ d ∧ ∀ H', Same H H' → Q (.int (wtL l : Int)) H'
def spWp (d : Nat) : Sp := fun vs H Q _ => ∃ (a : Addr) (p : Pt), vs = [.ref a] ∧ DtAt H p a ∧ Ok p ∧ wt p ≤ 1000000 ∧ dp p ≤ d ∧ ∀ H', Same H H' → Q (.int (wt p : Int)) H'
theorem ok_weight {d : Nat} (F : FnP K "_law_weight" s_weight f fd) (m_sum : mg "sum" = none) (c_part_weight : Cal P w K mg base (2 * d + 7) "_law_part_weight" (spWp d)) : FnOk P w K mg base CX0 (2 * d + 8) f fd P_weight (spWl (d + 1)) := by
  refine F.ok sc_weight (fun vs H Q E h => ?_) (fun cdv A outer s H vs Q E hr h => ?_)
  · obtain ⟨L, l, rfl, _⟩ := h
    rfl
  · obtain ⟨L, l, rfl, ⟨bs, hL, hD⟩, ok, hw, hd, qq⟩ := h
    refine ⟨_, PSs.nox (pss_one (ps_ret (pe_callB (cr_sum rfl) (by rfl) m_sum (by decide +kernel) (pa_cons (pe_lc (own := [("_law_part_here", 1)]) (g := (gName 1)) (tt := tYes) (by rfl) sc_weight.nd (pi_list (pv 0)) (blkOk_by (own := [("_law_part_here", 1)]) (N := N_weight) (sc := defScope s_weight) (by decide +kernel)) (fun _ _ _ _ _ => (pg_name (i := 1) sc_weight.nd rfl (by first | exact .inl rfl | exact .inr rfl))) (fun _ _ _ _ _ => pts_nil) (fun _ _ _ _ _ => (pe_cl c_part_weight hr (by omega) (by rfl) (pa_cons (pv 1) pa_nil)))) pa_nil)))), ?_⟩
    have lw := len_wt l
    have lb := DtsAt.len _ _ hD
    walk_at "go"
    refine ⟨⟨_, SqL.of hL⟩, ?_⟩
    intro D nD
    refine lc_vsL (SqL.of hL) (l.map fun p => .int (wt p : Int)) (by rw [List.length_map, List.length_map, lb]) (by rw [List.length_map]; omega) nD (fun x => rfl) (fun i x y J Q4 ex ey s4 q4 => ?_) (fun J s4 eD => ?_)
    · obtain ⟨y2, p, rfl, ep, hp⟩ := DtsAt.gets _ _ hD i x ex
      rw [List.getElem?_map, ep] at ey
      cases ey
      have pm := List.mem_of_getElem? ep
      have := wtL_mem pm
      have := dpL_mem pm
      walk_at "go"
      exact ⟨y2, p, rfl, hp.mono s4, okL_iff.mp ok p pm, by omega, by omega, fun J2 s2 => q4 _ s2⟩
    walk_at "go"
    refine ⟨D, l.map fun p => (wt p : Int), rfl, SqL.of (by rw [List.map_map]; exact eD), ?_⟩
    rw [isum, ← wtL_sum]
    exact qq _ s4
theorem ok_part_weight {d : Nat} (F : FnP K "_law_part_weight" s_part_weight f fd) (m_sum : mg "sum" = none) (m_max : mg "max" = none) (c_weight : Cal P w K mg base (2 * d + 6) "_law_weight" (spWl d)) : FnOk P w K mg base CX0 (2 * d + 7) f fd P_part_weight (spWp d) := by
  refine F.ok sc_part_weight (fun vs H Q E h => ?_) (fun cdv A outer s H vs Q E hr h => ?_)
  · obtain ⟨a, p, rfl, _⟩ := h
    rfl
  · obtain ⟨a, p, rfl, hD, ok, hw, hd, qq⟩ := h
    refine ⟨_, PSs.nox (pss_cons (ps_if (PW.pt (pw_or (pt_cmpR op_eq (pe_ix ix_tup (pv 0) pe_int (fun _ _ => rfl)) pe_str (nomark _)) (pw_or1 (pt_cmpR op_eq (pe_ix ix_tup (pv 0) pe_int (fun _ _ => rfl)) pe_str (nomark _))))) (pss_one (ps_ret pe_int)) pss_nil)
      (pss_cons (ps_if (pt_cmpR op_eq (pe_ix ix_tup (pv 0) pe_int (fun _ _ => rfl)) pe_str (nomark _)) (pss_one (ps_ret (pe_op op_add pe_int (pe_callB (cr_sum rfl) (by rfl) m_sum (by decide +kernel) (pa_cons (pe_lc (own := [("_law_option", 1)]) (g := (gName 1)) (tt := tYes) (by rfl) sc_part_weight.nd (pi_list (pe_ix ix_tup (pv 0) pe_int (fun _ _ => rfl))) (blkOk_by (own := [("_law_option", 1)]) (N := N_part_weight) (sc := defScope s_part_weight) (by decide +kernel)) (fun _ _ _ _ _ => (pg_name (i := 1) sc_part_weight.nd rfl (by first | exact .inl rfl | exact .inr rfl))) (fun _ _ _ _ _ => pts_nil) (fun _ _ _ _ _ => (pe_cl c_weight hr (by omega) (by rfl) (pa_cons (pv 1) pa_nil)))) pa_nil))))) pss_nil)
      (pss_cons (ps_if (pt_cmpR op_eq (pe_ix ix_tup (pv 0) pe_int (fun _ _ => rfl)) pe_str (nomark _)) (pss_one (ps_ret (pe_op op_add pe_int (pe_op op_mul (pe_callB (call_max2 rfl) (by rfl) m_max (by decide +kernel) (pa_cons pe_int (pa_cons (pe_ix ix_tup (pv 0) pe_int (fun _ _ => rfl)) pa_nil))) (pe_cl c_weight hr (by omega) (by rfl) (pa_cons (pe_ix ix_tup (pv 0) pe_int (fun _ _ => rfl)) pa_nil)))))) pss_nil)
      (pss_cons (ps_if (pt_cmpR op_eq (pe_ix ix_tup (pv 0) pe_int (fun _ _ => rfl)) pe_str (nomark _)) (pss_one (ps_ret (pe_op op_add pe_int (pe_cl c_weight hr (by omega) (by rfl) (pa_cons (pe_ix ix_tup (pv 0) pe_int (fun _ _ => rfl)) pa_nil))))) pss_nil)
      (pss_one (ps_ret (pe_op op_add pe_int (pe_cl c_weight hr (by omega) (by rfl) (pa_cons (pe_ix ix_tup (pv 0) pe_int (fun _ _ => rfl)) pa_nil))))))))), ?_⟩
    match p, hD, ok, hw, hd, qq with
    | .tr p q m, hD, ok, hw, hd, qq =>
      rw [DtAt] at hD
      have hT : SqT K H a _ := SqT.of hD
      rw [wt] at qq
      walk_at "go"
      exact qq _ (Same.refl _)
    | .ev c, hD, ok, hw, hd, qq =>
      rw [DtAt] at hD
      have hT : SqT K H a _ := SqT.of hD
      rw [wt] at qq
      walk_at "go"
      exact qq _ (Same.refl _)
    | .ch o os, hD, ok, hw, hd, qq =>
      rw [DtAt] at hD
      obtain ⟨L, as, hD, hL, hA⟩ := hD
      have hT : SqT K H a _ := SqT.of hD
      rw [wt] at hw qq
      rw [dp] at hd
      have la := DasAt.len _ _ hA
      rw [Ok] at ok
      walk_at "go"
      refine ⟨⟨_, SqL.of hL⟩, ?_⟩
      intro D nD
      refine lc_vsL (SqL.of hL) (os.map fun p => .int (wtL p : Int)) (by rw [List.length_map, List.length_map, la]) (by rw [List.length_map]; omega) nD (fun x => rfl) (fun i x y J Q4 ex ey s4 q4 => ?_) (fun J s4 eD => ?_)
      · obtain ⟨y2, p, rfl, ep, hp⟩ := DasAt.gets _ _ hA i x ex
        rw [List.getElem?_map, ep] at ey
        cases ey
        have pm := List.mem_of_getElem? ep
        have := wtLL_mem pm
        have := dpLL_mem pm
        walk_at "go"
        exact ⟨y2, p, rfl, hp.mono s4, okLL_iff.mp ok.2.2.2 p pm, by omega, by omega, fun J2 s2 => q4 _ s2⟩
      walk_at "go"
      refine ⟨D, os.map fun p => (wtL p : Int), rfl, SqL.of (by rw [List.map_map]; exact eD), ?_⟩
      rw [isum, ← wtLL_sum]
      walk_at "go"
      show Q (V.int (1 + (wtLL os : Int))) J
      rw [show 1 + (wtLL os : Int) = ((1 + wtLL os : Nat) : Int) by omega]
      exact qq _ s4
    | .rd o b, hD, ok, hw, hd, qq =>
      rw [DtAt] at hD
      obtain ⟨L, as, hD, hL, hA⟩ := hD
      have hT : SqT K H a _ := SqT.of hD
      rw [wt] at hw qq
      rw [dp] at hd
      rw [Ok] at ok
      walk_at "go"
      refine ⟨L, b, rfl, ⟨as, hL, hA⟩, ok.2, by omega, by omega, fun H1 s1 => ?_⟩
      walk_at "go"
      show Q (V.int (1 + (wtL b : Int))) H1
      rw [show 1 + (wtL b : Int) = ((wtL b + 1 : Nat) : Int) by omega]
      exact qq _ s1
    | .en b, hD, ok, hw, hd, qq =>
      rw [DtAt] at hD
      obtain ⟨L, as, hD, hL, hA⟩ := hD
      have hT : SqT K H a _ := SqT.of hD
      rw [wt] at hw qq
      rw [dp] at hd
      rw [Ok] at ok
      walk_at "go"
      refine ⟨L, b, rfl, ⟨as, hL, hA⟩, ok, by omega, by omega, fun H1 s1 => ?_⟩
      walk_at "go"
      show Q (V.int (1 + (wtL b : Int))) H1
      rw [show 1 + (wtL b : Int) = ((wtL b + 1 : Nat) : Int) by omega]
      exact qq _ s1
    | .ti c b, hD, ok, hw, hd, qq =>
      rw [DtAt] at hD
      obtain ⟨L, as, hD, hL, hA⟩ := hD
      have hT : SqT K H a _ := SqT.of hD
      rw [wt] at hw qq
      rw [dp] at hd
      rw [Ok] at ok
      have h4 : wtL b ≤ wtL b * (if c < 1 then 1 else c) := Nat.le_mul_of_pos_right _ (by split <;> omega)
      walk_at "go"
      refine ⟨L, b, rfl, ⟨as, hL, hA⟩, ok.2, by omega, by omega, fun H1 s1 => ?_⟩
      obtain ⟨z, hz⟩ : ∃ z : Nat, z = if c < 1 then 1 else c := ⟨_, rfl⟩
      have hz2 : (if (c : Int) > 1 then (c : Int) else 1) = (z : Int) := by
        rw [hz]
        by_cases c1 : c < 1
        · rw [if_pos c1, if_neg (by omega)]
          rfl
        · rw [if_neg c1]
          by_cases c2 : (c : Int) > 1
          · rw [if_pos c2]
          · rw [if_neg c2]
            omega
      have zl : z ≤ 100 := by rw [hz]; split <;> omega
      rw [hz2]
      rw [← hz] at qq
      refine ⟨_, _, rfl, rfl, .inl ⟨by omega, by omega⟩, ?_⟩
      walk_at "go"
      show Q (V.int (1 + (z : Int) * (wtL b : Int))) H1
      rw [show 1 + (z : Int) * (wtL b : Int) = ((wtL b * z + 1 : Nat) : Int) by rw [Nat.mul_comm]; push_cast; omega]
      exact qq _ s1
def spCut (d : Nat) : Sp := fun vs H Q _ => ∃ (L : Addr) (l : List Pt) (n : Nat), vs = [.ref L, .int (n : Int)] ∧ DaAt H l L ∧ OkL l ∧ wtL l ≤ 1000000 ∧ dpL l + 1 ≤ d ∧ ∀ (D : Addr) (m : List Pt) (bs : List Addr) H', Same H H' → H D = none → H' D = some (.lst (bs.map V.ref)) → DtsAt H m bs → OkL m → wtL m ≤ n → dpL m ≤ dpL l → m.length ≤ l.length → (∀ p ∈ m, p ∈ l) → Q (.ref D) H'
theorem ok_cut {d : Nat} (F : FnP K "_law_cut" s_cut f fd) (c_weight : Cal P w K mg base (2 * d + 6) "_law_weight" (spWl d)) (c_part_weight : Cal P w K mg base (2 * d + 7) "_law_part_weight" (spWp d)) : FnOk P w K mg base CX0 (2 * d + 8) f fd P_cut (spCut d) := by
  refine F.ok sc_cut (fun vs H Q E h => ?_) (fun cdv A outer s H vs Q E hr h => ?_)
  · obtain ⟨L, l, n, rfl, _⟩ := h
    rfl
  · obtain ⟨L, l, n, rfl, ⟨as, hL, hD⟩, ok, hw, hd, qq⟩ := h
    refine ⟨_, PSs.nox (pss_cons (ps_set (i := 2) sc_cut.nd rfl (by first | exact .inl rfl | exact .inr rfl) (pe_lst pa_nil))
      (pss_cons (ps_for PassesOwn.never rfl (pi_list (pv 0)) (pg_name (i := 3) sc_cut.nd rfl (by first | exact .inl rfl | exact .inr rfl))
        (pss_one (ps_if (pt_cmpR op_le (pe_op op_add (pe_cl c_weight hr (by omega) (by rfl) (pa_cons (pv 2) pa_nil)) (pe_cl c_part_weight hr (by omega) (by rfl) (pa_cons (pv 3) pa_nil))) (pv 1) (nomark _)) (pss_one (ps_expr (pe_bm PySem.F.plainAttrs_list PySem.F.slot_list_append PySem.F.type_list_append mt_append (pv 2) (pa_cons (pv 3) pa_nil)))) pss_nil)))
      (pss_one (ps_ret (pv 2))))), ?_⟩
    have lw := len_wt l
    have lb := DtsAt.len _ _ hD
    walk_at "go"
    intro D nD
    walk_at "go"
    refine ⟨⟨_, SqL.of (same_new nD _ _ hL)⟩, ?_⟩
    refine for_vs (SqL.of hL) (fun i σ J => Same H J ∧ ∃ (m : List Pt) (bs : List Addr) (v : Option V), J D = some (.lst (bs.map V.ref)) ∧ DtsAt H m bs ∧ OkL m ∧ (0 < m.length → wtL m ≤ n) ∧ wtL m ≤ wtL (l.take i) ∧ dpL m ≤ dpL l ∧ m.length ≤ i ∧ (∀ p ∈ m, p ∈ l) ∧ σ = [some (.ref L), some (.int (n : Int)), some (.ref D), v]) ⟨same_new nD, [], [], none, upd_same, by rw [DtsAt], by rw [OkL]; trivial, fun h => absurd h (Nat.lt_irrefl _), Nat.zero_le _, Nat.zero_le _, Nat.le_refl _, (fun p hp => absurd hp List.not_mem_nil), rfl⟩ (fun i σ J h => h.1) (fun i x σ J ex h => ?_) (fun σ J h => ?_)
    · obtain ⟨s1, m, bs, v, eD, hm, okm, hwm, hwm2, hdm, lm, hml, rfl⟩ := h
      obtain ⟨y, p, rfl, ep, hp⟩ := DtsAt.gets _ _ hD i x ex
      have pm := List.mem_of_getElem? ep
      have wp := wtL_mem pm
      have dpp := dpL_mem pm
      have okp := okL_iff.mp ok p pm
      have li := (List.getElem?_eq_some_iff.mp ep).1
      have et : wtL (l.take (i + 1)) = wtL (l.take i) + wt p := by
        rw [List.take_add_one, ep, wtL_app]
        show _ + wtL [p] = _
        rw [wtL, wtL, Nat.add_zero]
      have tl : wtL (l.take i) + wt p ≤ wtL l := by
        have : wtL l = wtL (l.take (i + 1)) + wtL (l.drop (i + 1)) := by rw [← wtL_app, List.take_append_drop]
        omega
      walk_at "go"
      refine ⟨D, m, rfl, ⟨bs, eD, hm.mono s1⟩, okm, by omega, by omega, fun J2 s2 => ?_⟩
      walk_at "go"
      refine ⟨y, p, rfl, hp.mono (s1.trans s2), okp, by omega, by omega, fun J3 s3 => ?_⟩
      walk_at "go"
      have s123 := (s1.trans s2).trans s3
      have eD3 := s3 _ _ (s2 _ _ eD)
      refine ite2 (fun e => ?_) (fun e => ?_)
      · have e := of_decide_eq_true e
        walk_at "go"
        refine ⟨.inl ⟨rfl, _, SqL.of eD3⟩, ?_⟩
        walk_at "go"
        refine ⟨D, _, _, rfl, rfl, eD3, Nat.lt_of_le_of_lt (show (bs.map V.ref).length ≤ 1000000 by rw [List.length_map, DtsAt.len _ _ hm]; omega) (by decide), ?_⟩
        refine ⟨Z.Same.mut s123 nD, m ++ [p], bs ++ [y], _, by rw [upd_same, List.map_append]; rfl, dtsAt_app _ _ _ _ hm (dtsAt_one hp), okL_iff.mpr fun q hq => ?_, fun _ => ?_, ?_, ?_, ?_, ?_, rfl⟩
        · rcases List.mem_append.mp hq with hq | hq
          · exact okL_iff.mp okm q hq
          · rw [List.mem_singleton.mp hq]
            exact okp
        · rw [wtL_app, wtL, wtL]
          omega
        · rw [wtL_app, wtL, wtL]
          omega
        · rw [dpL_app, dpL, dpL]
          omega
        · rw [List.length_append, List.length_cons, List.length_nil]
          omega
        · intro q hq
          rcases List.mem_append.mp hq with hq | hq
          · exact hml q hq
          · rw [List.mem_singleton.mp hq]
            exact pm
      · exact ⟨s123, m, bs, _, eD3, hm, okm, hwm, by omega, hdm, by omega, hml, rfl⟩
    · obtain ⟨s1, m, bs, v, eD, hm, okm, hwm, hwm2, hdm, lm, hml, rfl⟩ := h
      walk_at "go"
      refine qq D m bs J s1 nD eD hm okm ?_ hdm (by rw [List.length_map, lb] at lm; exact lm) hml
      match m, hwm with
      | [], _ => exact Nat.zero_le _
      | p :: m, h => exact h (Nat.succ_pos _)
end
end Z
set_option linter.all false
set_option maxRecDepth 100000
namespace Pk
/-! ### plays as data -/
/-- a member of the row: a part and how many rounds are left at most -/
abbrev Mb := Pt × Option Nat
abbrev Pu := List (Nat × Nat)
def cn (pu : Pu) (c : Nat) : Option Nat := (pu.find? fun x => decide (x.1 = c)).map (·.2)
def sc (pu : Pu) (c n : Nat) : Pu := pu.map fun x => if x.1 = c then (x.1, n) else x
def mbs (l : List Pt) : List Mb := l.map fun p => (p, none)
inductive Ou where
  | go | done | cut
  | fail (c : Nat)
structure Pst where
  pu : Pu
  row : List Mb
  hap : List Pt
mutual
/-- how many steps a part may take -/
def ms : Pt → Nat
  | .tr _ _ _ => 1
  | .ev _ => 1
  | .ch _ _ => 1
  | .rd _ _ => 1
  | .en _ => 1
  | .ti c b => 1 + c * (1 + msL b)
def msL : List Pt → Nat
  | [] => 0
  | p :: l => ms p + msL l
end
def mu : List Mb → Nat
  | [] => 0
  | (p, _) :: r => ms p + mu r
theorem ms_pos (p : Pt) : 1 ≤ ms p := by cases p <;> rw [ms] <;> omega
theorem mu_app : ∀ r s : List Mb, mu (r ++ s) = mu r + mu s
  | [], s => by rw [List.nil_append, mu, Nat.zero_add]
  | (p, o) :: r, s => by rw [List.cons_append, mu, mu, mu_app r s, Nat.add_assoc]
theorem mu_mbs : ∀ l : List Pt, mu (mbs l) = msL l
  | [] => by rw [msL]; rfl
  | p :: l => by
    rw [msL, ← mu_mbs l]
    show mu ((p, none) :: mbs l) = _
    rw [mu]
theorem mu_len : ∀ r : List Mb, r.length ≤ mu r
  | [] => Nat.zero_le _
  | (p, o) :: r => by
    have := mu_len r
    have := ms_pos p
    rw [mu, List.length_cons]
    omega
mutual
theorem ms_wt : ∀ p : Pt, Ok p → ms p ≤ 102 * wt p
  | .tr _ _ _, _ => by rw [ms, wt]; omega
  | .ev _, _ => by rw [ms, wt]; omega
  | .ch _ _, _ => by rw [ms, wt]; omega
  | .rd _ _, _ => by rw [ms, wt]; omega
  | .en _, _ => by rw [ms, wt]; omega
  | .ti c b, h => by
    rw [Ok] at h
    have ih := msL_wt b h.2
    rw [ms, wt]
    by_cases z : c < 1
    · rw [if_pos z, show c = 0 by omega, Nat.zero_mul]
      omega
    · rw [if_neg z, Nat.mul_add, Nat.mul_one, Nat.mul_add]
      have h1 := Nat.mul_le_mul_left c ih
      have h2 : c * (102 * wtL b) = 102 * (wtL b * c) := by
        rw [Nat.mul_left_comm, Nat.mul_comm c]
      omega
theorem msL_wt : ∀ l : List Pt, OkL l → msL l ≤ 102 * wtL l
  | [], _ => by rw [msL]; exact Nat.zero_le _
  | p :: l, h => by
    rw [OkL] at h
    have h1 := ms_wt p h.1
    have h2 := msL_wt l h.2
    rw [msL, wtL]
    omega
end
/-- who makes a move at a part -/
def mover : Pt → Option (List Nat)
  | .ch o _ => some [o]
  | .rd o _ => some [o]
  | .en _ => some [119, 111, 114, 108, 100]
  | _ => none
/-- what replaces a part which needs no move -/
def opn : Pt → List Mb
  | .ti 0 _ => []
  | .ti 1 b => mbs b
  | .ti (c + 2) b => mbs b ++ [(.ti (c + 1) b, none)]
  | _ => []
def isEn : Pt → Bool
  | .en _ => true
  | _ => false
/-- members are carried out until a move is needed or the play is over -/
inductive Stl : Pst → Pst → Ou → Prop
  | done {pu h} : Stl ⟨pu, [], h⟩ ⟨pu, [], h⟩ .done
  | cut {pu b r h} : Stl ⟨pu, (.en b, some 0) :: r, h⟩ ⟨pu, (.en b, some 0) :: r, h⟩ .cut
  | last {pu p r h s o} : isEn p = false → Stl ⟨pu, r, h⟩ s o → Stl ⟨pu, (p, some 0) :: r, h⟩ s o
  | wait {pu p l r h} : (mover p).isSome = true → l ≠ some 0 → Stl ⟨pu, (p, l) :: r, h⟩ ⟨pu, (p, l) :: r, h⟩ .go
  | fail {pu p q m l r h n} : l ≠ some 0 → cn pu p = some n → n < m → Stl ⟨pu, (.tr p q m, l) :: r, h⟩ ⟨pu, (.tr p q m, l) :: r, h⟩ (.fail p)
  | tr {pu p q m l r h n n' s o} : l ≠ some 0 → cn pu p = some n → m ≤ n → cn (sc pu p (n - m)) q = some n' → Stl ⟨sc (sc pu p (n - m)) q (n' + m), r, h ++ [.tr p q m]⟩ s o → Stl ⟨pu, (.tr p q m, l) :: r, h⟩ s o
  | ev {pu c l r h s o} : l ≠ some 0 → Stl ⟨pu, r, h ++ [.ev c]⟩ s o → Stl ⟨pu, (.ev c, l) :: r, h⟩ s o
  | ti {pu c b l r h s o} : l ≠ some 0 → Stl ⟨pu, opn (.ti c b) ++ r, h⟩ s o → Stl ⟨pu, (.ti c b, l) :: r, h⟩ s o
theorem opn_mu (c : Nat) (b : List Pt) : mu (opn (.ti c b)) < ms (.ti c b) := by
  match c with
  | 0 => rw [opn, mu, ms]; omega
  | 1 => rw [opn, mu_mbs, ms]; omega
  | c + 2 =>
    rw [opn, mu_app, mu_mbs, mu, mu, ms, ms]
    have : (c + 2) * (1 + msL b) = (c + 1) * (1 + msL b) + (1 + msL b) := Nat.succ_mul _ _
    omega
/-- what stands in a row -/
def MOk (m : Mb) : Prop := Ok m.1 ∧ wt m.1 ≤ 400 ∧ dp m.1 ≤ 30 ∧ (∀ n, m.2 = some n → (mover m.1).isSome = true ∧ ∀ o os, m.1 ≠ .ch o os)
def ROk (r : List Mb) : Prop := ∀ m ∈ r, MOk m
theorem okL_mem {l : List Pt} (h : OkL l) {p : Pt} (hp : p ∈ l) : Ok p := okL_iff.mp h p hp
theorem rok_mbs {l : List Pt} (h : OkL l) (hw : wtL l ≤ 400) (hd : dpL l ≤ 30) : ROk (mbs l) := fun m hm => by
  obtain ⟨p, hp, rfl⟩ := List.mem_map.mp hm
  have := wtL_mem hp
  have := dpL_mem hp
  exact ⟨okL_mem h hp, by show wt p ≤ 400; omega, by show dp p ≤ 30; omega, fun n z => by cases z⟩
theorem rok_app {r s : List Mb} (h : ROk r) (g : ROk s) : ROk (r ++ s) := fun m hm => (List.mem_append.mp hm).elim (h m) (g m)
theorem rok_tl {m : Mb} {r : List Mb} (h : ROk (m :: r)) : ROk r := fun x hx => h x (List.mem_cons_of_mem _ hx)
theorem rok_hd {m : Mb} {r : List Mb} (h : ROk (m :: r)) : MOk m := h m List.mem_cons_self
theorem rok_one {m : Mb} (h : MOk m) : ROk [m] := fun x hx => by rw [List.mem_singleton.mp hx]; exact h
theorem ti_body {c : Nat} {b : List Pt} (h : Ok (.ti c b)) (hw : wt (.ti c b) ≤ 400) (hd : dp (.ti c b) ≤ 30) : OkL b ∧ wtL b ≤ 400 ∧ dpL b ≤ 30 := by
  rw [Ok] at h
  rw [wt] at hw
  rw [dp] at hd
  have h4 : wtL b ≤ wtL b * (if c < 1 then 1 else c) := Nat.le_mul_of_pos_right _ (by split <;> omega)
  exact ⟨h.2, by omega, by omega⟩
theorem ti_less {c d : Nat} {b : List Pt} (h : Ok (.ti c b)) (hw : wt (.ti c b) ≤ 400) (hd : dp (.ti c b) ≤ 30) (hdc : d ≤ c) : Ok (.ti d b) ∧ wt (.ti d b) ≤ 400 ∧ dp (.ti d b) ≤ 30 := by
  rw [Ok] at h ⊢
  rw [wt] at hw ⊢
  rw [dp] at hd ⊢
  refine ⟨⟨by omega, h.2⟩, ?_, hd⟩
  have h4 : wtL b * (if d < 1 then 1 else d) ≤ wtL b * (if c < 1 then 1 else c) := Nat.mul_le_mul_left _ (by split <;> split <;> omega)
  omega
theorem rok_opn {c : Nat} {b : List Pt} (h : Ok (.ti c b)) (hw : wt (.ti c b) ≤ 400) (hd : dp (.ti c b) ≤ 30) : ROk (opn (.ti c b)) := by
  obtain ⟨h1, h2, h3⟩ := ti_body h hw hd
  match c, h, hw, hd with
  | 0, _, _, _ => rw [opn]; exact fun m hm => absurd hm List.not_mem_nil
  | 1, _, _, _ => rw [opn]; exact rok_mbs h1 h2 h3
  | c + 2, h, hw, hd =>
    rw [opn]
    obtain ⟨g1, g2, g3⟩ := ti_less (d := c + 1) h hw hd (by omega)
    exact rok_app (rok_mbs h1 h2 h3) (rok_one ⟨g1, g2, g3, fun n z => by cases z⟩)
/-- what replaces a part after a move with a number -/
def chs : Pt → Nat → List Mb
  | .ch _ os, n => mbs (os.getD n [])
  | .rd o b, n + 1 => mbs b ++ [(.rd o b, some n)]
  | .en b, n + 1 => mbs b ++ [(.en b, some n)]
  | _, _ => []
end Pk
set_option linter.all false
set_option maxRecDepth 100000
namespace Pk
/-! ### what a part names; good states -/
mutual
def NmP (ks : List Nat) : Pt → Prop
  | .tr p q _ => p ∈ ks ∧ q ∈ ks
  | .ev _ => True
  | .ch _ os => NmLL ks os
  | .rd _ b => NmL ks b
  | .en b => NmL ks b
  | .ti _ b => NmL ks b
def NmL (ks : List Nat) : List Pt → Prop
  | [] => True
  | p :: l => NmP ks p ∧ NmL ks l
def NmLL (ks : List Nat) : List (List Pt) → Prop
  | [] => True
  | b :: l => NmL ks b ∧ NmLL ks l
end
theorem nmL_iff {ks : List Nat} : ∀ {l : List Pt}, NmL ks l ↔ ∀ p ∈ l, NmP ks p
  | [] => ⟨fun _ p h => absurd h List.not_mem_nil, fun _ => by rw [NmL]; trivial⟩
  | q :: l => by
    rw [NmL, nmL_iff (l := l)]
    exact ⟨fun ⟨a, b⟩ p h => by
      rcases List.mem_cons.mp h with h | h
      · rw [h]; exact a
      · exact b p h, fun h => ⟨h q List.mem_cons_self, fun p hp => h p (List.mem_cons_of_mem _ hp)⟩⟩
theorem nmLL_iff {ks : List Nat} : ∀ {l : List (List Pt)}, NmLL ks l ↔ ∀ p ∈ l, NmL ks p
  | [] => ⟨fun _ p h => absurd h List.not_mem_nil, fun _ => by rw [NmLL]; trivial⟩
  | q :: l => by
    rw [NmLL, nmLL_iff (l := l)]
    exact ⟨fun ⟨a, b⟩ p h => by
      rcases List.mem_cons.mp h with h | h
      · rw [h]; exact a
      · exact b p h, fun h => ⟨h q List.mem_cons_self, fun p hp => h p (List.mem_cons_of_mem _ hp)⟩⟩
def NmR (ks : List Nat) (r : List Mb) : Prop := ∀ m ∈ r, NmP ks m.1
theorem nmR_mbs {ks : List Nat} {l : List Pt} (h : NmL ks l) : NmR ks (mbs l) := fun m hm => by
  obtain ⟨p, hp, rfl⟩ := List.mem_map.mp hm
  exact nmL_iff.mp h p hp
theorem nmR_app {ks : List Nat} {r s : List Mb} (h : NmR ks r) (g : NmR ks s) : NmR ks (r ++ s) := fun m hm => (List.mem_append.mp hm).elim (h m) (g m)
theorem nmR_one {ks : List Nat} {m : Mb} (h : NmP ks m.1) : NmR ks [m] := fun x hx => by rw [List.mem_singleton.mp hx]; exact h
theorem nmR_opn {ks : List Nat} {c : Nat} {b : List Pt} (h : NmP ks (.ti c b)) : NmR ks (opn (.ti c b)) := by
  have h0 := h
  rw [NmP] at h
  match c with
  | 0 => rw [opn]; exact fun m hm => absurd hm List.not_mem_nil
  | 1 => rw [opn]; exact nmR_mbs h
  | c + 2 =>
    rw [opn]
    exact nmR_app (nmR_mbs h) (nmR_one (show NmP ks (.ti (c + 1) b) by rw [NmP]; exact h))
structure GSt (ks : List Nat) (N : Nat) (st : Pst) : Prop where
  rok : ROk st.row
  nm : NmR ks st.row
  sz : mu st.row + st.hap.length ≤ N
  ky : st.pu.map (·.1) = ks
theorem sc_ky (pu : Pu) (c n : Nat) : (sc pu c n).map (·.1) = pu.map (·.1) := by
  unfold sc
  rw [List.map_map]
  refine List.map_congr_left fun x _ => ?_
  simp only [Function.comp_apply]
  split <;> rfl
theorem cn_ky {pu : Pu} {c : Nat} (h : c ∈ pu.map (·.1)) : (cn pu c).isSome = true := by
  unfold cn
  rw [Option.isSome_map, List.find?_isSome]
  obtain ⟨x, hx, e⟩ := List.mem_map.mp h
  exact ⟨x, hx, decide_eq_true e⟩
theorem cn_ky2 {pu : Pu} {c n : Nat} (h : cn pu c = some n) : c ∈ pu.map (·.1) := by
  unfold cn at h
  cases e : pu.find? fun x => decide (x.1 = c) with
  | none => rw [e] at h; cases h
  | some x =>
    have h1 := List.find?_some e
    exact List.mem_map.mpr ⟨x, List.mem_of_find?_eq_some e, of_decide_eq_true h1⟩
/-- what carrying out a part at the front does -/
def car (pu : Pu) (h : List Pt) (p : Pt) (l : Option Nat) (r : List Mb) : Pst × Ou := match p with
  | .tr a b m => match cn pu a with
    | none => (⟨pu, (p, l) :: r, h⟩, .fail a)
    | some n => if n < m then (⟨pu, (p, l) :: r, h⟩, .fail a) else match cn (sc pu a (n - m)) b with
      | none => (⟨pu, (p, l) :: r, h⟩, .fail a)
      | some n' => (⟨sc (sc pu a (n - m)) b (n' + m), r, h ++ [p]⟩, .go)
  | .ev _ => (⟨pu, r, h ++ [p]⟩, .go)
  | p => (⟨pu, opn p ++ r, h⟩, .go)
/-- one more part is carried out, or the play is over -/
theorem car_stl {ks : List Nat} {N : Nat} {pu : Pu} {h : List Pt} {p : Pt} {l : Option Nat} {r : List Mb} (g : GSt ks N ⟨pu, (p, l) :: r, h⟩) (hm : mover p = none) (hl : l ≠ some 0) :
    ((car pu h p l r).2 = .go ∧ GSt ks N (car pu h p l r).1 ∧ mu (car pu h p l r).1.row < mu ((p, l) :: r) ∧ ∀ s o, Stl (car pu h p l r).1 s o → Stl ⟨pu, (p, l) :: r, h⟩ s o) ∨
    ((car pu h p l r).2 ≠ .go ∧ GSt ks N (car pu h p l r).1 ∧ Stl ⟨pu, (p, l) :: r, h⟩ (car pu h p l r).1 (car pu h p l r).2) := by
  obtain ⟨g1, g2, g3, g4⟩ := g
  have g1t := rok_tl g1
  have g2t : NmR ks r := fun m hm => g2 m (List.mem_cons_of_mem _ hm)
  have g1h := rok_hd g1
  have g2h := g2 _ List.mem_cons_self
  dsimp only at g1 g2 g3 g4 g2h
  have hpos := ms_pos p
  have emu : mu ((p, l) :: r) = ms p + mu r := by rw [mu]
  cases p with
  | ch o os => cases hm
  | rd o b => cases hm
  | en b => cases hm
  | ev c =>
    left
    refine ⟨rfl, ⟨g1t, g2t, ?_, g4⟩, by show mu r < _; omega, fun s o z => .ev hl z⟩
    show mu r + (h ++ [_]).length ≤ N
    rw [List.length_append]
    show mu r + (h.length + 1) ≤ N
    omega
  | ti c b =>
    left
    have hmu := opn_mu c b
    obtain ⟨k1, k2, k3, _⟩ := g1h
    refine ⟨rfl, ⟨rok_app (rok_opn k1 k2 k3) g1t, nmR_app (nmR_opn g2h) g2t, ?_, g4⟩, ?_, fun s o z => .ti hl z⟩
    · show mu (opn _ ++ r) + h.length ≤ N
      rw [mu_app]
      omega
    · show mu (opn _ ++ r) < _
      rw [mu_app]
      omega
  | tr a b m =>
    rw [NmP] at g2h
    obtain ⟨n, e1⟩ := Option.isSome_iff_exists.mp (cn_ky (pu := pu) (by rw [g4]; exact g2h.1))
    obtain ⟨n', e2⟩ := Option.isSome_iff_exists.mp (cn_ky (pu := sc pu a (n - m)) (c := b) (by rw [sc_ky, g4]; exact g2h.2))
    by_cases lt : n < m
    · right
      have e : car pu h (.tr a b m) l r = (⟨pu, (.tr a b m, l) :: r, h⟩, .fail a) := by
        unfold car
        dsimp only
        rw [e1]
        dsimp only
        rw [if_pos lt]
      rw [e]
      exact ⟨nofun, ⟨g1, g2, g3, g4⟩, .fail hl e1 lt⟩
    · left
      have e : car pu h (.tr a b m) l r = (⟨sc (sc pu a (n - m)) b (n' + m), r, h ++ [.tr a b m]⟩, .go) := by
        unfold car
        dsimp only
        rw [e1]
        dsimp only
        rw [if_neg lt, e2]
      rw [e]
      refine ⟨rfl, ⟨g1t, g2t, ?_, ?_⟩, by show mu r < _; omega, fun s o z => .tr hl e1 (by omega) e2 z⟩
      · show mu r + (h ++ [_]).length ≤ N
        rw [List.length_append]
        show mu r + (h.length + 1) ≤ N
        omega
      · show (sc (sc pu a (n - m)) b (n' + m)).map (·.1) = ks
        rw [sc_ky, sc_ky, g4]
def erO (st : Pst) (p : Pt) (l : Option Nat) (r : List Mb) : Pst × Ou := if isEn p = true then (⟨st.pu, (p, l) :: r, st.hap⟩, .cut) else (⟨st.pu, r, st.hap⟩, .go)
def isCh : Pt → Bool
  | .ch _ _ => true
  | _ => false
/-- what a move does before all settles -/
def mvd (pu : Pu) (h : List Pt) (p : Pt) (l : Option Nat) (r : List Mb) (n : Nat) : Pst × Ou := if isCh p = false ∧ n = 0 then erO ⟨pu, [], h⟩ p l r else (⟨pu, chs p n ++ r, h⟩, .go)
def NOk (p : Pt) (l : Option Nat) (n : Nat) : Prop := (∀ o os, p = .ch o os → n < os.length) ∧ ((∀ o os, p ≠ .ch o os) → ∀ L, l = some L → n ≤ L)
theorem mvd_ok {ks : List Nat} {N : Nat} {pu : Pu} {h : List Pt} {p : Pt} {l : Option Nat} {r : List Mb} {n : Nat} (g : GSt ks N ⟨pu, (p, l) :: r, h⟩) (hm : (mover p).isSome = true) (hn : NOk p l n) : GSt ks (N + 41000) (mvd pu h p l r n).1 := by
  obtain ⟨g1, g2, g3, g4⟩ := g
  have g1t := rok_tl g1
  have g2t : NmR ks r := fun m hm => g2 m (List.mem_cons_of_mem _ hm)
  obtain ⟨k1, k2, k3, _⟩ := rok_hd g1
  have g2h := g2 _ List.mem_cons_self
  dsimp only at g1 g2 g3 g4 g2h k1 k2 k3
  have hpos := ms_pos p
  have emu : mu ((p, l) :: r) = ms p + mu r := by rw [mu]
  unfold mvd
  split
  · unfold erO
    split
    · exact ⟨g1, g2, by show mu ((p, l) :: r) + h.length ≤ _; omega, g4⟩
    · exact ⟨g1t, g2t, by show mu r + h.length ≤ _; omega, g4⟩
  · rename_i c
    cases p with
    | tr a b m => cases hm
    | ev c => cases hm
    | ti c b => cases hm
    | ch o os =>
      have hl := hn.1 o os rfl
      have hp := List.getElem_mem hl
      rw [Ok] at k1
      rw [wt] at k2
      rw [dp] at k3
      rw [NmP] at g2h
      have o1 := okLL_iff.mp k1.2.2.2 _ hp
      have o2 := wtLL_mem hp
      have o3 := dpLL_mem hp
      have o4 := nmLL_iff.mp g2h _ hp
      have o5 := msL_wt _ o1
      have e : chs (.ch o os) n = mbs os[n] := by rw [chs, List.getD_eq_getElem?_getD, List.getElem?_eq_getElem hl]; rfl
      rw [e]
      refine ⟨rok_app (rok_mbs o1 (by omega) (by omega)) g1t, nmR_app (nmR_mbs o4) g2t, ?_, g4⟩
      show mu (mbs os[n] ++ r) + h.length ≤ _
      rw [mu_app, mu_mbs]
      omega
    | rd o b =>
      match n, c with
      | 0, c => exact absurd ⟨rfl, rfl⟩ c
      | n + 1, c =>
        have m1 : MOk (.rd o b, some n) := ⟨k1, k2, k3, fun _ _ => ⟨rfl, nofun⟩⟩
        rw [Ok] at k1
        rw [wt] at k2
        rw [dp] at k3
        have n1 : NmP ks (.rd o b) := g2h
        rw [NmP] at g2h
        have o5 := msL_wt _ k1.2
        refine ⟨rok_app (rok_app (rok_mbs k1.2 (by omega) (by omega)) (rok_one m1)) g1t, nmR_app (nmR_app (nmR_mbs g2h) (nmR_one n1)) g2t, ?_, g4⟩
        show mu ((mbs b ++ [(.rd o b, some n)]) ++ r) + h.length ≤ _
        rw [mu_app, mu_app, mu_mbs, mu, mu]
        omega
    | en b =>
      match n, c with
      | 0, c => exact absurd ⟨rfl, rfl⟩ c
      | n + 1, c =>
        have m1 : MOk (.en b, some n) := ⟨k1, k2, k3, fun _ _ => ⟨rfl, nofun⟩⟩
        rw [Ok] at k1
        rw [wt] at k2
        rw [dp] at k3
        have n1 : NmP ks (.en b) := g2h
        rw [NmP] at g2h
        have o5 := msL_wt _ k1
        refine ⟨rok_app (rok_app (rok_mbs k1 (by omega) (by omega)) (rok_one m1)) g1t, nmR_app (nmR_app (nmR_mbs g2h) (nmR_one n1)) g2t, ?_, g4⟩
        show mu ((mbs b ++ [(.en b, some n)]) ++ r) + h.length ≤ _
        rw [mu_app, mu_app, mu_mbs, mu, mu]
        omega
end Pk
set_option linter.all false
set_option maxRecDepth 100000
namespace Pk
/-! ### the parties that a pact uses -/
mutual
def Us (ps : List Nat) : Pt → Prop
  | .tr p q _ => p ∈ ps ∧ q ∈ ps
  | .ev _ => True
  | .ch o os => o ∈ ps ∧ UsLL ps os
  | .rd o b => o ∈ ps ∧ UsL ps b
  | .en b => UsL ps b
  | .ti _ b => UsL ps b
def UsL (ps : List Nat) : List Pt → Prop
  | [] => True
  | p :: l => Us ps p ∧ UsL ps l
def UsLL (ps : List Nat) : List (List Pt) → Prop
  | [] => True
  | b :: l => UsL ps b ∧ UsLL ps l
end
theorem usL_iff {ps : List Nat} : ∀ {l : List Pt}, UsL ps l ↔ ∀ p ∈ l, Us ps p
  | [] => ⟨fun _ p h => absurd h List.not_mem_nil, fun _ => by rw [UsL]; trivial⟩
  | q :: l => by
    rw [UsL, usL_iff (l := l)]
    exact ⟨fun ⟨a, b⟩ p h => by
      rcases List.mem_cons.mp h with h | h
      · rw [h]; exact a
      · exact b p h, fun h => ⟨h q List.mem_cons_self, fun p hp => h p (List.mem_cons_of_mem _ hp)⟩⟩
mutual
theorem us_nm {ps ks : List Nat} (s : ∀ c ∈ ps, c ∈ ks) : ∀ p, Us ps p → NmP ks p
  | .tr p q _, h => by rw [Us] at h; rw [NmP]; exact ⟨s _ h.1, s _ h.2⟩
  | .ev _, h => by rw [NmP]; trivial
  | .ch o os, h => by rw [Us] at h; rw [NmP]; exact usLL_nm s os h.2
  | .rd o b, h => by rw [Us] at h; rw [NmP]; exact usL_nm s b h.2
  | .en b, h => by rw [Us] at h; rw [NmP]; exact usL_nm s b h
  | .ti _ b, h => by rw [Us] at h; rw [NmP]; exact usL_nm s b h
theorem usL_nm {ps ks : List Nat} (s : ∀ c ∈ ps, c ∈ ks) : ∀ l, UsL ps l → NmL ks l
  | [], h => by rw [NmL]; trivial
  | p :: l, h => by rw [UsL] at h; rw [NmL]; exact ⟨us_nm s p h.1, usL_nm s l h.2⟩
theorem usLL_nm {ps ks : List Nat} (s : ∀ c ∈ ps, c ∈ ks) : ∀ l, UsLL ps l → NmLL ks l
  | [], h => by rw [NmLL]; trivial
  | b :: l, h => by rw [UsLL] at h; rw [NmLL]; exact ⟨usL_nm s b h.1, usLL_nm s l h.2⟩
end
/-- a sign of a pact's text: a used party, or no party -/
def SgC (ps : List Nat) (c : Nat) : Prop := c ∈ PAR → c ∈ ps
theorem k_sg {ps : List Nat} {c : Nat} (h : c ∉ PAR) : SgC ps c := fun z => absurd z h
theorem dig_sg (ps : List Nat) (n : Nat) : ∀ c ∈ dig n, SgC ps c := fun c hc => by
  unfold dig at hc
  obtain ⟨d, hd, rfl⟩ := List.mem_map.mp hc
  have h := Nat.isDigit_of_mem_toDigits (by decide) (by decide) hd
  unfold Char.isDigit at h
  simp only [Bool.and_eq_true, decide_eq_true_eq] at h
  have h1 := UInt32.le_iff_toNat_le.mp h.1
  have h2 := UInt32.le_iff_toNat_le.mp h.2
  have h2 : d.toNat ≤ 57 := h2
  intro z
  simp only [PAR, List.mem_cons, List.not_mem_nil, or_false] at z
  omega
theorem jn_sg {ps : List Nat} (s : List Nat) (hs : ∀ c ∈ s, SgC ps c) : ∀ ts : List (List Nat), (∀ t ∈ ts, ∀ c ∈ t, SgC ps c) → ∀ c ∈ jn s ts, SgC ps c
  | [], _, c, hc => by cases hc
  | [a], h, c, hc => h a List.mem_cons_self c hc
  | a :: b :: r, h, c, hc => by
    have hc : c ∈ a ++ s ++ jn s (b :: r) := hc
    rcases List.mem_append.mp hc with hc | hc
    · rcases List.mem_append.mp hc with hc | hc
      · exact h a List.mem_cons_self c hc
      · exact hs c hc
    · exact jn_sg s hs (b :: r) (fun t ht => h t (List.mem_cons_of_mem _ ht)) c hc
mutual
theorem tx_sg {ps : List Nat} : ∀ p : Pt, Us ps p → Ok p → ∀ c ∈ tx p, SgC ps c
  | .tr p q m, h, ok, c, hc => by
    rw [Us] at h
    rw [tx] at hc
    simp only [List.mem_append, List.mem_singleton] at hc
    rcases hc with (rfl | rfl) | hc
    · exact fun _ => h.1
    · exact fun _ => h.2
    · exact dig_sg ps m c hc
  | .ev k, h, ok, c, hc => by
    rw [tx] at hc
    rw [Ok] at ok
    rw [List.mem_singleton.mp hc]
    refine k_sg fun z => ?_
    unfold MRK at ok
    obtain ⟨i, hi, rfl⟩ := List.mem_map.mp ok
    have := List.mem_range.mp hi
    simp only [PAR, List.mem_cons, List.not_mem_nil, or_false] at z
    omega
  | .ch o os, h, ok, c, hc => by
    rw [Us] at h
    rw [Ok] at ok
    rw [tx] at hc
    simp only [List.mem_append, List.mem_singleton] at hc
    rcases hc with ((rfl | rfl) | hc) | rfl
    · exact fun _ => h.1
    · exact k_sg (by decide)
    · refine jn_sg _ (fun c hc => ?_) _ (txLL_sg os h.2 ok.2.2.2) c hc
      simp only [List.mem_cons, List.not_mem_nil, or_false] at hc
      rcases hc with rfl | rfl | rfl <;> exact k_sg (by decide)
    · exact k_sg (by decide)
  | .rd o b, h, ok, c, hc => by
    rw [Us] at h
    rw [Ok] at ok
    rw [tx] at hc
    simp only [List.mem_append, List.mem_singleton] at hc
    rcases hc with ((rfl | rfl) | hc) | rfl
    · exact fun _ => h.1
    · exact k_sg (by decide)
    · exact txB_sg b h.2 ok.2 c hc
    · exact k_sg (by decide)
  | .en b, h, ok, c, hc => by
    rw [Us] at h
    rw [Ok] at ok
    rw [tx] at hc
    simp only [List.mem_append, List.mem_singleton] at hc
    rcases hc with (rfl | hc) | rfl
    · exact k_sg (by decide)
    · exact txB_sg b h ok c hc
    · exact k_sg (by decide)
  | .ti n b, h, ok, c, hc => by
    rw [Us] at h
    rw [Ok] at ok
    rw [tx] at hc
    simp only [List.mem_append, List.mem_singleton] at hc
    rcases hc with ((hc | rfl) | hc) | rfl
    · exact dig_sg ps n c hc
    · exact k_sg (by decide)
    · exact txB_sg b h ok.2 c hc
    · exact k_sg (by decide)
theorem txs_sg {ps : List Nat} : ∀ l : List Pt, UsL ps l → OkL l → ∀ t ∈ txs l, ∀ c ∈ t, SgC ps c
  | [], h, ok, t, ht, c, hc => by rw [txs] at ht; cases ht
  | p :: l, h, ok, t, ht, c, hc => by
    rw [UsL] at h
    rw [OkL] at ok
    rw [txs] at ht
    rcases List.mem_cons.mp ht with rfl | ht
    · exact tx_sg p h.1 ok.1 c hc
    · exact txs_sg l h.2 ok.2 t ht c hc
theorem txB_sg {ps : List Nat} : ∀ l : List Pt, UsL ps l → OkL l → ∀ c ∈ txB l, SgC ps c
  | [], h, ok, c, hc => by
    rw [txB] at hc
    rw [List.mem_singleton.mp hc]
    exact k_sg (by decide)
  | p :: l, h, ok, c, hc => by
    rw [UsL] at h
    rw [OkL] at ok
    rw [txB] at hc
    refine jn_sg _ (fun c hc => ?_) _ (fun t ht => ?_) c hc
    · simp only [List.mem_cons, List.not_mem_nil, or_false] at hc
      rcases hc with rfl | rfl <;> exact k_sg (by decide)
    · rcases List.mem_cons.mp ht with rfl | ht
      · exact tx_sg p h.1 ok.1
      · exact txs_sg l h.2 ok.2 t ht
theorem txLL_sg {ps : List Nat} : ∀ l : List (List Pt), UsLL ps l → OkLL l → ∀ t ∈ txLL l, ∀ c ∈ t, SgC ps c
  | [], h, ok, t, ht, c, hc => by rw [txLL] at ht; cases ht
  | b :: l, h, ok, t, ht, c, hc => by
    rw [UsLL] at h
    rw [OkLL] at ok
    rw [txLL] at ht
    rcases List.mem_cons.mp ht with rfl | ht
    · exact txB_sg b h.1 ok.1 c hc
    · exact txLL_sg l h.2 ok.2 t ht c hc
end
end Pk
set_option linter.all false
set_option maxRecDepth 100000
namespace Pk
/-! ### what may stand in a row of a play of a pact; how many parts one settling can meet -/
mutual
def fp : Pt → Nat
  | .tr _ _ _ => 1
  | .ev _ => 1
  | .ch _ os => 1 + fpLL os
  | .rd _ b => 1 + fpL b
  | .en b => 1 + fpL b
  | .ti c b => 1 + c * (1 + fpL b)
def fpL : List Pt → Nat
  | [] => 0
  | p :: l => fp p + fpL l
def fpLL : List (List Pt) → Nat
  | [] => 0
  | b :: l => fpL b + fpLL l
end
theorem fpL_app : ∀ l m : List Pt, fpL (l ++ m) = fpL l + fpL m
  | [], m => by rw [List.nil_append, fpL, Nat.zero_add]
  | p :: l, m => by rw [List.cons_append, fpL, fpL, fpL_app l m, Nat.add_assoc]
theorem fpLL_mem {b : List Pt} : ∀ {l : List (List Pt)}, b ∈ l → fpL b ≤ fpLL l
  | q :: l, h => by
    rw [fpLL]
    rcases List.mem_cons.mp h with h | h
    · rw [h]; omega
    · have := fpLL_mem h
      omega
mutual
theorem ms_fp : ∀ p : Pt, ms p ≤ fp p
  | .tr _ _ _ => by rw [ms, fp]; omega
  | .ev _ => by rw [ms, fp]; omega
  | .ch _ _ => by rw [ms, fp]; omega
  | .rd _ _ => by rw [ms, fp]; omega
  | .en _ => by rw [ms, fp]; omega
  | .ti c b => by
    rw [ms, fp]
    have := Nat.mul_le_mul_left c (Nat.add_le_add_left (msL_fp b) 1)
    omega
theorem msL_fp : ∀ l : List Pt, msL l ≤ fpL l
  | [] => by rw [msL]; exact Nat.zero_le _
  | p :: l => by
    rw [msL, fpL]
    exact Nat.add_le_add (ms_fp p) (msL_fp l)
end
mutual
inductive RsP : Pt → List Mb → Prop
  | start (p : Pt) (lim : Option Nat) : RsP p [(p, lim)]
  | nil (p : Pt) : RsP p []
  | ch {o : Nat} {os : List (List Pt)} {b : List Pt} {r : List Mb} : b ∈ os → RsL b r → RsP (.ch o os) r
  | rd {o : Nat} {b : List Pt} {r : List Mb} (lim : Option Nat) : RsL b r → RsP (.rd o b) (r ++ [(.rd o b, lim)])
  | en {b : List Pt} {r : List Mb} (lim : Option Nat) : RsL b r → RsP (.en b) (r ++ [(.en b, lim)])
  | ti0 {c : Nat} {b : List Pt} {r : List Mb} : 0 < c → RsL b r → RsP (.ti c b) r
  | ti {c k : Nat} {b : List Pt} {r : List Mb} (lim : Option Nat) : k < c → RsL b r → RsP (.ti c b) (r ++ [(.ti k b, lim)])
inductive RsL : List Pt → List Mb → Prop
  | nil (l : List Pt) : RsL l []
  | here {p : Pt} {r : List Mb} (l1 l2 : List Pt) : RsP p r → RsL (l1 ++ p :: l2) (r ++ mbs l2)
end
theorem rsL_mbs : ∀ l : List Pt, RsL l (mbs l)
  | [] => .nil []
  | p :: l => by
    have z := RsL.here [] l (RsP.start p none)
    exact z
mutual
theorem RsP.mu {p : Pt} {r : List Mb} : RsP p r → mu r ≤ fp p
  | .start p lim => by
    have := ms_fp p
    rw [Pk.mu, Pk.mu]
    omega
  | .nil p => by rw [Pk.mu]; exact Nat.zero_le _
  | .ch hb h => by
    have := RsL.mu h
    have := fpLL_mem hb
    rw [fp]
    omega
  | .rd lim h => by
    have := RsL.mu h
    rw [mu_app, Pk.mu, Pk.mu, ms, fp]
    omega
  | .en lim h => by
    have := RsL.mu h
    rw [mu_app, Pk.mu, Pk.mu, ms, fp]
    omega
  | .ti0 (c := c) (b := b) hc h => by
    have := RsL.mu h
    rw [fp]
    have : 1 * (1 + fpL b) ≤ c * (1 + fpL b) := Nat.mul_le_mul_right _ hc
    omega
  | .ti (c := c) (k := k) (b := b) lim hk h => by
    have h1 := RsL.mu h
    rw [mu_app, Pk.mu, Pk.mu, ms, fp]
    have h2 : (k + 1) * (1 + fpL b) ≤ c * (1 + fpL b) := Nat.mul_le_mul_right _ hk
    have h3 := Nat.mul_le_mul_left k (Nat.add_le_add_left (msL_fp b) 1)
    rw [Nat.add_mul] at h2
    omega
theorem RsL.mu {l : List Pt} {r : List Mb} : RsL l r → mu r ≤ fpL l
  | .nil l => by rw [Pk.mu]; exact Nat.zero_le _
  | .here l1 l2 h => by
    have := RsP.mu h
    have := msL_fp l2
    rw [mu_app, mu_mbs, fpL_app, fpL]
    omega
end
/-- fewer times -/
theorem RsP.less {k c : Nat} {b : List Pt} {s : List Mb} (h : RsP (.ti k b) s) (hk : k < c) : RsP (.ti c b) s := by
  cases h with
  | start _ lim => exact RsP.ti (r := []) lim hk (.nil b)
  | nil => exact .nil _
  | ti0 h0 h => exact .ti0 (by omega) h
  | ti lim h0 h => exact .ti lim (by omega) h
theorem app_front {r0 t r : List Mb} {m : Mb} (e : r0 ++ t = m :: r) : (r0 = [] ∧ t = m :: r) ∨ ∃ r1, r0 = m :: r1 ∧ r = r1 ++ t := by
  cases r0 with
  | nil => exact .inl ⟨rfl, e⟩
  | cons x r0 =>
    injection e with e1 e2
    exact .inr ⟨r0, by rw [e1], e2.symm⟩
theorem one_front {p q : Pt} {l lim : Option Nat} {r s : List Mb} {o : Pt} (e : [(q, l)] = (p, lim) :: r) (h : RsP q s → RsP o s) (hs : RsP p s) : RsP o (s ++ r) := by
  injection e with e1 e2
  injection e1 with e1 _
  rw [← e2, List.append_nil]
  exact h (e1 ▸ hs)
mutual
/-- the front of a row may be replaced by what may stand there -/
theorem RsP.front {q : Pt} {row : List Mb} : RsP q row → ∀ {p : Pt} {lim : Option Nat} {r s : List Mb}, row = (p, lim) :: r → RsP p s → RsP q (s ++ r)
  | .start q l, p, lim, r, s, e, hs => one_front e id hs
  | .nil q, p, lim, r, s, e, hs => by cases e
  | .ch hb h, p, lim, r, s, e, hs => .ch hb (RsL.front h e hs)
  | .rd l h, p, lim, r, s, e, hs => by
    rcases app_front e with ⟨_, e2⟩ | ⟨r1, e1, e2⟩
    · exact one_front e2 id hs
    · rw [e2, ← List.append_assoc]
      exact .rd l (RsL.front h e1 hs)
  | .en l h, p, lim, r, s, e, hs => by
    rcases app_front e with ⟨_, e2⟩ | ⟨r1, e1, e2⟩
    · exact one_front e2 id hs
    · rw [e2, ← List.append_assoc]
      exact .en l (RsL.front h e1 hs)
  | .ti0 hc h, p, lim, r, s, e, hs => .ti0 hc (RsL.front h e hs)
  | .ti l hk h, p, lim, r, s, e, hs => by
    rcases app_front e with ⟨_, e2⟩ | ⟨r1, e1, e2⟩
    · exact one_front e2 (fun z => z.less hk) hs
    · rw [e2, ← List.append_assoc]
      exact .ti l hk (RsL.front h e1 hs)
theorem RsL.front {l : List Pt} {row : List Mb} : RsL l row → ∀ {p : Pt} {lim : Option Nat} {r s : List Mb}, row = (p, lim) :: r → RsP p s → RsL l (s ++ r)
  | .nil l, p, lim, r, s, e, hs => by cases e
  | .here (p := q) l1 l2 h, p, lim, r, s, e, hs => by
    rcases app_front e with ⟨_, e2⟩ | ⟨r1, e1, e2⟩
    · cases l2 with
      | nil => cases e2
      | cons q2 l2 =>
        have e2 : (q2, none) :: mbs l2 = (p, lim) :: r := e2
        injection e2 with e1 e2
        injection e1 with e1 _
        rw [← e2]
        have z := RsL.here (l1 ++ [q]) l2 (e1 ▸ hs)
        rw [List.append_assoc] at z
        exact z
    · rw [e2, ← List.append_assoc]
      exact .here l1 l2 (RsP.front h e1 hs)
end
theorem rs_opn (c : Nat) (b : List Pt) : RsP (.ti c b) (opn (.ti c b)) := by
  match c with
  | 0 => exact .nil _
  | 1 => exact .ti0 (by decide) (rsL_mbs b)
  | c + 2 => exact .ti none (by omega) (rsL_mbs b)
theorem rs_chs (p : Pt) (n : Nat) : RsP p (chs p n) := by
  cases p with
  | tr a b c => cases n <;> exact .nil _
  | ev c => cases n <;> exact .nil _
  | ti c b => cases n <;> exact .nil _
  | ch o os =>
    rw [chs]
    by_cases h : n < os.length
    · rw [List.getD_eq_getElem?_getD, List.getElem?_eq_getElem h]
      exact .ch (List.getElem_mem h) (rsL_mbs _)
    · rw [List.getD_eq_getElem?_getD, List.getElem?_eq_none (by omega)]
      exact .nil _
  | rd o b =>
    cases n with
    | zero => exact .nil _
    | succ n => exact .rd (some n) (rsL_mbs b)
  | en b =>
    cases n with
    | zero => exact .nil _
    | succ n => exact .en (some n) (rsL_mbs b)
theorem RsL.tl {l : List Pt} {m : Mb} {r : List Mb} (h : RsL l (m :: r)) : RsL l r := RsL.front (s := []) h rfl (.nil _)
theorem stl_rs {l : List Pt} {st st' : Pst} {o : Ou} (h : Stl st st' o) : RsL l st.row → RsL l st'.row := by
  induction h with
  | done => exact id
  | cut => exact id
  | last _ _ ih => exact fun h => ih h.tl
  | wait _ _ => exact id
  | fail _ _ _ => exact id
  | tr _ _ _ _ _ ih => exact fun h => ih h.tl
  | ev _ _ ih => exact fun h => ih h.tl
  | ti _ _ ih => exact fun h => ih (RsL.front h rfl (rs_opn _ _))
end Pk
set_option linter.all false
set_option maxRecDepth 100000
namespace Pk
/-! ### drawn pacts: counts up to three -/
mutual
def Vs (ps : List Nat) : Pt → Prop
  | .tr p q _ => p ∈ ps ∧ q ∈ ps
  | .ev _ => True
  | .ch o os => o ∈ ps ∧ VsLL ps os
  | .rd o b => o ∈ ps ∧ VsL ps b
  | .en b => VsL ps b
  | .ti c b => c ≤ 3 ∧ VsL ps b
def VsL (ps : List Nat) : List Pt → Prop
  | [] => True
  | p :: l => Vs ps p ∧ VsL ps l
def VsLL (ps : List Nat) : List (List Pt) → Prop
  | [] => True
  | b :: l => VsL ps b ∧ VsLL ps l
end
theorem vsL_iff {ps : List Nat} : ∀ {l : List Pt}, VsL ps l ↔ ∀ p ∈ l, Vs ps p
  | [] => ⟨fun _ p h => absurd h List.not_mem_nil, fun _ => by rw [VsL]; trivial⟩
  | q :: l => by
    rw [VsL, vsL_iff (l := l)]
    exact ⟨fun ⟨a, b⟩ p h => by
      rcases List.mem_cons.mp h with h | h
      · rw [h]; exact a
      · exact b p h, fun h => ⟨h q List.mem_cons_self, fun p hp => h p (List.mem_cons_of_mem _ hp)⟩⟩
mutual
theorem vs_us {ps : List Nat} : ∀ p, Vs ps p → Us ps p
  | .tr p q m, h => by rw [Vs] at h; rw [Us]; exact h
  | .ev c, h => by rw [Us]; trivial
  | .ch o os, h => by rw [Vs] at h; rw [Us]; exact ⟨h.1, vsLL_us os h.2⟩
  | .rd o b, h => by rw [Vs] at h; rw [Us]; exact ⟨h.1, vsL_us b h.2⟩
  | .en b, h => by rw [Vs] at h; rw [Us]; exact vsL_us b h
  | .ti c b, h => by rw [Vs] at h; rw [Us]; exact vsL_us b h.2
theorem vsL_us {ps : List Nat} : ∀ l, VsL ps l → UsL ps l
  | [], h => by rw [UsL]; trivial
  | p :: l, h => by rw [VsL] at h; rw [UsL]; exact ⟨vs_us p h.1, vsL_us l h.2⟩
theorem vsLL_us {ps : List Nat} : ∀ l, VsLL ps l → UsLL ps l
  | [], h => by rw [UsLL]; trivial
  | b :: l, h => by rw [VsLL] at h; rw [UsLL]; exact ⟨vsL_us b h.1, vsLL_us l h.2⟩
end
mutual
theorem vs_fp {ps : List Nat} : ∀ p, Vs ps p → fp p ≤ 4 * wt p
  | .tr p q m, h => by rw [fp, wt]; omega
  | .ev c, h => by rw [fp, wt]; omega
  | .ch o os, h => by
    rw [Vs] at h
    have := vsLL_fp os h.2
    rw [fp, wt]
    omega
  | .rd o b, h => by
    rw [Vs] at h
    have := vsL_fp b h.2
    rw [fp, wt]
    omega
  | .en b, h => by
    rw [Vs] at h
    have := vsL_fp b h
    rw [fp, wt]
    omega
  | .ti c b, h => by
    rw [Vs] at h
    have ih := vsL_fp b h.2
    rw [fp, wt]
    match c, h.1 with
    | 0, _ => rw [if_pos (by decide)]; omega
    | 1, _ => rw [if_neg (by decide)]; omega
    | 2, _ => rw [if_neg (by decide)]; omega
    | 3, _ => rw [if_neg (by decide)]; omega
theorem vsL_fp {ps : List Nat} : ∀ l, VsL ps l → fpL l ≤ 4 * wtL l
  | [], h => by rw [fpL, wtL]; omega
  | p :: l, h => by
    rw [VsL] at h
    have := vs_fp p h.1
    have := vsL_fp l h.2
    rw [fpL, wtL]
    omega
theorem vsLL_fp {ps : List Nat} : ∀ l, VsLL ps l → fpLL l ≤ 4 * wtLL l
  | [], h => by rw [fpLL, wtLL]; omega
  | b :: l, h => by
    rw [VsLL] at h
    have := vsL_fp b h.1
    have := vsLL_fp l h.2
    rw [fpLL, wtLL]
    omega
end
end Pk
set_option pp.maxSteps 700
set_option Elab.async false
set_option linter.all false
set_option maxRecDepth 100000
set_option maxHeartbeats 4000000
open SX (S S_inj S_len S_cat)
namespace Z
open Pk NdefX
open PySem PySem.Spec PyProof.Rows L2
open C8 (pss_cut tCut)
local macro_rules | `(tactic| walk_at "num") => `(tactic| first | rfl | omega | decide | exact Nat.le_of_lt (small1000 (by simp)) | exact ⟨by omega, by omega⟩ | exact ⟨by omega, by omega, by omega⟩ | exact ⟨by decide, by decide, by decide⟩ | exact Or.inl ⟨by omega, by omega⟩ | exact Or.inr ⟨by omega, by omega⟩)
local macro_rules | `(tactic| walk_at "go") => `(tactic| repeat (first | refine ⟨_, rfl, ?_⟩ | refine ⟨_, _, rfl, rfl, ?_⟩ | refine ⟨_, _, rfl, ?_⟩ | (refine ⟨_, _, rfl, rfl, ?_, ?_⟩; focus walk_at "num") | refine Or.inl ⟨_, rfl, ?_⟩ | refine ⟨_, _, _, _, rfl, rfl, (by assumption), (by rfl), ?_⟩ | refine ⟨_, _, _, _, _, rfl, (by assumption), (by assumption), (by assumption), (by rfl), ?_⟩ | refine ⟨rfl, ?_⟩ | (refine And.intro ?_ ?_; focus walk_at "num")))
abbrev s_amount : Stmt := topS 51
abbrev N_amount : List Str := ["_law_draw", "_law_value", "_law_k"]
abbrev P_amount : List Str := ["_law_draw"]
theorem sc_amount : FnScope N_amount P_amount (defScope s_amount) := ⟨rfl, rfl, rfl, by decide +kernel, rfl, by decide +kernel, by decide +kernel⟩
abbrev s_pact : Stmt := topS 52
abbrev N_pact : List Str := ["_law_draws_here", "_law_place", "_law_depth", "_law_parties", "_law_marks_here", "_law_size", "_law_k"]
abbrev P_pact : List Str := ["_law_draws_here", "_law_place", "_law_depth", "_law_parties", "_law_marks_here"]
theorem sc_pact : FnScope N_pact P_pact (defScope s_pact) := ⟨rfl, rfl, rfl, by decide +kernel, rfl, by decide +kernel, by decide +kernel⟩
abbrev s_part : Stmt := topS 53
abbrev N_part : List Str := ["_law_draws_here", "_law_place", "_law_depth", "_law_parties", "_law_marks_here", "_law_kind", "_law_draw", "_law_many", "_law_owner", "_law_payee", "_law_size", "_law_k", "_law_body"]
abbrev P_part : List Str := ["_law_draws_here", "_law_place", "_law_depth", "_law_parties", "_law_marks_here"]
theorem sc_part : FnScope N_part P_part (defScope s_part) := ⟨rfl, rfl, rfl, by decide +kernel, rfl, by decide +kernel, by decide +kernel⟩
section
variable {P : Program} {w : World} {K : PySem.W.Frag} {mg : Str → Option Value} {base : Heap} {f : Addr} {k : Cs} {fd : FuncData}
def spAm : Sp := fun vs H Q _ => ∃ d : Int, vs = [.int d] ∧ 0 ≤ d ∧ d < 1000000 ∧ ∀ m : Nat, m ≤ 10 ^ 57 → Q (.int (m : Int)) H
theorem ok_amount (F : FnP K "_law_amount" s_amount f fd) (m_int : mg "int" = none) (m_range : mg "range" = none) : FnOk P w K mg base CX0 1 f fd P_amount spAm := by
  refine F.ok sc_amount (fun vs H Q E h => ?_) (fun cdv A outer s H vs Q E hr h => ?_)
  · obtain ⟨d, rfl, _⟩ := h
    rfl
  · obtain ⟨d, rfl, d0, d1, q⟩ := h
    refine ⟨_, PSs.nox (pss_cons (ps_if (pt_cmpR op_ne (pe_op op_mod (pe_callTy call_int1 (by rfl) m_int (by decide +kernel) (pa_cons (pv 0) pa_nil)) pe_int) pe_int (nomark _)) (pss_one (ps_ret (pe_op op_mod (pe_callTy call_int1 (by rfl) m_int (by decide +kernel) (pa_cons (pe_op op_fdiv (pv 0) pe_int) pa_nil)) pe_int))) pss_nil)
      (pss_cons (ps_set (i := 1) sc_amount.nd rfl (by first | exact .inl rfl | exact .inr rfl) (pe_op op_add (pe_op op_mod (pe_callTy call_int1 (by rfl) m_int (by decide +kernel) (pa_cons (pe_op op_fdiv (pv 0) pe_int) pa_nil)) pe_int) pe_int))
      (pss_cons (ps_for PassesOwn.never rfl (pi_range1 (by rfl) m_range (pa_cons (pe_op op_mod (pe_callTy call_int1 (by rfl) m_int (by decide +kernel) (pa_cons (pe_op op_fdiv (pv 0) pe_int) pa_nil)) pe_int) pa_nil)) (pg_name (i := 2) sc_amount.nd rfl (by first | exact .inl rfl | exact .inr rfl))
        (pss_one (ps_set (i := 1) sc_amount.nd rfl (by first | exact .inl rfl | exact .inr rfl) (pe_op op_mul (pv 1) pe_int))))
      (pss_one (ps_ret (pv 1)))))), ?_⟩
    walk_at "go"
    refine ite2 (fun e => ?_) (fun e => ?_)
    · walk_at "go"
      have := q (d / 9 % 12).toNat (Nat.le_trans (show _ ≤ 12 by omega) (by decide +kernel))
      rw [Int.toNat_of_nonneg (by omega)] at this
      exact this
    · walk_at "go"
      obtain ⟨c, ec, hc⟩ : ∃ c : Nat, d / 9000 % 55 = (c : Int) ∧ c ≤ 54 := ⟨(d / 9000 % 55).toNat, by omega, by omega⟩
      obtain ⟨b, eb, hb⟩ : ∃ b : Nat, d / 9 % 1000 + 1 = (b : Int) ∧ b ≤ 1000 := ⟨(d / 9 % 1000 + 1).toNat, by omega, by omega⟩
      refine for_gen (n := c) (fun k σ J => J = H ∧ ∃ v : Option V, σ = [some (.int d), some (.int ((b * 10 ^ k : Nat) : Int)), v]) ⟨rfl, none, ?_⟩ ?_ ?_ ?_ ?_
      · rw [Nat.pow_zero, Nat.mul_one, ← eb]
        rfl
      · intro k σ J hk _
        show k < (d / 9000 % 55).toNat
        omega
      · intro σ J _
        show (d / 9000 % 55).toNat ≤ c
        omega
      · rintro k σ J x J' hk ⟨rfl, v, rfl⟩ ⟨rfl, rfl⟩
        walk_at "go"
        refine ⟨some (.int (0 + (k : Int))), ?_⟩
        rw [Nat.pow_succ, ← Nat.mul_assoc]
        rfl
      · rintro σ J ⟨rfl, v, rfl⟩
        walk_at "go"
        refine q _ (Nat.le_trans (Nat.mul_le_mul hb (Nat.pow_le_pow_right (by decide) hc)) (by decide +kernel))
/-- the weight of a drawn part -/
def mxw : Nat → Nat
  | 0 => 1
  | e + 1 => 1 + 18 * mxw e
theorem mxw_pos : ∀ e, 1 ≤ mxw e
  | 0 => Nat.le_refl _
  | e + 1 => Nat.le_add_right _ _
structure PM (ps ms : List Nat) : Prop where
  nd : ps.Nodup
  l2 : 2 ≤ ps.length
  l6 : ps.length ≤ 6
  par : ∀ c ∈ ps, c ∈ PAR
  mk0 : 0 < ms.length
  mk1 : ms.length ≤ 100
  mrk : ∀ c ∈ ms, c ∈ MRK
/-- the drawn values as a list -/
theorem drawn_l {X : Hp} {W D : Nat} {ps : List Nat} : ∀ ys : List V, (∀ (k : Nat) y, ys[k]? = some y → ∃ b x, y = .ref b ∧ DtAt X x b ∧ Ok x ∧ wt x ≤ W ∧ dp x ≤ D ∧ Vs ps x) → ∃ (l : List Pt) (bs : List Addr), ys = bs.map V.ref ∧ DtsAt X l bs ∧ OkL l ∧ wtL l ≤ ys.length * W ∧ dpL l ≤ D ∧ l.length = ys.length ∧ VsL ps l
  | [], _ => ⟨[], [], rfl, by rw [DtsAt], by rw [OkL]; trivial, Nat.zero_le _, Nat.zero_le _, rfl, by rw [VsL]; trivial⟩
  | y :: ys, h => by
    obtain ⟨l, bs, e, h1, h2, h3, h4, h5, h6⟩ := drawn_l ys fun k z hz => h (k + 1) z hz
    obtain ⟨b, x, rfl, g1, g2, g3, g4, g5⟩ := h 0 y rfl
    refine ⟨x :: l, b :: bs, by rw [e]; rfl, by rw [DtsAt]; exact ⟨b, bs, rfl, g1, h1⟩, by rw [OkL]; exact ⟨g2, h2⟩, ?_, ?_, by rw [List.length_cons, List.length_cons, h5], by rw [VsL]; exact ⟨g5, h6⟩⟩
    · rw [wtL, List.length_cons, Nat.succ_mul]
      omega
    · rw [dpL]
      omega
theorem drawn_ll {X : Hp} {W D : Nat} {ps : List Nat} : ∀ ys : List V, (∀ (k : Nat) y, ys[k]? = some y → ∃ b x, y = .ref b ∧ DaAt X x b ∧ OkL x ∧ wtL x ≤ W ∧ dpL x ≤ D ∧ VsL ps x) → ∃ (l : List (List Pt)) (bs : List Addr), ys = bs.map V.ref ∧ DasAt X l bs ∧ OkLL l ∧ wtLL l ≤ ys.length * W ∧ dpLL l ≤ D ∧ l.length = ys.length ∧ VsLL ps l
  | [], _ => ⟨[], [], rfl, by rw [DasAt], by rw [OkLL]; trivial, Nat.zero_le _, Nat.zero_le _, rfl, by rw [VsLL]; trivial⟩
  | y :: ys, h => by
    obtain ⟨l, bs, e, h1, h2, h3, h4, h5, h6⟩ := drawn_ll ys fun k z hz => h (k + 1) z hz
    obtain ⟨b, x, rfl, g1, g2, g3, g4, g5⟩ := h 0 y rfl
    refine ⟨x :: l, b :: bs, by rw [e]; rfl, by rw [DasAt]; exact ⟨b, bs, rfl, g1, h1⟩, by rw [OkLL]; exact ⟨g2, h2⟩, ?_, ?_, by rw [List.length_cons, List.length_cons, h5], by rw [VsLL]; exact ⟨g5, h6⟩⟩
    · rw [wtLL, List.length_cons, Nat.succ_mul]
      omega
    · rw [dpLL]
      omega
def spPc (K : PySem.W.Frag) (d : Nat) : Sp := fun vs H Q _ => ∃ (a p : Addr) (n e : Nat) (ds : List Int) (ps ms : List Nat), vs = [.ref a, .ref p, .int (e : Int), .str (S ps), .str (S ms)] ∧ Tk K a p ds n H H ∧ PM ps ms ∧ e + 1 ≤ d ∧ ∀ (D : Addr) (l : List Pt) H', Tk K a p ds n H H' → DaAt (nw H H') l D → OkL l → wtL l ≤ 3 * mxw e → dpL l ≤ e + 1 → l.length ≤ 3 → VsL ps l → Q (.ref D) H'
def spPp (K : PySem.W.Frag) (d : Nat) : Sp := fun vs H Q _ => ∃ (a p : Addr) (n e : Nat) (ds : List Int) (ps ms : List Nat), vs = [.ref a, .ref p, .int (e : Int), .str (S ps), .str (S ms)] ∧ Tk K a p ds n H H ∧ PM ps ms ∧ e ≤ d ∧ ∀ (y : Addr) (x : Pt) H', Tk K a p ds n H H' → DtAt (nw H H') x y → Ok x → wt x ≤ mxw e → dp x ≤ e + 1 → Vs ps x → Q (.ref y) H'
theorem ok_pact {d : Nat} (F : FnP K "_law_pact" s_pact f fd) (m_int : mg "int" = none) (m_range : mg "range" = none) (c_take : Cal P w K mg base 1 "_law_take" (spTake K)) (c_part : Cal P w K mg base (2 * d + 7) "_law_part" (spPp K d)) : FnOk P w K mg base CX0 (2 * d + 8) f fd P_pact (spPc K (d + 1)) := by
  refine F.ok sc_pact (fun vs H Q E h => ?_) (fun cdv A outer s H vs Q E hr h => ?_)
  · obtain ⟨a, p, n, e, ds, ps, ms, rfl, _⟩ := h
    rfl
  · obtain ⟨a, p, n, e, ds, ps, ms, rfl, hT, pm, he, qq⟩ := h
    refine ⟨_, PSs.nox (pss_cons (ps_set (i := 5) sc_pact.nd rfl (by first | exact .inl rfl | exact .inr rfl) (pe_op op_mod (pe_callTy call_int1 (by rfl) m_int (by decide +kernel) (pa_cons (pe_cl c_take hr (by omega) (by rfl) (pa_cons (pv 0) (pa_cons (pv 1) pa_nil))) pa_nil)) pe_int))
      (pss_one (ps_ret (pe_lc (own := [("_law_k", 6)]) (g := (gName 6)) (tt := tYes) (by rfl) sc_pact.nd (pi_range1 (by rfl) m_range (pa_cons (pv 5) pa_nil)) (blkOk_by (own := [("_law_k", 6)]) (N := N_pact) (sc := defScope s_pact) (by decide +kernel)) (fun _ _ _ _ _ => (pg_name (i := 6) sc_pact.nd rfl (by first | exact .inl rfl | exact .inr rfl))) (fun _ _ _ _ _ => pts_nil) (fun _ _ _ _ _ => (pe_cl c_part hr (by omega) (by rfl) (pa_cons (pv 0) (pa_cons (pv 1) (pa_cons (pv 2) (pa_cons (pv 3) (pa_cons (pv 4) pa_nil))))))))))), ?_⟩
    obtain ⟨mm, em⟩ := hT.pl
    walk_at "go"
    refine ⟨a, p, n, mm, ds, rfl, SqL.of hT.hA, hT.hd, em, hT.ne, fun r r0 r1 => ?_⟩
    obtain ⟨hT1, _⟩ := hT.next em
    generalize upd H p (.lst [.int ((mm + 1 : Nat) : Int)]) = H1 at hT1
    obtain ⟨c, ec, hc⟩ : ∃ c : Nat, r % 4 = (c : Int) ∧ c ≤ 3 := ⟨(r % 4).toNat, by omega, by omega⟩
    walk_at "go"
    intro D nD
    refine lc_nw (G := fun i X y => ∃ b x, y = .ref b ∧ DtAt X x b ∧ Ok x ∧ wt x ≤ mxw e ∧ dp x ≤ e + 1 ∧ Vs ps x) (n := c) (fun i X Y y s h => ?_) hT1.slf nD (by omega) (fun k J' hk => ?_) (fun J' => ?_) (fun k J1 x J2 hk h => ?_) (fun x => rfl) (fun k x J1 Q1 hk h hT2 q1 => ?_) (fun J1 ys hT2 eD ly hG => ?_)
    · obtain ⟨b, x, h1, h2, h3⟩ := h
      exact ⟨b, x, h1, h2.mono s, h3⟩
    · show k < (r % 4).toNat
      omega
    · show (r % 4).toNat ≤ c
      omega
    · exact h.1
    · walk_at "go"
      refine ⟨a, p, n, e, ds, ps, ms, rfl, hT2.slf, pm, by omega, fun y x H' hT3 hx okx hwx hdx ux => q1 _ _ hT3 ⟨y, x, rfl, hx, okx, hwx, hdx, ux⟩⟩
    · obtain ⟨l, bs, rfl, h1, h2, h3, h4, h5, h6⟩ := drawn_l ys hG
      rw [ly] at h3 h5
      have := Nat.mul_le_mul_right (mxw e) hc
      exact qq D l J1 (hT1.tr hT2) ⟨bs, nw_of (hT1.nn nD) eD, h1.mono (fun a o h => nw_trans (fun _ h => hT1.nn h) _ _ (nwD_nw _ _ h)) _ _⟩ h2 (by omega) (by omega) (by omega) h6
theorem at_S {ps : List Nat} {j : Nat} (h : j < ps.length) : atI (S ps).cps.toList (j : Int) = some ps[j] := atI_nat (show ps.toArray.toList[j]? = some ps[j] by rw [List.getElem?_eq_getElem h])
theorem modNd (r : Int) {n : Nat} (h : 0 < n) : ∃ c : Nat, r % (n : Int) = (c : Int) ∧ c < n := modN r h
theorem ok_part_ {d : Nat} (F : FnP K "_law_part" s_part f fd) (m_int : mg "int" = none) (m_len : mg "len" = none) (m_range : mg "range" = none) (c_take : Cal P w K mg base 1 "_law_take" (spTake K)) (c_amount : Cal P w K mg base 1 "_law_amount" spAm) (c_pact : Cal P w K mg base (2 * d + 6) "_law_pact" (spPc K d)) : FnOk P w K mg base CX0 (2 * d + 7) f fd P_part (spPp K d) := by
  refine F.ok sc_part (fun vs H Q E h => ?_) (fun cdv A outer s H vs Q E hr h => ?_)
  · obtain ⟨a, p, n, e, ds, ps, ms, rfl, _⟩ := h
    rfl
  · obtain ⟨a, p, n, e, ds, ps, ms, rfl, hT, pm, he, qq⟩ := h
    refine ⟨_, PSs.nox (pss_cons (ps_set (i := 5) sc_part.nd rfl (by first | exact .inl rfl | exact .inr rfl) (pe_op op_mod (pe_callTy call_int1 (by rfl) m_int (by decide +kernel) (pa_cons (pe_cl c_take hr (by omega) (by rfl) (pa_cons (pv 0) (pa_cons (pv 1) pa_nil))) pa_nil)) pe_int))
      (pss_cons (ps_set (i := 6) sc_part.nd rfl (by first | exact .inl rfl | exact .inr rfl) (pe_cl c_take hr (by omega) (by rfl) (pa_cons (pv 0) (pa_cons (pv 1) pa_nil))))
      (pss_cons (ps_set (i := 7) sc_part.nd rfl (by first | exact .inl rfl | exact .inr rfl) (pe_callB call_len_str (by rfl) m_len PySem.boot_len (pa_cons (pv 3) pa_nil)))
      (pss_cons (ps_set (i := 8) sc_part.nd rfl (by first | exact .inl rfl | exact .inr rfl) (pe_ix ix_str (pv 3) (pe_op op_mod (pe_callTy call_int1 (by rfl) m_int (by decide +kernel) (pa_cons (pv 6) pa_nil)) (pv 7)) (fun _ _ => rfl)))
      (pss_cons (ps_if (PW.pt (pw_or (pt_cmpR op_eq (pv 5) pe_int (nomark _)) (pw_or (pt_cmpR op_eq (pv 5) pe_int (nomark _)) (pw_or1 (PW.pt (pw_and (pt_cmpR op_eq (pv 2) pe_int (nomark _)) (pw_and1 (pt_cmpR op_eq (pe_op op_mod (pe_callTy call_int1 (by rfl) m_int (by decide +kernel) (pa_cons (pv 5) pa_nil)) pe_int) pe_int (nomark _))))))))) (pss_one (ps_ret (pe_tup (pa_cons pe_str (pa_cons (pe_ix ix_str (pv 4) (pe_op op_mod (pe_callTy call_int1 (by rfl) m_int (by decide +kernel) (pa_cons (pv 6) pa_nil)) (pe_callB call_len_str (by rfl) m_len PySem.boot_len (pa_cons (pv 4) pa_nil))) (fun _ _ => rfl)) pa_nil))))) pss_nil)
      (pss_cons (ps_if (PW.pt (pw_or (pt_cmpR op_lt (pv 5) pe_int (nomark _)) (pw_or1 (pt_cmpR op_eq (pv 2) pe_int (nomark _))))) (pss_cons (ps_set (i := 9) sc_part.nd rfl (by first | exact .inl rfl | exact .inr rfl) (pe_ix ix_str (pv 3) (pe_op op_mod (pe_callTy call_int1 (by rfl) m_int (by decide +kernel) (pa_cons (pe_op op_add (pe_op op_add (pe_op op_mod (pe_callTy call_int1 (by rfl) m_int (by decide +kernel) (pa_cons (pv 6) pa_nil)) (pv 7)) pe_int) (pe_op op_mod (pe_callTy call_int1 (by rfl) m_int (by decide +kernel) (pa_cons (pe_op op_fdiv (pv 6) (pv 7)) pa_nil)) (pe_op op_sub (pv 7) pe_int))) pa_nil)) (pv 7)) (fun _ _ => rfl)))
      (pss_one (ps_ret (pe_tup (pa_cons pe_str (pa_cons (pv 8) (pa_cons (pv 9) (pa_cons (pe_cl c_amount hr (by omega) (by rfl) (pa_cons (pe_cl c_take hr (by omega) (by rfl) (pa_cons (pv 0) (pa_cons (pv 1) pa_nil))) pa_nil)) pa_nil)))))))) pss_nil)
      (pss_cons (ps_if (pt_cmpR op_lt (pv 5) pe_int (nomark _)) (pss_cons (ps_set (i := 10) sc_part.nd rfl (by first | exact .inl rfl | exact .inr rfl) (pe_op op_add pe_int (pe_op op_mod (pe_callTy call_int1 (by rfl) m_int (by decide +kernel) (pa_cons (pe_op op_fdiv (pv 6) pe_int) pa_nil)) pe_int)))
      (pss_cut (ps_if (pt_cmpR op_eq (pe_op op_mod (pe_callTy call_int1 (by rfl) m_int (by decide +kernel) (pa_cons (pe_op op_fdiv (pv 6) pe_int) pa_nil)) pe_int) pe_int (nomark _)) (pss_one (ps_set (i := 10) sc_part.nd rfl (by first | exact .inl rfl | exact .inr rfl) (pe_op op_add pe_int (pe_op op_mod (pe_callTy call_int1 (by rfl) m_int (by decide +kernel) (pa_cons (pe_op op_fdiv (pv 6) pe_int) pa_nil)) pe_int)))) pss_nil)
      (pss_one (ps_ret (pe_tup (pa_cons pe_str (pa_cons (pv 8) (pa_cons (pe_lc (own := [("_law_k", 11)]) (g := (gName 11)) (tt := tYes) (by rfl) sc_part.nd (pi_range1 (by rfl) m_range (pa_cons (pv 10) pa_nil)) (blkOk_by (own := [("_law_k", 11)]) (N := N_part) (sc := defScope s_part) (by decide +kernel)) (fun _ _ _ _ _ => (pg_name (i := 11) sc_part.nd rfl (by first | exact .inl rfl | exact .inr rfl))) (fun _ _ _ _ _ => pts_nil) (fun _ _ _ _ _ => (pe_cl c_pact hr (by omega) (by rfl) (pa_cons (pv 0) (pa_cons (pv 1) (pa_cons (pe_op op_sub (pv 2) pe_int) (pa_cons (pv 3) (pa_cons (pv 4) pa_nil)))))))) pa_nil)))))))) pss_nil)
      (pss_cons (ps_set (i := 12) sc_part.nd rfl (by first | exact .inl rfl | exact .inr rfl) (pe_cl c_pact hr (by omega) (by rfl) (pa_cons (pv 0) (pa_cons (pv 1) (pa_cons (pe_op op_sub (pv 2) pe_int) (pa_cons (pv 3) (pa_cons (pv 4) pa_nil)))))))
      (pss_cons (ps_if (pt_cmpR op_eq (pv 5) pe_int (nomark _)) (pss_one (ps_ret (pe_tup (pa_cons pe_str (pa_cons (pe_op op_mod (pe_callTy call_int1 (by rfl) m_int (by decide +kernel) (pa_cons (pe_op op_fdiv (pv 6) pe_int) pa_nil)) pe_int) (pa_cons (pv 12) pa_nil)))))) pss_nil)
      (pss_cons (ps_if (PW.pt (pw_and (pt_cmpR op_eq (pv 5) pe_int (nomark _)) (pw_and1 (pt_cmpR op_eq (pe_op op_mod (pe_callTy call_int1 (by rfl) m_int (by decide +kernel) (pa_cons (pv 6) pa_nil)) pe_int) pe_int (nomark _))))) (pss_one (ps_ret (pe_tup (pa_cons pe_str (pa_cons (pv 12) pa_nil))))) pss_nil)
      (pss_one (ps_ret (pe_tup (pa_cons pe_str (pa_cons (pv 8) (pa_cons (pv 12) pa_nil)))))))))))))))), ?_⟩
    have lps : (S ps).length = ps.length := S_len _
    have lms : (S ms).length = ms.length := S_len _
    have l2 := pm.l2
    have l6 := pm.l6
    have mk0 := pm.mk0
    have mk1 := pm.mk1
    obtain ⟨mm, em⟩ := hT.pl
    walk_at "go"
    refine ⟨a, p, n, mm, ds, rfl, SqL.of hT.hA, hT.hd, em, hT.ne, fun r r0 r1 => ?_⟩
    obtain ⟨hT1, _⟩ := hT.next em
    generalize upd H p (.lst [.int ((mm + 1 : Nat) : Int)]) = H1 at hT1
    obtain ⟨m1, em1⟩ := hT1.pl
    walk_at "go"
    refine ⟨a, p, n, m1, ds, rfl, SqL.of hT1.hA, hT1.hd, em1, hT1.ne, fun r2 r20 r21 => ?_⟩
    obtain ⟨hT2, _⟩ := hT1.next em1
    generalize upd H1 p (.lst [.int ((m1 + 1 : Nat) : Int)]) = H2 at hT2
    have sps : (S ps).length ≤ sizeLine := by rw [lps]; exact szl (by omega)
    have sms : (S ms).length ≤ sizeLine := by rw [lms]; exact szl (by omega)
    obtain ⟨kd, ekd, hkd⟩ : ∃ kd : Int, r % 12 = kd ∧ 0 ≤ kd ∧ kd < 12 := ⟨_, rfl, by omega, by omega⟩
    walk_at "go"
    obtain ⟨io, eio, hio⟩ := modN r2 (show 0 < ps.length by omega)
    rw [lps]
    refine ⟨S ps, (io : Int), ps[io], rfl, (show V.int (r2 % (ps.length : Int)) = V.int (io : Int) from congrArg V.int eio), sps, at_S hio, ?_⟩
    have hpo := pm.par _ (List.getElem_mem hio)
    have hpu := List.getElem_mem hio
    rw [show L2.start N_part [V.ref a, V.ref p, V.int (e : Int), V.str (S ps), V.str (S ms)] = [some (V.ref a), some (V.ref p), some (V.int (e : Int)), some (V.str (S ps)), some (V.str (S ms)), none, none, none, none, none, none, none, none] from rfl]
    dsimp only [List.set]
    rw [ekd]
    clear ekd em em1 hT1
    -- leaves
    have fE : ∀ (y : Addr) (c : Nat), H2 y = none → c ∈ MRK → Q (.ref y) (upd H2 y (.tup [.str "event", .str (S [c])])) := fun y c ny hc => by
      have := mxw_pos e
      refine qq y (.ev c) _ (hT2.more (same_new ny)) ?_ ?_ ?_ ?_ ?_
      · rw [DtAt]
        exact nw_of (hT2.nn ny) upd_same
      · rw [Ok]
        exact hc
      · rw [wt]
        exact this
      · rw [dp]
        omega
      · rw [Vs]
        trivial
    have ixm : ∃ im, ∃ h : im < ms.length, r2 % (ms.length : Int) = (im : Int) ∧ ms[im] ∈ MRK := by
      obtain ⟨im, e1, h1⟩ := modN r2 mk0
      exact ⟨im, h1, e1, pm.mrk _ (List.getElem_mem h1)⟩
    obtain ⟨im, him, eim, hmm⟩ := ixm
    have ixp : ∃ j, ∃ h : j < ps.length, (r2 % (ps.length : Int) + 1 + r2 / (ps.length : Int) % ((ps.length : Int) - 1)) % (ps.length : Int) = (j : Int) ∧ ps[io] ≠ ps[j] ∧ ps[j] ∈ PAR := by
      obtain ⟨t, e1, h1⟩ := modN (r2 / (ps.length : Int)) (show 0 < ps.length - 1 by omega)
      rw [eio, show ((ps.length : Int) - 1) = ((ps.length - 1 : Nat) : Int) by omega, e1]
      obtain ⟨j, e2, h2⟩ := modN ((io : Int) + 1 + (t : Int)) (show 0 < ps.length by omega)
      refine ⟨j, h2, e2, fun z => ?_, pm.par _ (List.getElem_mem h2)⟩
      have := (List.getElem_inj pm.nd).mp z
      subst this
      by_cases c : io + 1 + t < ps.length
      · rw [Int.emod_eq_of_lt (by omega) (by omega)] at e2
        omega
      · rw [show ((io : Int) + 1 + (t : Int)) = ((io : Int) + 1 + (t : Int) - (ps.length : Int)) + (ps.length : Int) by omega, Int.add_emod_right, Int.emod_eq_of_lt (by omega) (by omega)] at e2
        omega
    obtain ⟨ip, hip, eip, npp, hpp⟩ := ixp
    have fT : ∀ (y : Addr) (q m : Nat) H3, Tk K a p ds n H H3 → H3 y = none → ps[io] ≠ q → q ∈ PAR → q ∈ ps → m ≤ 10 ^ 57 → Q (.ref y) (upd H3 y (.tup [.str "transfer", .str (S [ps[io]]), .str (S [q]), .int (m : Int)])) := fun y q m H3 hT3 ny nq hq hqu hm => by
      have := mxw_pos e
      refine qq y (.tr ps[io] q m) _ (hT3.more (same_new ny)) ?_ ?_ ?_ ?_ ?_
      · rw [DtAt]
        exact nw_of (hT3.nn ny) upd_same
      · rw [Ok]
        exact ⟨hpo, hq, nq, Nat.le_trans hm (by decide +kernel)⟩
      · rw [wt]
        exact this
      · rw [dp]
        omega
      · rw [Vs]
        exact ⟨hpu, hqu⟩
    generalize hpoe : ps[io] = po at hpo hpu npp fT
    -- a drawn pact
    have hdm : e = 0 ∨ 1 ≤ e := by omega
    rcases hdm with rfl | he1
    · have hz : decide (V.int ((0 : Nat) : Int) = V.int 0) = true := decide_eq_true rfl
      rcases (show kd = 0 ∨ kd = 1 ∨ kd = 2 ∨ kd = 3 ∨ kd = 4 ∨ kd = 5 ∨ kd = 6 ∨ kd = 7 ∨ kd = 8 ∨ kd = 9 ∨ kd = 10 ∨ kd = 11 by omega) with rfl | rfl | rfl | rfl | rfl | rfl | rfl | rfl | rfl | rfl | rfl | rfl
      · walk_at "go"
        refine ⟨S ps, (ip : Int), ps[ip], rfl, (show V.int _ = V.int (ip : Int) from congrArg V.int eip), sps, at_S hip, ?_⟩
        walk_at "go"
        obtain ⟨m2, em2⟩ := hT2.pl
        refine ⟨a, p, n, m2, ds, rfl, SqL.of hT2.hA, hT2.hd, em2, hT2.ne, fun r3 r30 r31 => ?_⟩
        obtain ⟨hT3, _⟩ := hT2.next em2
        generalize upd H2 p (.lst [.int ((m2 + 1 : Nat) : Int)]) = H3 at hT3
        walk_at "go"
        first | refine ⟨r3, rfl, r30, r31, fun m hm => ?_⟩ | intro m hm
        walk_at "go"
        intro y ny
        exact fT y _ m H3 hT3 ny npp hpp (List.getElem_mem hip) hm
      · walk_at "go"
        refine ⟨S ms, (im : Int), ms[im], rfl, (show V.int (r2 % ((S ms).length : Int)) = V.int (im : Int) by rw [lms, eim]), sms, at_S him, ?_⟩
        walk_at "go"
        intro y ny
        exact fE y _ ny hmm
      · walk_at "go"
        refine ⟨S ps, (ip : Int), ps[ip], rfl, (show V.int _ = V.int (ip : Int) from congrArg V.int eip), sps, at_S hip, ?_⟩
        walk_at "go"
        obtain ⟨m2, em2⟩ := hT2.pl
        refine ⟨a, p, n, m2, ds, rfl, SqL.of hT2.hA, hT2.hd, em2, hT2.ne, fun r3 r30 r31 => ?_⟩
        obtain ⟨hT3, _⟩ := hT2.next em2
        generalize upd H2 p (.lst [.int ((m2 + 1 : Nat) : Int)]) = H3 at hT3
        walk_at "go"
        first | refine ⟨r3, rfl, r30, r31, fun m hm => ?_⟩ | intro m hm
        walk_at "go"
        intro y ny
        exact fT y _ m H3 hT3 ny npp hpp (List.getElem_mem hip) hm
      · walk_at "go"
        refine ⟨S ms, (im : Int), ms[im], rfl, (show V.int (r2 % ((S ms).length : Int)) = V.int (im : Int) by rw [lms, eim]), sms, at_S him, ?_⟩
        walk_at "go"
        intro y ny
        exact fE y _ ny hmm
      · walk_at "go"
        refine ⟨S ps, (ip : Int), ps[ip], rfl, (show V.int _ = V.int (ip : Int) from congrArg V.int eip), sps, at_S hip, ?_⟩
        walk_at "go"
        obtain ⟨m2, em2⟩ := hT2.pl
        refine ⟨a, p, n, m2, ds, rfl, SqL.of hT2.hA, hT2.hd, em2, hT2.ne, fun r3 r30 r31 => ?_⟩
        obtain ⟨hT3, _⟩ := hT2.next em2
        generalize upd H2 p (.lst [.int ((m2 + 1 : Nat) : Int)]) = H3 at hT3
        walk_at "go"
        first | refine ⟨r3, rfl, r30, r31, fun m hm => ?_⟩ | intro m hm
        walk_at "go"
        intro y ny
        exact fT y _ m H3 hT3 ny npp hpp (List.getElem_mem hip) hm
      · walk_at "go"
        refine ⟨S ms, (im : Int), ms[im], rfl, (show V.int (r2 % ((S ms).length : Int)) = V.int (im : Int) by rw [lms, eim]), sms, at_S him, ?_⟩
        walk_at "go"
        intro y ny
        exact fE y _ ny hmm
      · walk_at "go"
        refine ⟨S ms, (im : Int), ms[im], rfl, (show V.int (r2 % ((S ms).length : Int)) = V.int (im : Int) by rw [lms, eim]), sms, at_S him, ?_⟩
        walk_at "go"
        intro y ny
        exact fE y _ ny hmm
      · walk_at "go"
        refine ⟨S ms, (im : Int), ms[im], rfl, (show V.int (r2 % ((S ms).length : Int)) = V.int (im : Int) by rw [lms, eim]), sms, at_S him, ?_⟩
        walk_at "go"
        intro y ny
        exact fE y _ ny hmm
      · walk_at "go"
        refine ⟨S ps, (ip : Int), ps[ip], rfl, (show V.int _ = V.int (ip : Int) from congrArg V.int eip), sps, at_S hip, ?_⟩
        walk_at "go"
        obtain ⟨m2, em2⟩ := hT2.pl
        refine ⟨a, p, n, m2, ds, rfl, SqL.of hT2.hA, hT2.hd, em2, hT2.ne, fun r3 r30 r31 => ?_⟩
        obtain ⟨hT3, _⟩ := hT2.next em2
        generalize upd H2 p (.lst [.int ((m2 + 1 : Nat) : Int)]) = H3 at hT3
        walk_at "go"
        first | refine ⟨r3, rfl, r30, r31, fun m hm => ?_⟩ | intro m hm
        walk_at "go"
        intro y ny
        exact fT y _ m H3 hT3 ny npp hpp (List.getElem_mem hip) hm
      · walk_at "go"
        refine ⟨S ms, (im : Int), ms[im], rfl, (show V.int (r2 % ((S ms).length : Int)) = V.int (im : Int) by rw [lms, eim]), sms, at_S him, ?_⟩
        walk_at "go"
        intro y ny
        exact fE y _ ny hmm
      · walk_at "go"
        refine ⟨S ps, (ip : Int), ps[ip], rfl, (show V.int _ = V.int (ip : Int) from congrArg V.int eip), sps, at_S hip, ?_⟩
        walk_at "go"
        obtain ⟨m2, em2⟩ := hT2.pl
        refine ⟨a, p, n, m2, ds, rfl, SqL.of hT2.hA, hT2.hd, em2, hT2.ne, fun r3 r30 r31 => ?_⟩
        obtain ⟨hT3, _⟩ := hT2.next em2
        generalize upd H2 p (.lst [.int ((m2 + 1 : Nat) : Int)]) = H3 at hT3
        walk_at "go"
        first | refine ⟨r3, rfl, r30, r31, fun m hm => ?_⟩ | intro m hm
        walk_at "go"
        intro y ny
        exact fT y _ m H3 hT3 ny npp hpp (List.getElem_mem hip) hm
      · walk_at "go"
        refine ⟨S ms, (im : Int), ms[im], rfl, (show V.int (r2 % ((S ms).length : Int)) = V.int (im : Int) by rw [lms, eim]), sms, at_S him, ?_⟩
        walk_at "go"
        intro y ny
        exact fE y _ ny hmm
    · have hz : decide (V.int (e : Int) = V.int 0) = false := decide_eq_false (fun z => by injection z with z; omega)
      rcases (show kd = 0 ∨ kd = 1 ∨ kd = 2 ∨ kd = 3 ∨ kd = 4 ∨ kd = 5 ∨ kd = 6 ∨ kd = 7 ∨ kd = 8 ∨ kd = 9 ∨ kd = 10 ∨ kd = 11 by omega) with rfl | rfl | rfl | rfl | rfl | rfl | rfl | rfl | rfl | rfl | rfl | rfl
      · walk_at "go"
        rw [hz]
        walk_at "go"
        refine ⟨S ps, (ip : Int), ps[ip], rfl, (show V.int _ = V.int (ip : Int) from congrArg V.int eip), sps, at_S hip, ?_⟩
        walk_at "go"
        obtain ⟨m2, em2⟩ := hT2.pl
        refine ⟨a, p, n, m2, ds, rfl, SqL.of hT2.hA, hT2.hd, em2, hT2.ne, fun r3 r30 r31 => ?_⟩
        obtain ⟨hT3, _⟩ := hT2.next em2
        generalize upd H2 p (.lst [.int ((m2 + 1 : Nat) : Int)]) = H3 at hT3
        walk_at "go"
        first | refine ⟨r3, rfl, r30, r31, fun m hm => ?_⟩ | intro m hm
        walk_at "go"
        intro y ny
        exact fT y _ m H3 hT3 ny npp hpp (List.getElem_mem hip) hm
      · walk_at "go"
        rw [hz]
        walk_at "go"
        refine ⟨S ps, (ip : Int), ps[ip], rfl, (show V.int _ = V.int (ip : Int) from congrArg V.int eip), sps, at_S hip, ?_⟩
        walk_at "go"
        obtain ⟨m2, em2⟩ := hT2.pl
        refine ⟨a, p, n, m2, ds, rfl, SqL.of hT2.hA, hT2.hd, em2, hT2.ne, fun r3 r30 r31 => ?_⟩
        obtain ⟨hT3, _⟩ := hT2.next em2
        generalize upd H2 p (.lst [.int ((m2 + 1 : Nat) : Int)]) = H3 at hT3
        walk_at "go"
        first | refine ⟨r3, rfl, r30, r31, fun m hm => ?_⟩ | intro m hm
        walk_at "go"
        intro y ny
        exact fT y _ m H3 hT3 ny npp hpp (List.getElem_mem hip) hm
      · walk_at "go"
        rw [hz]
        walk_at "go"
        refine ⟨S ps, (ip : Int), ps[ip], rfl, (show V.int _ = V.int (ip : Int) from congrArg V.int eip), sps, at_S hip, ?_⟩
        walk_at "go"
        obtain ⟨m2, em2⟩ := hT2.pl
        refine ⟨a, p, n, m2, ds, rfl, SqL.of hT2.hA, hT2.hd, em2, hT2.ne, fun r3 r30 r31 => ?_⟩
        obtain ⟨hT3, _⟩ := hT2.next em2
        generalize upd H2 p (.lst [.int ((m2 + 1 : Nat) : Int)]) = H3 at hT3
        walk_at "go"
        first | refine ⟨r3, rfl, r30, r31, fun m hm => ?_⟩ | intro m hm
        walk_at "go"
        intro y ny
        exact fT y _ m H3 hT3 ny npp hpp (List.getElem_mem hip) hm
      · walk_at "go"
        rw [hz]
        walk_at "go"
        refine ⟨S ps, (ip : Int), ps[ip], rfl, (show V.int _ = V.int (ip : Int) from congrArg V.int eip), sps, at_S hip, ?_⟩
        walk_at "go"
        obtain ⟨m2, em2⟩ := hT2.pl
        refine ⟨a, p, n, m2, ds, rfl, SqL.of hT2.hA, hT2.hd, em2, hT2.ne, fun r3 r30 r31 => ?_⟩
        obtain ⟨hT3, _⟩ := hT2.next em2
        generalize upd H2 p (.lst [.int ((m2 + 1 : Nat) : Int)]) = H3 at hT3
        walk_at "go"
        first | refine ⟨r3, rfl, r30, r31, fun m hm => ?_⟩ | intro m hm
        walk_at "go"
        intro y ny
        exact fT y _ m H3 hT3 ny npp hpp (List.getElem_mem hip) hm
      · walk_at "go"
        rw [hz]
        walk_at "go"
        refine ⟨S ps, (ip : Int), ps[ip], rfl, (show V.int _ = V.int (ip : Int) from congrArg V.int eip), sps, at_S hip, ?_⟩
        walk_at "go"
        obtain ⟨m2, em2⟩ := hT2.pl
        refine ⟨a, p, n, m2, ds, rfl, SqL.of hT2.hA, hT2.hd, em2, hT2.ne, fun r3 r30 r31 => ?_⟩
        obtain ⟨hT3, _⟩ := hT2.next em2
        generalize upd H2 p (.lst [.int ((m2 + 1 : Nat) : Int)]) = H3 at hT3
        walk_at "go"
        first | refine ⟨r3, rfl, r30, r31, fun m hm => ?_⟩ | intro m hm
        walk_at "go"
        intro y ny
        exact fT y _ m H3 hT3 ny npp hpp (List.getElem_mem hip) hm
      · walk_at "go"
        refine ⟨S ms, (im : Int), ms[im], rfl, (show V.int (r2 % ((S ms).length : Int)) = V.int (im : Int) by rw [lms, eim]), sms, at_S him, ?_⟩
        walk_at "go"
        intro y ny
        exact fE y _ ny hmm
      · walk_at "go"
        refine ⟨S ms, (im : Int), ms[im], rfl, (show V.int (r2 % ((S ms).length : Int)) = V.int (im : Int) by rw [lms, eim]), sms, at_S him, ?_⟩
        walk_at "go"
        intro y ny
        exact fE y _ ny hmm
      · walk_at "go"
        rw [hz]
        walk_at "go"
        have hmx : mxw e = 1 + 18 * mxw (e - 1) := by
          obtain ⟨e2, rfl⟩ : ∃ e2, e = e2 + 1 := ⟨e - 1, by omega⟩
          rfl
        rw [hz]
        walk_at "go"
        refine ⟨fun σ J => J = H2 ∧ ∃ (c : Nat) (v5 : Option V), 2 ≤ c ∧ c ≤ 6 ∧ σ = [some (V.ref a), some (V.ref p), some (V.int (e : Int)), some (V.str (S ps)), some (V.str (S ms)), v5, some (V.int r2), some (V.int (ps.length : Int)), some (V.str (S [po])), none, some (V.int (c : Int)), none, none], ?_, ?_⟩
        · walk_at "go"
          refine ite2 (fun _ => ?_) (fun _ => ?_)
          · walk_at "go"
            exact ⟨(2 + r2 / 96 % 5).toNat, _, by omega, by omega, by rw [Int.toNat_of_nonneg (by omega)]; rfl⟩
          · exact ⟨rfl, (2 + r2 / 6 % 2).toNat, _, by omega, by omega, by rw [Int.toNat_of_nonneg (by omega)]; rfl⟩
        rintro σ J ⟨rfl, c, v5, c2, c6, rfl⟩
        walk_at "go"
        intro D nD
        refine lc_nw (G := fun i X y => ∃ b x, y = .ref b ∧ DaAt X x b ∧ OkL x ∧ wtL x ≤ 3 * mxw (e - 1) ∧ dpL x ≤ e ∧ VsL ps x) (n := c) (fun i X Y y s h => ?_) hT2.slf nD (by omega) (fun k J' hk => ?_) (fun J' => ?_) (fun k J1 x J2 hk h => ?_) (fun x => rfl) (fun k x J1 Q1 hk h hT3 q1 => ?_) (fun J1 ys hT3 eD ly hG => ?_)
        · obtain ⟨b, x, h1, h2, h3⟩ := h
          exact ⟨b, x, h1, h2.mono s, h3⟩
        · show k < ((c : Int)).toNat
          omega
        · show ((c : Int)).toNat ≤ c
          omega
        · exact h.1
        · walk_at "go"
          refine ⟨a, p, n, e - 1, ds, ps, ms, by show [V.ref a, V.ref p, V.int ((e : Int) - 1), V.str (S ps), V.str (S ms)] = _; rw [show ((e : Int) - 1) = ((e - 1 : Nat) : Int) by omega], hT3.slf, pm, by omega, fun y x H' hT4 hx okx hwx hdx lx ux => q1 _ _ hT4 ⟨y, x, rfl, hx, okx, hwx, by omega, ux⟩⟩
        · obtain ⟨os, bs, rfl, h1, h2, h3, h4, h5, h6⟩ := drawn_ll ys hG
          rw [ly] at h3 h5
          have := Nat.mul_le_mul_right (3 * mxw (e - 1)) c6
          walk_at "go"
          intro y ny
          have sy := same_new (o := .tup [.str "choice", .str (S [po]), .ref D]) ny
          refine qq y (.ch po os) _ ((hT2.tr hT3).more sy) ?_ ?_ ?_ ?_ ?_
          · rw [DtAt]
            refine ⟨D, bs, nw_of (hT2.nn (hT3.nn ny)) upd_same, nw_of (hT2.nn nD) (sy _ _ eD), h1.mono (fun b o h => nw_of (hT2.nn (nwD_some h).2.1) (sy _ _ (nwD_some h).2.2)) _ _⟩
          · rw [Ok]
            exact ⟨hpo, by omega, by omega, h2⟩
          · rw [wt, hmx]
            omega
          · rw [dp]
            omega
          · rw [Vs]
            exact ⟨hpu, h6⟩
      · walk_at "go"
        rw [hz]
        walk_at "go"
        have hmx : mxw e = 1 + 18 * mxw (e - 1) := by
          obtain ⟨e2, rfl⟩ : ∃ e2, e = e2 + 1 := ⟨e - 1, by omega⟩
          rfl
        rw [hz]
        walk_at "go"
        refine ⟨fun σ J => J = H2 ∧ ∃ (c : Nat) (v5 : Option V), 2 ≤ c ∧ c ≤ 6 ∧ σ = [some (V.ref a), some (V.ref p), some (V.int (e : Int)), some (V.str (S ps)), some (V.str (S ms)), v5, some (V.int r2), some (V.int (ps.length : Int)), some (V.str (S [po])), none, some (V.int (c : Int)), none, none], ?_, ?_⟩
        · walk_at "go"
          refine ite2 (fun _ => ?_) (fun _ => ?_)
          · walk_at "go"
            exact ⟨(2 + r2 / 96 % 5).toNat, _, by omega, by omega, by rw [Int.toNat_of_nonneg (by omega)]; rfl⟩
          · exact ⟨rfl, (2 + r2 / 6 % 2).toNat, _, by omega, by omega, by rw [Int.toNat_of_nonneg (by omega)]; rfl⟩
        rintro σ J ⟨rfl, c, v5, c2, c6, rfl⟩
        walk_at "go"
        intro D nD
        refine lc_nw (G := fun i X y => ∃ b x, y = .ref b ∧ DaAt X x b ∧ OkL x ∧ wtL x ≤ 3 * mxw (e - 1) ∧ dpL x ≤ e ∧ VsL ps x) (n := c) (fun i X Y y s h => ?_) hT2.slf nD (by omega) (fun k J' hk => ?_) (fun J' => ?_) (fun k J1 x J2 hk h => ?_) (fun x => rfl) (fun k x J1 Q1 hk h hT3 q1 => ?_) (fun J1 ys hT3 eD ly hG => ?_)
        · obtain ⟨b, x, h1, h2, h3⟩ := h
          exact ⟨b, x, h1, h2.mono s, h3⟩
        · show k < ((c : Int)).toNat
          omega
        · show ((c : Int)).toNat ≤ c
          omega
        · exact h.1
        · walk_at "go"
          refine ⟨a, p, n, e - 1, ds, ps, ms, by show [V.ref a, V.ref p, V.int ((e : Int) - 1), V.str (S ps), V.str (S ms)] = _; rw [show ((e : Int) - 1) = ((e - 1 : Nat) : Int) by omega], hT3.slf, pm, by omega, fun y x H' hT4 hx okx hwx hdx lx ux => q1 _ _ hT4 ⟨y, x, rfl, hx, okx, hwx, by omega, ux⟩⟩
        · obtain ⟨os, bs, rfl, h1, h2, h3, h4, h5, h6⟩ := drawn_ll ys hG
          rw [ly] at h3 h5
          have := Nat.mul_le_mul_right (3 * mxw (e - 1)) c6
          walk_at "go"
          intro y ny
          have sy := same_new (o := .tup [.str "choice", .str (S [po]), .ref D]) ny
          refine qq y (.ch po os) _ ((hT2.tr hT3).more sy) ?_ ?_ ?_ ?_ ?_
          · rw [DtAt]
            refine ⟨D, bs, nw_of (hT2.nn (hT3.nn ny)) upd_same, nw_of (hT2.nn nD) (sy _ _ eD), h1.mono (fun b o h => nw_of (hT2.nn (nwD_some h).2.1) (sy _ _ (nwD_some h).2.2)) _ _⟩
          · rw [Ok]
            exact ⟨hpo, by omega, by omega, h2⟩
          · rw [wt, hmx]
            omega
          · rw [dp]
            omega
          · rw [Vs]
            exact ⟨hpu, h6⟩
      · walk_at "go"
        rw [hz]
        walk_at "go"
        have hmx : mxw e = 1 + 18 * mxw (e - 1) := by
          obtain ⟨e2, rfl⟩ : ∃ e2, e = e2 + 1 := ⟨e - 1, by omega⟩
          rfl
        rw [hz]
        walk_at "go"
        refine ⟨a, p, n, e - 1, ds, ps, ms, by show [V.ref a, V.ref p, V.int ((e : Int) - 1), V.str (S ps), V.str (S ms)] = _; rw [show ((e : Int) - 1) = ((e - 1 : Nat) : Int) by omega], hT2.slf, pm, by omega, fun D l H3 hT3 hl okl hwl hdl ll ul => ?_⟩
        obtain ⟨bs, hD, hl⟩ := hl
        have nD := (nw_some hD).1
        have eD := (nw_some hD).2
        walk_at "go"
        intro y ny
        have sy := same_new (o := .tup [.str "rounds", .str (S [po]), .ref D]) ny
        refine qq y (.rd po l) _ ((hT2.tr hT3).more sy) ?_ ?_ ?_ ?_ ?_
        · rw [DtAt]
          refine ⟨D, bs, nw_of (hT2.nn (hT3.nn ny)) upd_same, nw_of (hT2.nn nD) (sy _ _ eD), hl.mono (fun b o h => nw_of (hT2.nn (nw_some h).1) (sy _ _ (nw_some h).2)) _ _⟩
        · rw [Ok]
          exact ⟨hpo, okl⟩
        · rw [wt, hmx]
          omega
        · rw [dp]
          omega
        · rw [Vs]
          exact ⟨hpu, ul⟩
      · walk_at "go"
        rw [hz]
        walk_at "go"
        have hmx : mxw e = 1 + 18 * mxw (e - 1) := by
          obtain ⟨e2, rfl⟩ : ∃ e2, e = e2 + 1 := ⟨e - 1, by omega⟩
          rfl
        rw [hz]
        walk_at "go"
        refine ⟨a, p, n, e - 1, ds, ps, ms, by show [V.ref a, V.ref p, V.int ((e : Int) - 1), V.str (S ps), V.str (S ms)] = _; rw [show ((e : Int) - 1) = ((e - 1 : Nat) : Int) by omega], hT2.slf, pm, by omega, fun D l H3 hT3 hl okl hwl hdl ll ul => ?_⟩
        obtain ⟨bs, hD, hl⟩ := hl
        have nD := (nw_some hD).1
        have eD := (nw_some hD).2
        walk_at "go"
        obtain ⟨c, ec, hc⟩ : ∃ c : Nat, r2 / 6 % 4 = (c : Int) ∧ c ≤ 3 := ⟨(r2 / 6 % 4).toNat, by omega, by omega⟩
        show ∀ y, H3 y = none → Q (.ref y) (upd H3 y (.tup [.str "times", .int (r2 / 6 % 4), .ref D]))
        rw [ec]
        intro y ny
        have sy := same_new (o := .tup [.str "times", .int (c : Int), .ref D]) ny
        refine qq y (.ti c l) _ ((hT2.tr hT3).more sy) ?_ ?_ ?_ ?_ ?_
        · rw [DtAt]
          refine ⟨D, bs, nw_of (hT2.nn (hT3.nn ny)) upd_same, nw_of (hT2.nn nD) (sy _ _ eD), hl.mono (fun b o h => nw_of (hT2.nn (nw_some h).1) (sy _ _ (nw_some h).2)) _ _⟩
        · rw [Ok]
          exact ⟨by omega, okl⟩
        · have : wtL l * (if c < 1 then 1 else c) ≤ wtL l * 3 := Nat.mul_le_mul_left _ (by split <;> omega)
          rw [wt, hmx]
          omega
        · rw [dp]
          omega
        · rw [Vs]
          exact ⟨hc, ul⟩
      · walk_at "go"
        rw [hz]
        walk_at "go"
        have hmx : mxw e = 1 + 18 * mxw (e - 1) := by
          obtain ⟨e2, rfl⟩ : ∃ e2, e = e2 + 1 := ⟨e - 1, by omega⟩
          rfl
        rw [hz]
        walk_at "go"
        refine ⟨a, p, n, e - 1, ds, ps, ms, by show [V.ref a, V.ref p, V.int ((e : Int) - 1), V.str (S ps), V.str (S ms)] = _; rw [show ((e : Int) - 1) = ((e - 1 : Nat) : Int) by omega], hT2.slf, pm, by omega, fun D l H3 hT3 hl okl hwl hdl ll ul => ?_⟩
        obtain ⟨bs, hD, hl⟩ := hl
        have nD := (nw_some hD).1
        have eD := (nw_some hD).2
        walk_at "go"
        refine ite2 (fun _ => ?_) (fun _ => ?_)
        · walk_at "go"
          intro y ny
          have sy := same_new (o := .tup [.str "endless", .ref D]) ny
          refine qq y (.en l) _ ((hT2.tr hT3).more sy) ?_ ?_ ?_ ?_ ?_
          · rw [DtAt]
            refine ⟨D, bs, nw_of (hT2.nn (hT3.nn ny)) upd_same, nw_of (hT2.nn nD) (sy _ _ eD), hl.mono (fun b o h => nw_of (hT2.nn (nw_some h).1) (sy _ _ (nw_some h).2)) _ _⟩
          · rw [Ok]
            exact okl
          · rw [wt, hmx]
            omega
          · rw [dp]
            omega
          · rw [Vs]
            exact ul
        · walk_at "go"
          intro y ny
          have sy := same_new (o := .tup [.str "rounds", .str (S [po]), .ref D]) ny
          refine qq y (.rd po l) _ ((hT2.tr hT3).more sy) ?_ ?_ ?_ ?_ ?_
          · rw [DtAt]
            refine ⟨D, bs, nw_of (hT2.nn (hT3.nn ny)) upd_same, nw_of (hT2.nn nD) (sy _ _ eD), hl.mono (fun b o h => nw_of (hT2.nn (nw_some h).1) (sy _ _ (nw_some h).2)) _ _⟩
          · rw [Ok]
            exact ⟨hpo, okl⟩
          · rw [wt, hmx]
            omega
          · rw [dp]
            omega
          · rw [Vs]
            exact ⟨hpu, ul⟩
end
end Z
set_option pp.maxSteps 700
set_option Elab.async false
set_option linter.all false
set_option maxRecDepth 100000
set_option maxHeartbeats 4000000
open SX (S S_inj S_len S_cat)
namespace Z
open Pk NdefX
open PySem PySem.Spec PyProof.Rows L2
open C8 (pss_cut tCut)
local macro_rules | `(tactic| walk_at "num") => `(tactic| first | rfl | omega | decide | exact Nat.le_of_lt (small1000 (by simp)) | exact ⟨by omega, by omega⟩ | exact ⟨by omega, by omega, by omega⟩ | exact ⟨by decide, by decide, by decide⟩ | exact Or.inl ⟨by omega, by omega⟩ | exact Or.inr ⟨by omega, by omega⟩)
local macro_rules | `(tactic| walk_at "go") => `(tactic| repeat (first | refine ⟨_, rfl, ?_⟩ | refine ⟨_, _, rfl, rfl, ?_⟩ | refine ⟨_, _, rfl, ?_⟩ | (refine ⟨_, _, rfl, rfl, ?_, ?_⟩; focus walk_at "num") | refine Or.inl ⟨_, rfl, ?_⟩ | refine ⟨_, _, _, _, rfl, rfl, (by assumption), (by rfl), ?_⟩ | refine ⟨_, _, _, _, _, rfl, (by assumption), (by assumption), (by assumption), (by rfl), ?_⟩ | refine ⟨rfl, ?_⟩ | (refine And.intro ?_ ?_; focus walk_at "num")))
abbrev s_members_of : Stmt := topS 37
abbrev N_members_of : List Str := ["pact", "part"]
abbrev P_members_of : List Str := ["pact"]
theorem sc_members_of : FnScope N_members_of P_members_of (defScope s_members_of) := ⟨rfl, rfl, rfl, by decide +kernel, rfl, by decide +kernel, by decide +kernel⟩
abbrev s_mover_of : Stmt := topS 38
abbrev N_mover_of : List Str := ["part"]
abbrev P_mover_of : List Str := ["part"]
theorem sc_mover_of : FnScope N_mover_of P_mover_of (defScope s_mover_of) := ⟨rfl, rfl, rfl, by decide +kernel, rfl, by decide +kernel, by decide +kernel⟩
abbrev s_opened : Stmt := topS 39
abbrev N_opened : List Str := ["part", "rest"]
abbrev P_opened : List Str := ["part"]
theorem sc_opened : FnScope N_opened P_opened (defScope s_opened) := ⟨rfl, rfl, rfl, by decide +kernel, rfl, by decide +kernel, by decide +kernel⟩
abbrev s_chosen : Stmt := topS 40
abbrev N_chosen : List Str := ["part", "number"]
abbrev P_chosen : List Str := ["part", "number"]
theorem sc_chosen : FnScope N_chosen P_chosen (defScope s_chosen) := ⟨rfl, rfl, rfl, by decide +kernel, rfl, by decide +kernel, by decide +kernel⟩
abbrev s_move_for : Stmt := topS 41
abbrev N_move_for : List Str := ["part", "number"]
abbrev P_move_for : List Str := ["part", "number"]
theorem sc_move_for : FnScope N_move_for P_move_for (defScope s_move_for) := ⟨rfl, rfl, rfl, by decide +kernel, rfl, by decide +kernel, by decide +kernel⟩
/-- the fields and kinds of parts and pacts -/
structure PtA (K : PySem.W.Frag) (k : Cs) : Prop where
  cT : Cls K k.T
  T1 : NoAttr K k.T "payer"
  T2 : NoAttr K k.T "payee"
  T3 : NoAttr K k.T "amount"
  cE : Cls K k.E
  cC : Cls K k.C
  C1 : NoAttr K k.C "owner"
  C2 : NoAttr K k.C "options"
  cR : Cls K k.R
  R1 : NoAttr K k.R "owner"
  R2 : NoAttr K k.R "body"
  cN : Cls K k.N
  N1 : NoAttr K k.N "body"
  cM : Cls K k.M
  M1 : NoAttr K k.M "count"
  M2 : NoAttr K k.M "body"
  cP : Cls K k.P
  P1 : NoAttr K k.P "parts"
  kT : ∃ u, Con K k.T "KIND" (.str "transfer") u
  kE : ∃ u, Con K k.E "KIND" (.str "event") u
  kC : ∃ u, Con K k.C "KIND" (.str "choice") u
  kR : ∃ u, Con K k.R "KIND" (.str "rounds") u
  kN : ∃ u, Con K k.N "KIND" (.str "endless") u
  kM : ∃ u, Con K k.M "KIND" (.str "times") u
  tT : NoAttr K k.T "text"
  tE : NoAttr K k.E "text"
/-- the kind of a part -/
def kdS : Pt → Str
  | .tr _ _ _ => "transfer"
  | .ev _ => "event"
  | .ch _ _ => "choice"
  | .rd _ _ => "rounds"
  | .en _ => "endless"
  | .ti _ _ => "times"
/-- reading KIND -/
theorem rd_kind {K : PySem.W.Frag} {k : Cs} {H : Hp} {p : Pt} {a : Addr} (pa : PtA K k) (h : PtAt k K H p a) : ∃ C dx fs u, H a = some (.ins C dx fs) ∧ Cls K C ∧ Con K C "KIND" (.str (kdS p)) u ∧ fs.lookup ("KIND" : Str) = none := by
  cases p with
  | tr p q m =>
    rw [PtAt] at h
    obtain ⟨dx, h⟩ := h
    obtain ⟨u, c⟩ := pa.kT
    exact ⟨_, _, _, u, h, pa.cT, c, rfl⟩
  | ev c =>
    rw [PtAt] at h
    obtain ⟨dx, h⟩ := h
    obtain ⟨u, c⟩ := pa.kE
    exact ⟨_, _, _, u, h, pa.cE, c, rfl⟩
  | ch o os =>
    rw [PtAt] at h
    obtain ⟨dx, t, as, h, _⟩ := h
    obtain ⟨u, c⟩ := pa.kC
    exact ⟨_, _, _, u, h, pa.cC, c, rfl⟩
  | rd o b =>
    rw [PtAt] at h
    obtain ⟨dx, x, dy, t, as, h, _⟩ := h
    obtain ⟨u, c⟩ := pa.kR
    exact ⟨_, _, _, u, h, pa.cR, c, rfl⟩
  | en b =>
    rw [PtAt] at h
    obtain ⟨dx, x, dy, t, as, h, _⟩ := h
    obtain ⟨u, c⟩ := pa.kN
    exact ⟨_, _, _, u, h, pa.cN, c, rfl⟩
  | ti n b =>
    rw [PtAt] at h
    obtain ⟨dx, x, dy, t, as, h, _⟩ := h
    obtain ⟨u, c⟩ := pa.kM
    exact ⟨_, _, _, u, h, pa.cM, c, rfl⟩
/-- [(part, None) for part in parts] -/
theorem lc_mb {b : Bool} {K : PySem.W.Frag} {a D : Addr} {as : List Addr} {H0 : Hp} {i : Nat} {te : TE} {vs : List Nat} {σ : L2.St} {Qd : Hp → Prop} (hS : SqK b K H0 a (as.map V.ref)) (hn : as.length ≤ 1000000) (nD : H0 D = none)
    (hw : ∀ x : V, wipe ((wipe σ vs).set i (some x)) vs = wipe σ vs)
    (ht : ∀ (x : Addr) J1 (Q : VK), Same H0 J1 → (∀ T, J1 T = none → Q (.ref T) (upd J1 T (.tup [.ref x, .non]))) → te ((wipe σ vs).set i (some (.ref x))) J1 Q)
    (hd : ∀ J1 (ts : List Addr), Same H0 J1 → J1 D = some (.lst (ts.map V.ref)) → ts.length = as.length → (∀ (i : Nat) (t x : Addr), ts[i]? = some t → as[i]? = some x → H0 t = none ∧ J1 t = some (.tup [.ref x, .non])) → Qd J1) : lcW (ItQ b K a) (gName i) tYes te vs σ D Qd H0 := by
  refine lc_gen (J := ItQ b K a) (n := as.length) (fun k J1 => Same H0 J1 ∧ ∃ ts : List Addr, J1 D = some (.lst (ts.map V.ref)) ∧ ts.length = k ∧ ∀ (i : Nat) (t x : Addr), ts[i]? = some t → as[i]? = some x → H0 t = none ∧ J1 t = some (.tup [.ref x, .non])) ⟨same_new nD, [], upd_same, rfl, fun i t x h => by cases h⟩ (fun k J1 hk h => itq_go (x := .ref as[k]) (Z.Same.sqK h.1 hS) (by rw [List.getElem?_map, List.getElem?_eq_getElem hk]; rfl)) (fun J1 h => itq_stop (Z.Same.sqK h.1 hS) (by rw [List.length_map]; exact Nat.le_refl _)) (fun k J1 x J2 hk ⟨s1, ts, eD, lt, hG⟩ y => ?_) (fun J1 ⟨s1, ts, eD, lt, hG⟩ => hd J1 ts s1 eD lt hG)
  obtain ⟨rfl, ex⟩ := itq_yld (Z.Same.sqK s1 hS) y
  rw [List.getElem?_map, List.getElem?_eq_getElem hk] at ex
  cases ex
  refine ⟨hw _, ?_⟩
  show te ((wipe σ vs).set i (some (.ref as[k]))) J2 _
  refine ht as[k] J2 _ s1 fun T nT => ?_
  have sT : Same J2 (upd J2 T (.tup [.ref as[k], .non])) := same_new nT
  have tD : T ≠ D := (ne_of_none eD nT).symm
  refine ⟨_, sT _ _ eD, Nat.lt_of_le_of_lt (show (ts.map V.ref).length ≤ 1000000 by rw [List.length_map]; omega) (by decide), Z.Same.mut (s1.trans sT) nD, ts ++ [T], ?_, by rw [List.length_append, lt]; rfl, fun i t x h1 h2 => ?_⟩
  · rw [upd_same, List.map_append]
    rfl
  · by_cases c : i < ts.length
    · rw [List.getElem?_append_left c] at h1
      obtain ⟨g1, g2⟩ := hG i t x h1 h2
      have pD : t ≠ D := fun e => by rw [e, eD] at g2; cases g2
      exact ⟨g1, by rw [upd_ne pD]; exact sT _ _ g2⟩
    · rw [List.getElem?_append_right (by omega)] at h1
      have h3 : i - ts.length = 0 := by
        have := (List.getElem?_eq_some_iff.mp h1).1
        simp at this
        omega
      rw [h3] at h1
      obtain rfl : T = t := Option.some.inj h1
      have h4 : i = k := by omega
      subst h4
      rw [List.getElem?_eq_getElem hk] at h2
      obtain rfl := Option.some.inj h2
      exact ⟨Same.back s1 nT, by rw [upd_ne tD, upd_same]⟩
/-! ### what a play does not touch -/
/-- all but instances of C0 and lists stands as before -/
structure SmR (k : Cs) (K : PySem.W.Frag) (H H' : Hp) : Prop where
  ins : ∀ {a C dx : Addr} {fs : List (Str × V)}, C = k.T ∨ C = k.E ∨ C = k.C ∨ C = k.R ∨ C = k.N ∨ C = k.M ∨ C = k.P → H a = some (.ins C dx fs) → H' a = some (.ins C dx fs)
  tup : ∀ {a : Addr} {xs : List V}, SqT K H a xs → SqT K H' a xs
section
variable {k : Cs} {K : PySem.W.Frag} {H H' : Hp}
mutual
theorem PtAt.monoR (s : SmR k K H H') : ∀ (p : Pt) (a : Addr), PtAt k K H p a → PtAt k K H' p a
  | .tr p q m, a, h => by
    rw [PtAt] at h ⊢
    obtain ⟨dx, h⟩ := h
    exact ⟨dx, s.ins (by simp) h⟩
  | .ev c, a, h => by
    rw [PtAt] at h ⊢
    obtain ⟨dx, h⟩ := h
    exact ⟨dx, s.ins (by simp) h⟩
  | .ch o os, a, h => by
    rw [PtAt] at h ⊢
    obtain ⟨dx, t, as, h1, h2, h3⟩ := h
    exact ⟨dx, t, as, s.ins (by simp) h1, (s.tup h2), PasAt.monoR s os as h3⟩
  | .rd o b, a, h => by
    rw [PtAt] at h ⊢
    obtain ⟨dx, x, dy, t, as, h1, h2, h3, h4⟩ := h
    exact ⟨dx, x, dy, t, as, s.ins (by simp) h1, s.ins (by simp) h2, (s.tup h3), PtsAt.monoR s b as h4⟩
  | .en b, a, h => by
    rw [PtAt] at h ⊢
    obtain ⟨dx, x, dy, t, as, h1, h2, h3, h4⟩ := h
    exact ⟨dx, x, dy, t, as, s.ins (by simp) h1, s.ins (by simp) h2, (s.tup h3), PtsAt.monoR s b as h4⟩
  | .ti n b, a, h => by
    rw [PtAt] at h ⊢
    obtain ⟨dx, x, dy, t, as, h1, h2, h3, h4⟩ := h
    exact ⟨dx, x, dy, t, as, s.ins (by simp) h1, s.ins (by simp) h2, (s.tup h3), PtsAt.monoR s b as h4⟩
theorem PtsAt.monoR (s : SmR k K H H') : ∀ (l : List Pt) (as : List Addr), PtsAt k K H l as → PtsAt k K H' l as
  | [], as, h => by
    rw [PtsAt] at h ⊢
    exact h
  | p :: l, as, h => by
    rw [PtsAt] at h ⊢
    obtain ⟨a, r, h1, h2, h3⟩ := h
    exact ⟨a, r, h1, PtAt.monoR s p a h2, PtsAt.monoR s l r h3⟩
theorem PasAt.monoR (s : SmR k K H H') : ∀ (l : List (List Pt)) (as : List Addr), PasAt k K H l as → PasAt k K H' l as
  | [], as, h => by
    rw [PasAt] at h ⊢
    exact h
  | b :: l, as, h => by
    rw [PasAt] at h ⊢
    obtain ⟨x, r, h1, ⟨dy, t, bs, h2, h3, h4⟩, h5⟩ := h
    exact ⟨x, r, h1, ⟨dy, t, bs, s.ins (by simp) h2, (s.tup h3), PtsAt.monoR s b bs h4⟩, PasAt.monoR s l r h5⟩
end
theorem PaAt.monoR (s : SmR k K H H') {b : List Pt} {x : Addr} (h : PaAt k K H b x) : PaAt k K H' b x := by
  obtain ⟨dy, t, bs, h2, h3, h4⟩ := h
  exact ⟨dy, t, bs, s.ins (by simp) h2, (s.tup h3), PtsAt.monoR s b bs h4⟩
end
/-- the heap without a play and its list of moves -/
def cut2 (H : Hp) (x p : Addr) : Hp := fun a => if a = x ∨ a = p then none else H a
section
variable {H H' : Hp} {x p a : Addr} {o : HO}
theorem cut2_some (h : cut2 H x p a = some o) : a ≠ x ∧ a ≠ p ∧ H a = some o := by
  unfold cut2 at h
  split at h
  · cases h
  · rename_i c
    exact ⟨fun e => c (.inl e), fun e => c (.inr e), h⟩
theorem cut2_of (h1 : a ≠ x) (h2 : a ≠ p) (h : H a = some o) : cut2 H x p a = some o := by
  unfold cut2
  rw [if_neg (fun c => c.elim h1 h2)]
  exact h
theorem cut2_same : Same (cut2 H x p) H := fun _ _ h => (cut2_some h).2.2
theorem cut2_mono (s : Same H H') : Same (cut2 H x p) (cut2 H' x p) := fun _ _ h => by
  obtain ⟨h1, h2, h3⟩ := cut2_some h
  exact cut2_of h1 h2 (s _ _ h3)
theorem cut2_x {o : HO} : Same (cut2 H x p) (cut2 (upd H x o) x p) := fun _ _ h => by
  obtain ⟨h1, h2, h3⟩ := cut2_some h
  exact cut2_of h1 h2 (by rw [upd_ne h1]; exact h3)
theorem cut2_p {o : HO} : Same (cut2 H x p) (cut2 (upd H p o) x p) := fun _ _ h => by
  obtain ⟨h1, h2, h3⟩ := cut2_some h
  exact cut2_of h1 h2 (by rw [upd_ne h2]; exact h3)
/-- a new object -/
theorem cut2_new {u v : HO} (n : H a = none) (hx : H x = some u) (hp : H p = some v) (h : H' a = some o) : cut2 H' x p a = some o := cut2_of (fun e => by rw [e, hx] at n; cases n) (fun e => by rw [e, hp] at n; cases n) h
theorem cut2_r {k : Cs} {K : PySem.W.Frag} {CY dy : Addr} {fs : List (Str × V)} {xs : List V} (hd : CY ≠ k.T ∧ CY ≠ k.E ∧ CY ≠ k.C ∧ CY ≠ k.R ∧ CY ≠ k.N ∧ CY ≠ k.M ∧ CY ≠ k.P) (hx : H x = some (.ins CY dy fs)) (hp : H p = some (.lst xs)) : SmR k K H (cut2 H x p) where
  ins := fun {a C dx gs} hC h => cut2_of (fun e => by
    rw [e, hx] at h
    cases h
    obtain ⟨d1, d2, d3, d4, d5, d6, d7⟩ := hd
    rcases hC with z | z | z | z | z | z | z <;> first | exact d1 z | exact d2 z | exact d3 z | exact d4 z | exact d5 z | exact d6 z | exact d7 z) (fun e => by rw [e, hp] at h; cases h) h
  tup := fun {a ys} h => by
    rcases h with (h | ⟨o, h⟩) | h
    · exact .inl (.inl (cut2_of (fun e => by rw [e, hx] at h; cases h) (fun e => by rw [e, hp] at h; cases h) h))
    · exact .inl (.inr ⟨o, cut2_of (fun e => by rw [e, hx] at h; cases h) (fun e => by rw [e, hp] at h; cases h) h⟩)
    · exact .inr h
end
/-! ### members in the heap -/
def limV : Option Nat → V
  | none => .non
  | some n => .int (n : Int)
def MbsAt (k : Cs) (K : PySem.W.Frag) (G : Hp) : List Mb → List Addr → Prop
  | [], ts => ts = []
  | (p, o) :: r, ts => ∃ t a ss, ts = t :: ss ∧ G t = some (.tup [.ref a, limV o]) ∧ PtAt k K G p a ∧ MbsAt k K G r ss
section
variable {k : Cs} {K : PySem.W.Frag} {G G' : Hp}
theorem MbsAt.mono (s : Same G G') : ∀ (r : List Mb) (ts : List Addr), MbsAt k K G r ts → MbsAt k K G' r ts
  | [], ts, h => h
  | (p, o) :: r, ts, h => by
    obtain ⟨t, a, ss, h1, h2, h3, h4⟩ := h
    exact ⟨t, a, ss, h1, s _ _ h2, h3.mono s _ _, MbsAt.mono s r ss h4⟩
theorem MbsAt.len : ∀ (r : List Mb) (ts : List Addr), MbsAt k K G r ts → ts.length = r.length
  | [], ts, h => by
    have h : ts = [] := h
    rw [h]; rfl
  | (p, o) :: r, ts, h => by
    obtain ⟨t, a, ss, rfl, h2, h3, h4⟩ := h
    rw [List.length_cons, List.length_cons, MbsAt.len r ss h4]
theorem MbsAt.app : ∀ (r s : List Mb) (ts us : List Addr), MbsAt k K G r ts → MbsAt k K G s us → MbsAt k K G (r ++ s) (ts ++ us)
  | [], s, ts, us, h, g => by
    have h : ts = [] := h
    rw [h]
    exact g
  | (p, o) :: r, s, ts, us, h, g => by
    obtain ⟨t, a, ss, rfl, h2, h3, h4⟩ := h
    exact ⟨t, a, ss ++ us, rfl, h2, h3, MbsAt.app r s ss us h4 g⟩
theorem mbsAt_of : ∀ (l : List Pt) (as ts : List Addr), PtsAt k K G l as → ts.length = as.length → (∀ (i : Nat) (t a : Addr), ts[i]? = some t → as[i]? = some a → G t = some (.tup [.ref a, .non])) → MbsAt k K G (mbs l) ts
  | [], as, ts, h, e, g => by
    rw [PtsAt] at h
    rw [h] at e
    exact List.length_eq_zero_iff.mp e
  | p :: l, as, ts, h, e, g => by
    rw [PtsAt] at h
    obtain ⟨a, r, rfl, h1, h2⟩ := h
    cases ts with
    | nil => cases e
    | cons t ts => exact ⟨t, a, ts, rfl, g 0 t a rfl rfl, h1, mbsAt_of l r ts h2 (by rw [List.length_cons, List.length_cons] at e; omega) fun i => g (i + 1)⟩
end
section
variable {P : Program} {w : World} {K : PySem.W.Frag} {mg : Str → Option Value} {base : Heap} {f C CP : Addr} {k : Cs} {fd : FuncData}
/-- members_of: the addresses told -/
def spMo (k : Cs) (K : PySem.W.Frag) : Sp := fun vs H Q _ => ∃ (x dy t : Addr) (b : List Pt) (as : List Addr), vs = [.ref x] ∧ H x = some (.ins k.P dy (pfl t b)) ∧ SqT K H t (as.map V.ref) ∧ as.length ≤ 1000 ∧ ∀ (R : Addr) (ts : List Addr) H', Same H H' → H R = none → H' R = some (.lst (ts.map V.ref)) → ts.length = as.length → (∀ (i : Nat) (u a : Addr), ts[i]? = some u → as[i]? = some a → H u = none ∧ H' u = some (.tup [.ref a, .non])) → Q (.ref R) H'
theorem ok_members_of (F : FnP K "members_of" s_members_of f fd) (pa : PtA K k) : FnOk P w K mg base CX0 1 f fd P_members_of (spMo k K) := by
  refine F.ok sc_members_of (fun vs H Q E h => ?_) (fun cdv A outer s H vs Q E hr h => ?_)
  · obtain ⟨x, dy, t, b, as, rfl, _⟩ := h
    rfl
  · obtain ⟨x, dy, t, b, as, rfl, hx, hT, hn, q⟩ := h
    refine ⟨_, PSs.nox (pss_one (ps_ret (pe_lc (own := [("part", 1)]) (g := (gName 1)) (tt := tYes) (by rfl) sc_members_of.nd (pi_tup (pe_fld (pv 0) rfl)) (blkOk_by (own := [("part", 1)]) (N := N_members_of) (sc := defScope s_members_of) (by decide +kernel)) (fun _ _ _ _ _ => (pg_name (i := 1) sc_members_of.nd rfl (by first | exact .inl rfl | exact .inr rfl))) (fun _ _ _ _ _ => pts_nil) (fun _ _ _ _ _ => (pe_tup (pa_cons (pv 1) (pa_cons pe_non pa_nil))))))), ?_⟩
    walk_at "go"
    refine ⟨x, k.P, dy, _, _, rfl, hx, pa.cP, pa.P1, rfl, ?_⟩
    walk_at "go"
    refine ⟨⟨_, hT⟩, ?_⟩
    intro D nD
    refine lc_mb (b := false) hT (by omega) nD (fun x => rfl) (fun x J1 Q1 s1 q1 => ?_) (fun J1 ts s1 eD lt hG => ?_)
    · walk_at "go"
      exact q1
    · walk_at "go"
      exact q D ts J1 s1 nD eD lt hG
def mvV (p : Pt) : V := match mover p with
  | none => .non
  | some o => .str (S o)
def spMv (k : Cs) (K : PySem.W.Frag) : Sp := fun vs H Q _ => ∃ (a : Addr) (p : Pt), vs = [.ref a] ∧ PtAt k K H p a ∧ Q (mvV p) H
theorem ok_mover_of (F : FnP K "mover_of" s_mover_of f fd) (pa : PtA K k) : FnOk P w K mg base CX0 1 f fd P_mover_of (spMv k K) := by
  refine F.ok sc_mover_of (fun vs H Q E h => ?_) (fun cdv A outer s H vs Q E hr h => ?_)
  · obtain ⟨a, p, rfl, _⟩ := h
    rfl
  · obtain ⟨a, p, rfl, hp, q⟩ := h
    refine ⟨_, PSs.nox (pss_cons (ps_if (PW.pt (pw_or (pt_cmpR op_eq (pe_con (pv 0) rfl) pe_str (nomark _)) (pw_or1 (pt_cmpR op_eq (pe_con (pv 0) rfl) pe_str (nomark _))))) (pss_one (ps_ret (pe_fld (pv 0) rfl))) pss_nil)
      (pss_one (ps_ret (pe_ifExp (pt_cmpR op_eq (pe_con (pv 0) rfl) pe_str (nomark _)) pe_str pe_non)))), ?_⟩
    obtain ⟨C, dx, fs, u, e1, e2, e3, e4⟩ := rd_kind pa hp
    walk_at "go"
    refine ⟨a, C, dx, fs, _, u, rfl, e1, e2, e3, e4, ?_⟩
    cases p with
    | ch o os =>
      rw [PtAt] at hp
      obtain ⟨dx, t, as, h, _⟩ := hp
      walk_at "go"
      refine ⟨a, k.C, dx, _, _, rfl, h, pa.cC, pa.C1, rfl, ?_⟩
      exact q
    | rd o b =>
      rw [PtAt] at hp
      obtain ⟨dx, x, dy, t, as, h, _⟩ := hp
      walk_at "go"
      refine ⟨a, C, _, fs, _, u, rfl, e1, e2, e3, e4, ?_⟩
      walk_at "go"
      refine ⟨a, k.R, dx, _, _, rfl, h, pa.cR, pa.R1, rfl, ?_⟩
      exact q
    | en b =>
      walk_at "go"
      refine ⟨a, C, dx, fs, _, u, rfl, e1, e2, e3, e4, ?_⟩
      walk_at "go"
      refine ⟨a, C, dx, fs, _, u, rfl, e1, e2, e3, e4, ?_⟩
      walk_at "go"
      exact q
    | tr p q' m =>
      walk_at "go"
      refine ⟨a, C, dx, fs, _, u, rfl, e1, e2, e3, e4, ?_⟩
      walk_at "go"
      refine ⟨a, C, dx, fs, _, u, rfl, e1, e2, e3, e4, ?_⟩
      walk_at "go"
      exact q
    | ev c =>
      walk_at "go"
      refine ⟨a, C, dx, fs, _, u, rfl, e1, e2, e3, e4, ?_⟩
      walk_at "go"
      refine ⟨a, C, dx, fs, _, u, rfl, e1, e2, e3, e4, ?_⟩
      walk_at "go"
      exact q
    | ti c b =>
      walk_at "go"
      refine ⟨a, C, dx, fs, _, u, rfl, e1, e2, e3, e4, ?_⟩
      walk_at "go"
      refine ⟨a, C, dx, fs, _, u, rfl, e1, e2, e3, e4, ?_⟩
      walk_at "go"
      exact q
/-- a list of members, all new -/
def NwR (k : Cs) (K : PySem.W.Frag) (H H' : Hp) (r : List Mb) (R : Addr) (ts : List Addr) : Prop := H R = none ∧ H' R = some (.lst (ts.map V.ref)) ∧ (∀ t ∈ ts, H t = none) ∧ MbsAt k K H' r ts
theorem nwR_mbs {H H' : Hp} {l : List Pt} {as ts : List Addr} {R : Addr} (s : Same H H') (hP : PtsAt k K H l as) (nR : H R = none) (eR : H' R = some (.lst (ts.map V.ref))) (lt : ts.length = as.length) (hG : ∀ (i : Nat) (u a : Addr), ts[i]? = some u → as[i]? = some a → H u = none ∧ H' u = some (.tup [.ref a, .non])) : NwR k K H H' (mbs l) R ts := by
  refine ⟨nR, eR, fun t ht => ?_, mbsAt_of l as ts (hP.mono s _ _) lt fun i u a h1 h2 => (hG i u a h1 h2).2⟩
  obtain ⟨i, hi, rfl⟩ := List.getElem_of_mem ht
  exact (hG i ts[i] (as[i]'(by omega)) (List.getElem?_eq_getElem hi) (List.getElem?_eq_getElem (by omega))).1
theorem len_400 {l : List Pt} (h : wtL l ≤ 400) : l.length ≤ 1000 := by
  have := len_wt l
  omega
theorem szl3 {n : Nat} (h : n ≤ 10000000) : n ≤ sizeLine := Nat.le_trans h (by decide)
def spOp (k : Cs) (K : PySem.W.Frag) : Sp := fun vs H Q _ => ∃ (a : Addr) (p : Pt), vs = [.ref a] ∧ PtAt k K H p a ∧ Ok p ∧ wt p ≤ 400 ∧ dp p ≤ 30 ∧ ∀ R ts H', Same H H' → NwR k K H H' (opn p) R ts → Q (.ref R) H'
theorem ok_opened (F : FnP K "opened" s_opened f fd) (pa : PtA K k) (y_Times : MakY P w K mg base 5 "Times" (spM k K)) (c_members_of : Cal P w K mg base 1 "members_of" (spMo k K)) : FnOk P w K mg base CX0 7 f fd P_opened (spOp k K) := by
  refine F.ok sc_opened (fun vs H Q E h => ?_) (fun cdv A outer s H vs Q E hr h => ?_)
  · obtain ⟨a, p, rfl, _⟩ := h
    rfl
  · obtain ⟨a, p, rfl, hp, ok, hw, hd, q⟩ := h
    refine ⟨_, PSs.nox (pss_cons (ps_if (PW.pt (pw_or (pt_cmpR op_ne (pe_con (pv 0) rfl) pe_str (nomark _)) (pw_or1 (pt_cmpR op_eq (pe_fld (pv 0) rfl) pe_int (nomark _))))) (pss_one (ps_ret (pe_lst pa_nil))) pss_nil)
      (pss_cons (ps_set (i := 1) sc_opened.nd rfl (by first | exact .inl rfl | exact .inr rfl) (pe_ifExp (pt_cmpR op_eq (pe_fld (pv 0) rfl) pe_int (nomark _)) (pe_lst pa_nil) (pe_lst (pa_cons (pe_tup (pa_cons (pe_mkY y_Times (fun _ => passS0) hr (by decide) (by rfl) (pa_cons (pe_op op_sub (pe_fld (pv 0) rfl) pe_int) (pa_cons (pe_fld (pv 0) rfl) pa_nil))) (pa_cons pe_non pa_nil))) pa_nil))))
      (pss_one (ps_ret (pe_op op_cat (pe_cl c_members_of hr (by decide) (by rfl) (pa_cons (pe_fld (pv 0) rfl) pa_nil)) (pv 1)))))), ?_⟩
    obtain ⟨C, dx, fs, u, e1, e2, e3, e4⟩ := rd_kind pa hp
    walk_at "go"
    refine ⟨a, C, dx, fs, _, u, rfl, e1, e2, e3, e4, ?_⟩
    have nil : ∀ R, H R = none → opn p = [] → Q (.ref R) (upd H R (.lst [])) := fun R nR e => q R [] _ (same_new nR) ⟨nR, upd_same, fun t ht => absurd ht List.not_mem_nil, by rw [e]; rfl⟩
    cases p with
    | ti c b =>
      obtain ⟨okb, wb, db⟩ := ti_body ok hw hd
      have hp0 := hp
      rw [PtAt] at hp
      obtain ⟨dx, x, dy, t, as, h, h2, h3, h4⟩ := hp
      have hx : PaAt k K H b x := ⟨dy, t, as, h2, h3, h4⟩
      walk_at "go"
      refine ⟨a, k.M, dx, _, _, rfl, h, pa.cM, pa.M1, rfl, ?_⟩
      walk_at "go"
      match c, hp0, ok, hw, hd, h, q, nil with
      | 0, hp0, ok, hw, hd, h, q, nil =>
        walk_at "go"
        intro R nR
        exact nil R nR rfl
      | 1, hp0, ok, hw, hd, h, q, nil =>
        walk_at "go"
        refine ⟨a, k.M, dx, _, _, rfl, h, pa.cM, pa.M1, rfl, ?_⟩
        walk_at "go"
        intro R0 nR0
        generalize eH_ : upd H R0 _ = H1
        have s1 : Same H H1 := by rw [← eH_]; exact same_new nR0
        have eR0 : H1 R0 = some (.lst []) := by rw [← eH_]; exact upd_same
        clear eH_
        walk_at "go"
        refine ⟨a, k.M, dx, _, _, rfl, s1 _ _ h, pa.cM, pa.M2, rfl, ?_⟩
        obtain ⟨dyM, tM, asM, hM1, hM2, hM3⟩ := hx.mono s1
        refine ⟨_, dyM, tM, b, asM, rfl, hM1, hM2, by rw [PtsAt.len _ _ hM3]; exact len_400 wb, fun R ts H2 s2 nR_ eR_ lt_ hG_ => ?_⟩
        have nw := nwR_mbs s2 hM3 nR_ eR_ lt_ hG_
        clear hM1 hM2 hM3 nR_ eR_ lt_ hG_
        obtain ⟨n1, n2, n3, n4⟩ := nw
        walk_at "go"
        have eR0 := s2 _ _ eR0
        have lt := MbsAt.len _ _ n4
        have lb := len_400 wb
        refine ⟨R, R0, _, _, rfl, rfl, n2, eR0, szl3 (by rw [List.length_map, lt, List.length_nil, show (mbs b).length = b.length from List.length_map _]; omega), fun R2 nR2 => ?_⟩
        have s3 := same_new (o := .lst (ts.map V.ref ++ [])) nR2
        refine q R2 ts _ ((s1.trans s2).trans s3) ⟨Same.back (s1.trans s2) nR2, by rw [upd_same, List.append_nil], fun t ht => Same.back s1 (n3 t ht), ?_⟩
        rw [opn]
        exact n4.mono s3
      | c + 2, hp0, ok, hw, hd, h, q, nil =>
        walk_at "go"
        refine ⟨a, k.M, dx, _, _, rfl, h, pa.cM, pa.M1, rfl, ?_⟩
        walk_at "go"
        refine ⟨a, k.M, dx, _, _, rfl, h, pa.cM, pa.M1, rfl, ?_⟩
        walk_at "go"
        refine ⟨a, k.M, dx, _, _, rfl, h, pa.cM, pa.M2, rfl, ?_⟩
        walk_at "go"
        obtain ⟨g1, g2, g3⟩ := ti_less (d := c + 1) ok hw hd (by omega)
        refine ⟨x, c + 1, b, ?_, g1, hx, g2, g3, fun z H1 s1 nz hz => ?_⟩
        · show [V.int (((c + 2 : Nat) : Int) - 1), V.ref x] = _
          rw [show ((c + 2 : Nat) : Int) - 1 = ((c + 1 : Nat) : Int) by omega]
        walk_at "go"
        intro T nT
        generalize eH_ : upd H1 T _ = H2
        have s2 : Same H1 H2 := by rw [← eH_]; exact same_new nT
        have eT : H2 T = some (.tup [.ref z, .non]) := by rw [← eH_]; exact upd_same
        clear eH_
        walk_at "go"
        intro R0 nR0
        generalize eH_ : upd H2 R0 _ = H3
        have s3 : Same H2 H3 := by rw [← eH_]; exact same_new nR0
        have eR0 : H3 R0 = some (.lst [.ref T]) := by rw [← eH_]; exact upd_same
        clear eH_
        walk_at "go"
        have s13 := (s1.trans s2).trans s3
        refine ⟨a, k.M, dx, _, _, rfl, s13 _ _ h, pa.cM, pa.M2, rfl, ?_⟩
        obtain ⟨dyM, tM, asM, hM1, hM2, hM3⟩ := hx.mono s13
        refine ⟨_, dyM, tM, b, asM, rfl, hM1, hM2, by rw [PtsAt.len _ _ hM3]; exact len_400 wb, fun R ts H4 s4 nR_ eR_ lt_ hG_ => ?_⟩
        have nw := nwR_mbs s4 hM3 nR_ eR_ lt_ hG_
        clear hM1 hM2 hM3 nR_ eR_ lt_ hG_
        obtain ⟨n1, n2, n3, n4⟩ := nw
        walk_at "go"
        have eR0 := s4 _ _ eR0
        have lt := MbsAt.len _ _ n4
        have lb := len_400 wb
        refine ⟨R, R0, _, _, rfl, rfl, n2, eR0, szl3 (by rw [List.length_map, lt, show (mbs b).length = b.length from List.length_map _]; show b.length + 1 ≤ _; omega), fun R2 nR2 => ?_⟩
        have s5 := same_new (o := .lst (ts.map V.ref ++ [V.ref T])) nR2
        have s14 := s13.trans s4
        refine q R2 (ts ++ [T]) _ (s14.trans s5) ⟨Same.back s14 nR2, by rw [upd_same, List.map_append]; rfl, fun t ht => ?_, ?_⟩
        · rcases List.mem_append.mp ht with ht | ht
          · exact Same.back s13 (n3 t ht)
          · rw [List.mem_singleton.mp ht]
            exact Same.back s1 nT
        · rw [opn]
          exact MbsAt.app _ _ _ _ (n4.mono s5) ⟨T, z, [], rfl, ((s3.trans s4).trans s5) _ _ eT, ((((hz.mono s2).mono s3).mono s4).mono s5), rfl⟩
    | _ =>
      walk_at "go"
      intro R nR
      exact nil R nR rfl
def spCh (k : Cs) (K : PySem.W.Frag) : Sp := fun vs H Q _ => ∃ (a : Addr) (p : Pt) (n : Nat), vs = [.ref a, .int (n : Int)] ∧ PtAt k K H p a ∧ Ok p ∧ wt p ≤ 400 ∧ dp p ≤ 30 ∧ (mover p).isSome = true ∧ (∀ o os, p = .ch o os → n < os.length) ∧ (n = 0 → ∃ o os, p = .ch o os) ∧ ∀ R ts H', Same H H' → NwR k K H H' (chs p n) R ts → Q (.ref R) H'
theorem ok_chosen (F : FnP K "chosen" s_chosen f fd) (pa : PtA K k) (c_members_of : Cal P w K mg base 1 "members_of" (spMo k K)) : FnOk P w K mg base CX0 2 f fd P_chosen (spCh k K) := by
  refine F.ok sc_chosen (fun vs H Q E h => ?_) (fun cdv A outer s H vs Q E hr h => ?_)
  · obtain ⟨a, p, n, rfl, _⟩ := h
    rfl
  · obtain ⟨a, p, n, rfl, hp, ok, hw, hd, hm, hn, h0, q⟩ := h
    refine ⟨_, PSs.nox (pss_cons (ps_if (pt_cmpR op_eq (pe_con (pv 0) rfl) pe_str (nomark _)) (pss_one (ps_ret (pe_cl c_members_of hr (by decide) (by rfl) (pa_cons (pe_ix ix_tup (pe_fld (pv 0) rfl) (pv 1) (fun _ _ => rfl)) pa_nil)))) pss_nil)
      (pss_one (ps_ret (pe_ifExp (pt_cmpR op_eq (pv 1) pe_int (nomark _)) (pe_lst pa_nil) (pe_op op_cat (pe_cl c_members_of hr (by decide) (by rfl) (pa_cons (pe_fld (pv 0) rfl) pa_nil)) (pe_lst (pa_cons (pe_tup (pa_cons (pv 0) (pa_cons (pe_op op_sub (pv 1) pe_int) pa_nil))) pa_nil))))))), ?_⟩
    obtain ⟨C, dx, fs, u, e1, e2, e3, e4⟩ := rd_kind pa hp
    walk_at "go"
    refine ⟨a, C, dx, fs, _, u, rfl, e1, e2, e3, e4, ?_⟩
    cases p with
    | ch o os =>
      rw [PtAt] at hp
      obtain ⟨dx, t, as, h, h2, h3⟩ := hp
      have hl := hn o os rfl
      have la := PasAt.len _ _ h3
      walk_at "go"
      refine ⟨a, k.C, dx, _, _, rfl, h, pa.cC, pa.C2, rfl, ?_⟩
      walk_at "go"
      obtain ⟨x, ex, hx⟩ := PasAt.get _ _ h3 n os[n] (List.getElem?_eq_getElem hl)
      rw [Ok] at ok
      rw [wt] at hw
      have wb : wtL os[n] ≤ 400 := by
        have := wtLL_mem (List.getElem_mem hl)
        omega
      refine ⟨t, _, (n : Int), .ref x, rfl, rfl, h2, atI_nat (by rw [List.getElem?_map, ex]; rfl), ?_⟩
      walk_at "go"
      obtain ⟨dyM, tM, asM, hM1, hM2, hM3⟩ := hx
      refine ⟨_, dyM, tM, os[n], asM, rfl, hM1, hM2, by rw [PtsAt.len _ _ hM3]; exact len_400 wb, fun R ts H1 s1 nR_ eR_ lt_ hG_ => ?_⟩
      have nw := nwR_mbs s1 hM3 nR_ eR_ lt_ hG_
      clear hM1 hM2 hM3 nR_ eR_ lt_ hG_
      refine q R ts H1 s1 ?_
      rw [chs, List.getD_eq_getElem?_getD, List.getElem?_eq_getElem hl]
      exact nw
    | rd o b => 
      rw [Ok] at ok
      rw [wt] at hw
      rw [dp] at hd
      have hp0 := hp
      rw [PtAt] at hp
      obtain ⟨dx, x, dy, t, as, h, h2, h3, h4⟩ := hp
      have hx : PaAt k K H b x := ⟨dy, t, as, h2, h3, h4⟩
      have wb : wtL b ≤ 400 := by omega
      match n, h0, q with
      | 0, h0, q =>
        obtain ⟨o', os', z⟩ := h0 rfl
        cases z
      | n + 1, h0, q =>
        walk_at "go"
        refine ⟨a, k.R, dx, _, _, rfl, h, pa.cR, pa.R2, rfl, ?_⟩
        walk_at "go"
        obtain ⟨dyM, tM, asM, hM1, hM2, hM3⟩ := hx
        refine ⟨_, dyM, tM, b, asM, rfl, hM1, hM2, by rw [PtsAt.len _ _ hM3]; exact len_400 wb, fun R ts H1 s1 nR_ eR_ lt_ hG_ => ?_⟩
        have nw := nwR_mbs s1 hM3 nR_ eR_ lt_ hG_
        clear hM1 hM2 hM3 nR_ eR_ lt_ hG_
        obtain ⟨n1, n2, n3, n4⟩ := nw
        walk_at "go"
        intro T nT
        generalize eH_ : upd H1 T _ = H2
        have s2 : Same H1 H2 := by rw [← eH_]; exact same_new nT
        have eT : H2 T = some (.tup [.ref a, .int (((n + 1 : Nat) : Int) - 1)]) := by rw [← eH_]; exact upd_same
        clear eH_
        walk_at "go"
        intro R0 nR0
        generalize eH_ : upd H2 R0 _ = H3
        have s3 : Same H2 H3 := by rw [← eH_]; exact same_new nR0
        have eR0 : H3 R0 = some (.lst [.ref T]) := by rw [← eH_]; exact upd_same
        clear eH_
        walk_at "go"
        have lt := MbsAt.len _ _ n4
        have lb := len_400 wb
        have s13 := (s1.trans s2).trans s3
        refine ⟨R, R0, _, _, rfl, rfl, (s2.trans s3) _ _ n2, eR0, szl3 (by rw [List.length_map, lt, show (mbs b).length = b.length from List.length_map _]; show b.length + 1 ≤ _; omega), fun R2 nR2 => ?_⟩
        have s5 := same_new (o := .lst (ts.map V.ref ++ [V.ref T])) nR2
        refine q R2 (ts ++ [T]) _ (s13.trans s5) ⟨Same.back s13 nR2, by rw [upd_same, List.map_append]; rfl, fun t ht => ?_, ?_⟩
        · rcases List.mem_append.mp ht with ht | ht
          · exact n3 t ht
          · rw [List.mem_singleton.mp ht]
            exact Same.back s1 nT
        · rw [chs]
          refine MbsAt.app _ _ _ _ (n4.mono ((s2.trans s3).trans s5)) ⟨T, a, [], rfl, ?_, (hp0.mono s13 _ _).mono s5 _ _, rfl⟩
          have e := (s3.trans s5) _ _ eT
          rw [show ((n + 1 : Nat) : Int) - 1 = (n : Int) by omega] at e
          exact e
    | en b => 
      rw [Ok] at ok
      rw [wt] at hw
      rw [dp] at hd
      have hp0 := hp
      rw [PtAt] at hp
      obtain ⟨dx, x, dy, t, as, h, h2, h3, h4⟩ := hp
      have hx : PaAt k K H b x := ⟨dy, t, as, h2, h3, h4⟩
      have wb : wtL b ≤ 400 := by omega
      match n, h0, q with
      | 0, h0, q =>
        obtain ⟨o', os', z⟩ := h0 rfl
        cases z
      | n + 1, h0, q =>
        walk_at "go"
        refine ⟨a, k.N, dx, _, _, rfl, h, pa.cN, pa.N1, rfl, ?_⟩
        walk_at "go"
        obtain ⟨dyM, tM, asM, hM1, hM2, hM3⟩ := hx
        refine ⟨_, dyM, tM, b, asM, rfl, hM1, hM2, by rw [PtsAt.len _ _ hM3]; exact len_400 wb, fun R ts H1 s1 nR_ eR_ lt_ hG_ => ?_⟩
        have nw := nwR_mbs s1 hM3 nR_ eR_ lt_ hG_
        clear hM1 hM2 hM3 nR_ eR_ lt_ hG_
        obtain ⟨n1, n2, n3, n4⟩ := nw
        walk_at "go"
        intro T nT
        generalize eH_ : upd H1 T _ = H2
        have s2 : Same H1 H2 := by rw [← eH_]; exact same_new nT
        have eT : H2 T = some (.tup [.ref a, .int (((n + 1 : Nat) : Int) - 1)]) := by rw [← eH_]; exact upd_same
        clear eH_
        walk_at "go"
        intro R0 nR0
        generalize eH_ : upd H2 R0 _ = H3
        have s3 : Same H2 H3 := by rw [← eH_]; exact same_new nR0
        have eR0 : H3 R0 = some (.lst [.ref T]) := by rw [← eH_]; exact upd_same
        clear eH_
        walk_at "go"
        have lt := MbsAt.len _ _ n4
        have lb := len_400 wb
        have s13 := (s1.trans s2).trans s3
        refine ⟨R, R0, _, _, rfl, rfl, (s2.trans s3) _ _ n2, eR0, szl3 (by rw [List.length_map, lt, show (mbs b).length = b.length from List.length_map _]; show b.length + 1 ≤ _; omega), fun R2 nR2 => ?_⟩
        have s5 := same_new (o := .lst (ts.map V.ref ++ [V.ref T])) nR2
        refine q R2 (ts ++ [T]) _ (s13.trans s5) ⟨Same.back s13 nR2, by rw [upd_same, List.map_append]; rfl, fun t ht => ?_, ?_⟩
        · rcases List.mem_append.mp ht with ht | ht
          · exact n3 t ht
          · rw [List.mem_singleton.mp ht]
            exact Same.back s1 nT
        · rw [chs]
          refine MbsAt.app _ _ _ _ (n4.mono ((s2.trans s3).trans s5)) ⟨T, a, [], rfl, ?_, (hp0.mono s13 _ _).mono s5 _ _, rfl⟩
          have e := (s3.trans s5) _ _ eT
          rw [show ((n + 1 : Nat) : Int) - 1 = (n : Int) by omega] at e
          exact e
    | _ => cases hm
def mvS (p : Pt) : Str := match p with
  | .ch _ _ => "take"
  | _ => "rounds"
def spMf (k : Cs) (K : PySem.W.Frag) : Sp := fun vs H Q _ => ∃ (a : Addr) (p : Pt) (n : Int), vs = [.ref a, .int n] ∧ PtAt k K H p a ∧ ∀ T, H T = none → Q (.ref T) (upd H T (.tup [.str (mvS p), .int n]))
theorem ok_move_for (F : FnP K "move_for" s_move_for f fd) (pa : PtA K k) : FnOk P w K mg base CX0 1 f fd P_move_for (spMf k K) := by
  refine F.ok sc_move_for (fun vs H Q E h => ?_) (fun cdv A outer s H vs Q E hr h => ?_)
  · obtain ⟨a, p, n, rfl, _⟩ := h
    rfl
  · obtain ⟨a, p, n, rfl, hp, q⟩ := h
    refine ⟨_, PSs.nox (pss_one (ps_ret (pe_tup (pa_cons (pe_ifExp (pt_cmpR op_eq (pe_con (pv 0) rfl) pe_str (nomark _)) pe_str pe_str) (pa_cons (pv 1) pa_nil))))), ?_⟩
    obtain ⟨C, dx, fs, u, e1, e2, e3, e4⟩ := rd_kind pa hp
    walk_at "go"
    refine ⟨a, C, dx, fs, _, u, rfl, e1, e2, e3, e4, ?_⟩
    cases p <;> walk_at "go" <;> exact fun T nT => q T nT
end
end Z
set_option pp.maxSteps 700
set_option Elab.async false
set_option linter.all false
set_option maxRecDepth 100000
set_option maxHeartbeats 4000000
open SX (S S_inj S_len S_cat)
namespace Z
open Pk NdefX
open PySem PySem.Spec PyProof.Rows L2
open C8 (pss_cut tCut)
local macro_rules | `(tactic| walk_at "num") => `(tactic| first | rfl | omega | decide | exact Nat.le_of_lt (small1000 (by simp)) | exact ⟨by omega, by omega⟩ | exact ⟨by omega, by omega, by omega⟩ | exact ⟨by decide, by decide, by decide⟩ | exact Or.inl ⟨by omega, by omega⟩ | exact Or.inr ⟨by omega, by omega⟩)
local macro_rules | `(tactic| walk_at "go") => `(tactic| repeat (first | refine ⟨_, rfl, ?_⟩ | refine ⟨_, _, rfl, rfl, ?_⟩ | refine ⟨_, _, rfl, ?_⟩ | (refine ⟨_, _, rfl, rfl, ?_, ?_⟩; focus walk_at "num") | refine Or.inl ⟨_, rfl, ?_⟩ | refine ⟨_, _, _, _, rfl, rfl, (by assumption), (by rfl), ?_⟩ | refine ⟨_, _, _, _, _, rfl, (by assumption), (by assumption), (by assumption), (by rfl), ?_⟩ | refine ⟨rfl, ?_⟩ | (refine And.intro ?_ ?_; focus walk_at "num")))
abbrev s_number_in : Stmt := topS 42
abbrev N_number_in : List Str := ["move", "member", "part", "limit", "word", "number", "most"]
abbrev P_number_in : List Str := ["move", "member"]
theorem sc_number_in : FnScope N_number_in P_number_in (defScope s_number_in) := ⟨rfl, rfl, rfl, by decide +kernel, rfl, by decide +kernel, by decide +kernel⟩
abbrev s_Play_end_rounds : Stmt := inClass (topS 45) 5
abbrev N_Play_end_rounds : List Str := ["self"]
abbrev P_Play_end_rounds : List Str := ["self"]
theorem sc_Play_end_rounds : FnScope N_Play_end_rounds P_Play_end_rounds (defScope s_Play_end_rounds) := ⟨rfl, rfl, rfl, by decide +kernel, rfl, by decide +kernel, by decide +kernel⟩
abbrev s_Play_carry_out : Stmt := inClass (topS 45) 6
abbrev N_Play_carry_out : List Str := ["self", "part", "changed"]
abbrev P_Play_carry_out : List Str := ["self", "part"]
theorem sc_Play_carry_out : FnScope N_Play_carry_out P_Play_carry_out (defScope s_Play_carry_out) := ⟨rfl, rfl, rfl, by decide +kernel, rfl, by decide +kernel, by decide +kernel⟩
/-! ### a play in the heap -/
def pk (pu : Pu) : List (L2.Key × V) := pu.map fun x => (.inr (S [x.1]), .int (x.2 : Int))
def hapV (h : List Pt) : List V := h.map fun p => V.str (S (tx p))
def ouV : Ou → V
  | .go => .non
  | .done => .str "done"
  | .cut => .str "cut"
  | .fail _ => .str "failed"
def loV : Ou → V
  | .fail c => .str (S [c])
  | _ => .non
def plF (D R L pa : Addr) (o : Ou) : List (Str × V) := [("kept_purses", .ref D), ("kept_row", .ref R), ("kept_happened", .ref L), ("kept_past", .ref pa), ("kept_outcome", ouV o), ("kept_loser", loV o)]
abbrev Mv := Str × Nat
structure StAt (k : Cs) (K : PySem.W.Frag) (G : Hp) (st : Pst) (D R L : Addr) : Prop where
  d : G D = some (.dK (pk st.pu))
  r : ∃ ts : List Addr, G R = some (.lst (ts.map V.ref)) ∧ MbsAt k K G st.row ts
  l : G L = some (.lst (hapV st.hap))
def PastAt (k : Cs) (K : PySem.W.Frag) (G : Hp) : List (Mv × Pst) → List Addr → Prop
  | [], ts => ts = []
  | (m, st) :: r, ts => ∃ t a D R L ss, ts = t :: ss ∧ G t = some (.tup [.ref a, .ref D, .ref R, .ref L]) ∧ G a = some (.tup [.str m.1, .int (m.2 : Int)]) ∧ StAt k K G st D R L ∧ PastAt k K G r ss
def PlAt (CY : Addr) (k : Cs) (K : PySem.W.Frag) (H : Hp) (x pa : Addr) (st : Pst) (past : List (Mv × Pst)) (o : Ou) : Prop := ∃ dy D R L ps, H x = some (.ins CY dy (plF D R L pa o)) ∧ H pa = some (.lst (ps.map V.ref)) ∧ StAt k K (cut2 H x pa) st D R L ∧ PastAt k K (cut2 H x pa) past ps
/-- all but the play and its list of moves -/
def Tw (x pa : Addr) (H H' : Hp) : Prop := Same (cut2 H x pa) (cut2 H' x pa)
structure PlA (K : PySem.W.Frag) (k : Cs) (CY : Addr) : Prop where
  cY : Cls K CY
  n1 : NoAttr K CY "kept_purses"
  n2 : NoAttr K CY "kept_row"
  n3 : NoAttr K CY "kept_happened"
  n4 : NoAttr K CY "kept_past"
  n5 : NoAttr K CY "kept_outcome"
  n6 : NoAttr K CY "kept_loser"
  df : CY ≠ k.T ∧ CY ≠ k.E ∧ CY ≠ k.C ∧ CY ≠ k.R ∧ CY ≠ k.N ∧ CY ≠ k.M ∧ CY ≠ k.P
section
variable {k : Cs} {K : PySem.W.Frag} {G G' H H' H2 : Hp} {x pa CY : Addr}
theorem StAt.mono (s : Same G G') {st : Pst} {D R L : Addr} (h : StAt k K G st D R L) : StAt k K G' st D R L := by
  obtain ⟨h1, ⟨ts, h2, h3⟩, h4⟩ := h
  exact ⟨s _ _ h1, ⟨ts, s _ _ h2, h3.mono s _ _⟩, s _ _ h4⟩
theorem PastAt.mono (s : Same G G') : ∀ (r : List (Mv × Pst)) (ts : List Addr), PastAt k K G r ts → PastAt k K G' r ts
  | [], ts, h => h
  | (m, st) :: r, ts, h => by
    obtain ⟨t, a, D, R, L, ss, h1, h2, h3, h4, h5⟩ := h
    exact ⟨t, a, D, R, L, ss, h1, s _ _ h2, s _ _ h3, h4.mono s, PastAt.mono s r ss h5⟩
theorem PastAt.len : ∀ (r : List (Mv × Pst)) (ts : List Addr), PastAt k K G r ts → ts.length = r.length
  | [], ts, h => by
    have h : ts = [] := h
    rw [h]; rfl
  | (m, st) :: r, ts, h => by
    obtain ⟨t, a, D, R, L, ss, rfl, h2, h3, h4, h5⟩ := h
    rw [List.length_cons, List.length_cons, PastAt.len r ss h5]
theorem PastAt.app : ∀ (r s : List (Mv × Pst)) (ts us : List Addr), PastAt k K G r ts → PastAt k K G s us → PastAt k K G (r ++ s) (ts ++ us)
  | [], s, ts, us, h, g => by
    have h : ts = [] := h
    rw [h]
    exact g
  | (m, st) :: r, s, ts, us, h, g => by
    obtain ⟨t, a, D, R, L, ss, rfl, h2, h3, h4, h5⟩ := h
    exact ⟨t, a, D, R, L, ss ++ us, rfl, h2, h3, h4, PastAt.app r s ss us h5 g⟩
theorem Tw.refl : Tw x pa H H := Same.refl _
theorem Tw.trans (s : Tw x pa H H') (t : Tw x pa H' H2) : Tw x pa H H2 := Same.trans s t
theorem tw_of (s : Same H H') : Tw x pa H H' := cut2_mono s
theorem tw_x {o : HO} : Tw x pa H (upd H x o) := cut2_x
theorem tw_p {o : HO} : Tw x pa H (upd H pa o) := cut2_p
/-- a play stands as before -/
theorem PlAt.mono (s : Same H H') {st : Pst} {past : List (Mv × Pst)} {o : Ou} (h : PlAt CY k K H x pa st past o) : PlAt CY k K H' x pa st past o := by
  obtain ⟨dy, D, R, L, ps, h1, h2, h3, h4⟩ := h
  exact ⟨dy, D, R, L, ps, s _ _ h1, s _ _ h2, h3.mono (cut2_mono s), h4.mono (cut2_mono s) _ _⟩
/-- members at a heap, without the play -/
theorem MbsAt.cut (s : SmR k K H G) (n : ∀ t o, H t = some o → (∃ xs, o = .tup xs) → G t = some o) : ∀ (r : List Mb) (ts : List Addr), MbsAt k K H r ts → MbsAt k K G r ts
  | [], ts, h => h
  | (p, o) :: r, ts, h => by
    obtain ⟨t, a, ss, h1, h2, h3, h4⟩ := h
    exact ⟨t, a, ss, h1, n _ _ h2 ⟨_, rfl⟩, h3.monoR s _ _, MbsAt.cut s n r ss h4⟩
theorem cut2_tup {CY dy : Addr} {fs : List (Str × V)} {ps : List V} (hx : H x = some (.ins CY dy fs)) (hp : H pa = some (.lst ps)) : ∀ t o, H t = some o → (∃ xs, o = .tup xs) → cut2 H x pa t = some o := fun t o h ⟨xs, e⟩ => by
  subst e
  exact cut2_of (fun e => by rw [e, hx] at h; cases h) (fun e => by rw [e, hp] at h; cases h) h
end
theorem tyT {K : PySem.W.Frag} {H : Hp} {a : Addr} {xs : List V} (h : SqT K H a xs) : TyX K H (.ref a) (.type "tuple") := by
  rcases h with (h | ⟨o, h⟩) | ⟨o, its, n, h1, h2, _⟩
  · exact .base (.tup h)
  · exact .fTuple h
  · exact .kTuple h1 h2
theorem isiX {K : PySem.W.Frag} {H : Hp} {x : V} {T c : String} {b : Bool} {R : Bool → Prop} (t : TyX K H x (.type T)) (h : kitB T c = some b) (q : R b) : ∃ (x' c' : V) (t' u' : Value) (b' : Bool), [x, .ty c] = [x', c'] ∧ ClsV c' u' ∧ TyX K H x' t' ∧ PySem.W.kitOne K t' u' = some b' ∧ R b' :=
  ⟨x, .ty c, .type T, .type c, b, rfl, .ty c, t, kit_ty h, q⟩
section
variable {P : Program} {w : World} {K : PySem.W.Frag} {mg : Str → Option Value} {base : Heap} {f C CY : Addr} {k : Cs} {fd : FuncData}
def spNi (k : Cs) (K : PySem.W.Frag) : Sp := fun vs H Q _ => ∃ (m t a : Addr) (p : Pt) (l : Option Nat) (n : Nat), vs = [.ref m, .ref t] ∧ H m = some (.tup [.str (mvS p), .int (n : Int)]) ∧ H t = some (.tup [.ref a, limV l]) ∧ PtAt k K H p a ∧ NOk p l n ∧ ∀ H', Same H H' → Q (.int (n : Int)) H'
theorem ok_number_in (F : FnP K "number_in" s_number_in f fd) (pa : PtA K k) (m_isinstance : mg "isinstance" = none) (m_tuple : mg "tuple" = none) (m_int : mg "int" = none) (m_len : mg "len" = none) (c_move_for : Cal P w K mg base 1 "move_for" (spMf k K)) : FnOk P w K mg base CX0 2 f fd P_number_in (spNi k K) := by
  refine F.ok sc_number_in (fun vs H Q E h => ?_) (fun cdv A outer s H vs Q E hr h => ?_)
  · obtain ⟨m, t, a, p, l, n, rfl, _⟩ := h
    rfl
  · obtain ⟨m, t, a, p, l, n, rfl, hm, ht, hp, hn, q⟩ := h
    refine ⟨_, PSs.nox (pss_cons (ps_asg (pv 1) (pg_tup rfl (pgs_cons (pg_name (i := 2) sc_number_in.nd rfl (by first | exact .inl rfl | exact .inr rfl)) (pgs_cons (pg_name (i := 3) sc_number_in.nd rfl (by first | exact .inl rfl | exact .inr rfl)) pgs_nil))))
      (pss_cons (ps_if (PW.pt (pw_or (pt_not (pt_val (pe_callB call_isi (by rfl) m_isinstance (by decide +kernel) (pa_cons (pv 0) (pa_cons (pe_bltn (v := .ty "tuple") (by rfl) m_tuple (by decide +kernel) rfl) pa_nil))))) (pw_or (pt_cmpR op_ne (pe_callB call_len_seq (by rfl) m_len PySem.boot_len (pa_cons (pv 0) pa_nil)) pe_int (nomark _)) (pw_or1 (pt_not (pt_val (pe_callB call_isi (by rfl) m_isinstance (by decide +kernel) (pa_cons (pe_ix ix_tup (pv 0) pe_int (fun _ _ => rfl)) (pa_cons (pe_bltn (v := .ty "int") (by rfl) m_int (by decide +kernel) rfl) pa_nil))))))))) (pss_one ps_never) pss_nil)
      (pss_cons (ps_asg (pv 0) (pg_tup rfl (pgs_cons (pg_name (i := 4) sc_number_in.nd rfl (by first | exact .inl rfl | exact .inr rfl)) (pgs_cons (pg_name (i := 5) sc_number_in.nd rfl (by first | exact .inl rfl | exact .inr rfl)) pgs_nil))))
      (pss_cons (ps_set (i := 6) sc_number_in.nd rfl (by first | exact .inl rfl | exact .inr rfl) (pe_ifExp (pt_cmpR op_eq (pe_con (pv 2) rfl) pe_str (nomark _)) (pe_op op_sub (pe_callB call_len_seq (by rfl) m_len PySem.boot_len (pa_cons (pe_fld (pv 2) rfl) pa_nil)) pe_int) (pv 3)))
      (pss_cons (ps_if (PW.pt (pw_or (pt_cmpR op_ne (pv 4) (pe_ix ix_tup (pe_cl c_move_for hr (by decide) (by rfl) (pa_cons (pv 2) (pa_cons pe_int pa_nil))) pe_int (fun _ _ => rfl)) (nomark _)) (pw_or (pt_cmpR op_lt (pv 5) pe_int (nomark _)) (pw_or1 (PW.pt (pw_and (pt_cmpR op_notN (pv 6) pe_non (nomark _)) (pw_and1 (pt_cmpR op_gt (pv 5) (pv 6) (nomark _))))))))) (pss_one ps_never) pss_nil)
      (pss_one (ps_ret (pv 5)))))))), ?_⟩
    obtain ⟨C, dx, fs, u, e1, e2, e3, e4⟩ := rd_kind pa hp
    walk_at "go"
    refine ⟨t, _, rfl, SqT.of ht, rfl, ?_⟩
    walk_at "go"
    refine isiX (c := "tuple") (b := true) (tyT (SqT.of hm)) (by decide +kernel) ?_
    walk_at "go"
    refine ⟨m, _, rfl, .inr (SqT.of hm), ?_⟩
    walk_at "go"
    refine ⟨m, _, _, _, rfl, rfl, SqT.of hm, at_1, ?_⟩
    walk_at "go"
    refine isi (c := "int") (b := true) (.int _) (by decide +kernel) ?_
    walk_at "go"
    refine ⟨m, _, rfl, SqT.of hm, rfl, ?_⟩
    walk_at "go"
    refine ⟨a, C, dx, fs, _, u, rfl, e1, e2, e3, e4, ?_⟩
    obtain ⟨h1, h2⟩ := hn
    cases p with
    | ch o os =>
      have hl := h1 o os rfl
      have hp0 := hp
      rw [PtAt] at hp
      obtain ⟨dy, t2, as, h, g2, g3⟩ := hp
      have la := PasAt.len _ _ g3
      walk_at "go"
      refine ⟨a, k.C, dy, _, _, rfl, h, pa.cC, pa.C2, rfl, ?_⟩
      walk_at "go"
      refine ⟨t2, _, rfl, .inr g2, ?_⟩
      rw [List.length_map, la]
      walk_at "go"
      refine ⟨a, _, 0, rfl, hp0, fun T nT => ?_⟩
      have s1 := same_new (o := .tup [V.str (mvS (.ch o os)), .int 0]) nT
      walk_at "go"
      refine ⟨T, _, _, _, rfl, rfl, SqT.of upd_same, at_0, ?_⟩
      walk_at "go"
      rw [decide_eq_false (show ¬ (os.length : Int) - 1 < (n : Int) by omega)]
      walk_at "go"
      exact q _ s1
    | tr p' q' m' =>
      have h3 := h2 nofun
      walk_at "go"
      refine ⟨a, _, 0, rfl, hp, fun T nT => ?_⟩
      have s1 := same_new (o := .tup [V.str (mvS (.tr p' q' m')), .int 0]) nT
      walk_at "go"
      refine ⟨T, _, _, _, rfl, rfl, SqT.of upd_same, at_0, ?_⟩
      walk_at "go"
      cases l with
      | none =>
        walk_at "go"
        exact q _ s1
      | some L =>
        have := h3 L rfl
        walk_at "go"
        rw [decide_eq_false (show ¬ (L : Int) < (n : Int) by omega)]
        walk_at "go"
        exact q _ s1
    | ev c =>
      have h3 := h2 nofun
      walk_at "go"
      refine ⟨a, _, 0, rfl, hp, fun T nT => ?_⟩
      have s1 := same_new (o := .tup [V.str (mvS (.ev c)), .int 0]) nT
      walk_at "go"
      refine ⟨T, _, _, _, rfl, rfl, SqT.of upd_same, at_0, ?_⟩
      walk_at "go"
      cases l with
      | none =>
        walk_at "go"
        exact q _ s1
      | some L =>
        have := h3 L rfl
        walk_at "go"
        rw [decide_eq_false (show ¬ (L : Int) < (n : Int) by omega)]
        walk_at "go"
        exact q _ s1
    | rd o b =>
      have h3 := h2 nofun
      walk_at "go"
      refine ⟨a, _, 0, rfl, hp, fun T nT => ?_⟩
      have s1 := same_new (o := .tup [V.str (mvS (.rd o b)), .int 0]) nT
      walk_at "go"
      refine ⟨T, _, _, _, rfl, rfl, SqT.of upd_same, at_0, ?_⟩
      walk_at "go"
      cases l with
      | none =>
        walk_at "go"
        exact q _ s1
      | some L =>
        have := h3 L rfl
        walk_at "go"
        rw [decide_eq_false (show ¬ (L : Int) < (n : Int) by omega)]
        walk_at "go"
        exact q _ s1
    | en b =>
      have h3 := h2 nofun
      walk_at "go"
      refine ⟨a, _, 0, rfl, hp, fun T nT => ?_⟩
      have s1 := same_new (o := .tup [V.str (mvS (.en b)), .int 0]) nT
      walk_at "go"
      refine ⟨T, _, _, _, rfl, rfl, SqT.of upd_same, at_0, ?_⟩
      walk_at "go"
      cases l with
      | none =>
        walk_at "go"
        exact q _ s1
      | some L =>
        have := h3 L rfl
        walk_at "go"
        rw [decide_eq_false (show ¬ (L : Int) < (n : Int) by omega)]
        walk_at "go"
        exact q _ s1
    | ti c b =>
      have h3 := h2 nofun
      walk_at "go"
      refine ⟨a, _, 0, rfl, hp, fun T nT => ?_⟩
      have s1 := same_new (o := .tup [V.str (mvS (.ti c b)), .int 0]) nT
      walk_at "go"
      refine ⟨T, _, _, _, rfl, rfl, SqT.of upd_same, at_0, ?_⟩
      walk_at "go"
      cases l with
      | none =>
        walk_at "go"
        exact q _ s1
      | some L =>
        have := h3 L rfl
        walk_at "go"
        rw [decide_eq_false (show ¬ (L : Int) < (n : Int) by omega)]
        walk_at "go"
        exact q _ s1
theorem cutV_tl {x : V} {xs : List V} : cutV (x :: xs) (some 1) none = xs := by
  unfold cutV
  rw [show (some (1 : Int)) = some ((1 : Nat) : Int) from rfl, HT.sIx_nat, show HT.sIx (x :: xs).length (x :: xs).length none = (x :: xs).length from rfl, Nat.min_eq_left (by rw [List.length_cons]; omega), List.drop_succ_cons, List.drop_zero, List.length_cons, Nat.add_sub_cancel, List.take_length]
theorem cutV_tlm {t : Addr} {ss : List Addr} : cutV ((t :: ss).map V.ref) (some 1) none = ss.map V.ref := cutV_tl
def spEr (CY : Addr) (k : Cs) (K : PySem.W.Frag) : Sp := fun vs H Q _ => ∃ (x q : Addr) (pu : Pu) (h : List Pt) (p : Pt) (l : Option Nat) (r : List Mb) (past : List (Mv × Pst)), vs = [.ref x] ∧ PlAt CY k K H x q ⟨pu, (p, l) :: r, h⟩ past .go ∧ r.length + 1 ≤ 10000000 ∧ ∀ H', Tw x q H H' → PlAt CY k K H' x q (erO ⟨pu, [], h⟩ p l r).1 past (erO ⟨pu, [], h⟩ p l r).2 → Q .non H'
theorem ok_end_rounds (F : FnM K "end_rounds" "Play.end_rounds" s_Play_end_rounds f fd) (pa : PtA K k) (py : PlA K k CY) : FnOk P w K mg base CX0 1 f fd P_Play_end_rounds (spEr CY k K) := by
  refine F.ok sc_Play_end_rounds (fun vs H Q E h => ?_) (fun cdv A outer s H vs Q E hr h => ?_)
  · obtain ⟨x, q, pu, h, p, l, r, past, rfl, _⟩ := h
    rfl
  · obtain ⟨x, q, pu, hh, p, l, r, past, rfl, ⟨dy, D, R, L, ps, hx, hq, ⟨g1, ⟨ts, g2, g3⟩, g4⟩, hP⟩, hl, qq⟩ := h
    obtain ⟨cY, n1, n2, n3, n4, n5, n6, df⟩ := py
    obtain ⟨t, a, ss, rfl, g5, g6, g7⟩ := g3
    have sG := cut2_same (H := H) (x := x) (p := q)
    have hR := sG _ _ g2
    have ht := sG _ _ g5
    have ha := g6.mono sG _ _
    have hq0 := hq
    obtain ⟨C, dx, fs, u, e1, e2, e3, e4⟩ := rd_kind pa ha
    refine ⟨_, PSs.nox (pss_one (ps_if (pt_cmpR op_eq (pe_con (pe_ix ix_tup (pe_ix ix_list (pe_fld (pv 0) rfl) pe_int (fun _ _ => rfl)) pe_int (fun _ _ => rfl)) rfl) pe_str (nomark _)) (pss_one (ps_fld (pv 0) pe_str rfl)) (pss_one (ps_fld (pv 0) (pe_slice sl_list (pe_fld (pv 0) rfl) (po_some pe_int) po_none) rfl)))), ?_⟩
    walk_at "go"
    refine ⟨R, _, _, _, rfl, rfl, SqL.of hR, at_0, ?_⟩
    walk_at "go"
    refine ⟨t, _, _, _, rfl, rfl, SqT.of ht, at_0, ?_⟩
    walk_at "go"
    refine ⟨a, C, dx, fs, _, u, rfl, e1, e2, e3, e4, ?_⟩
    by_cases c : isEn p = true
    · have ek : kdS p = "endless" := by cases p <;> first | rfl | cases c
      rw [ek]
      walk_at "go"
      refine ⟨x, CY, dy, _, rfl, hx, cY, n5, by show (6 : Nat) < 1000; decide, ?_⟩
      refine qq _ tw_x ?_
      unfold erO
      rw [if_pos c]
      exact ⟨dy, D, R, L, ps, upd_same, by rw [upd_ne (fun e => by rw [e, hx] at hq; cases hq)]; exact hq, (StAt.mk g1 ⟨_, g2, t, a, ss, rfl, g5, g6, g7⟩ g4).mono cut2_x, hP.mono cut2_x _ _⟩
    · have ek : decide (V.str (kdS p) = V.str "endless") = false := by cases p <;> first | rfl | exact absurd rfl c
      walk_at "go"
      rw [ek]
      walk_at "go"
      refine ⟨R, _, rfl, SqL.of hR, fun R2 nR2 => ?_⟩
      rw [cutV_tlm]
      have s2 := same_new (o := .lst (ss.map V.ref)) nR2
      have e2 : (upd H R2 (.lst (ss.map V.ref))) R2 = some (.lst (ss.map V.ref)) := upd_same
      generalize upd H R2 (.lst (ss.map V.ref)) = H2 at s2 e2 ⊢
      have hx := s2 _ _ hx
      have hq := s2 _ _ hq
      walk_at "go"
      refine ⟨x, CY, dy, _, rfl, hx, cY, n2, by show (6 : Nat) < 1000; decide, ?_⟩
      refine qq _ ((tw_of s2).trans tw_x) ?_
      unfold erO
      rw [if_neg c]
      have r2 := cut2_of (x := x) (p := q) (fun e => by rw [e, hx] at e2; cases e2) (fun e => by
        have : H q = none := by rw [← e]; exact nR2
        rw [this] at hq0
        cases hq0) e2
      have z := cut2_mono (x := x) (p := q) s2
      have st2 : StAt k K (cut2 H2 x q) ⟨pu, r, hh⟩ D R2 L := ⟨z _ _ g1, ⟨ss, r2, g7.mono z _ _⟩, z _ _ g4⟩
      exact ⟨dy, D, R2, L, ps, upd_same, by rw [upd_ne (fun e => by rw [e, hx] at hq; cases hq)]; exact hq, st2.mono cut2_x, (hP.mono z _ _).mono cut2_x _ _⟩
def lfs : Pt → List Pt
  | .tr a b m => [.tr a b m]
  | .ev c => [.ev c]
  | _ => []
theorem valV_pk : ∀ (pu : Pu) (c : Nat), valV (pk pu) (.inr (S [c])) = (cn pu c).map fun n => V.int (n : Int)
  | [], c => rfl
  | (a, n) :: pu, c => by
    have ih := valV_pk pu c
    by_cases e : a = c
    · subst e
      rw [show pk ((a, n) :: pu) = (.inr (S [a]), .int (n : Int)) :: pk pu from rfl, valV_pos rfl]
      unfold cn
      rw [List.find?_cons_of_pos (by simp)]
      rfl
    · rw [show pk ((a, n) :: pu) = (.inr (S [a]), .int (n : Int)) :: pk pu from rfl, valV_neg (fun z => e (by
        have z : (Sum.inr (S [a]) : L2.Key) = Sum.inr (S [c]) := z
        injection z with z
        have := S_inj z
        injection this)), ih]
      unfold cn
      rw [List.find?_cons_of_neg (by simp; exact e)]
theorem putK_pk (pu : Pu) (c n : Nat) {m : Nat} (h : cn pu c = some m) : putK (pk pu) (.inr (S [c])) (.int (n : Int)) = pk (sc pu c n) := by
  unfold putK
  rw [if_pos (by rw [valV_any, valV_pk, h]; rfl)]
  unfold pk sc
  rw [List.map_map, List.map_map]
  refine List.map_congr_left fun x _ => ?_
  show (if (Sum.inr (S [x.1]) : L2.Key) = Sum.inr (S [c]) then _ else _) = _
  by_cases e : x.1 = c
  · rw [if_pos (by rw [e])]
    simp only [Function.comp_apply, if_pos e]
  · rw [if_neg (fun z => e (by
      injection z with z
      have := S_inj z
      injection this))]
    simp only [Function.comp_apply, if_neg e]
theorem cn_sc (pu : Pu) (a n c : Nat) (h : (cn pu c).isSome = true) : (cn (sc pu a n) c).isSome = true := by
  unfold cn sc at *
  rw [Option.isSome_map] at h ⊢
  rw [List.find?_isSome] at h ⊢
  obtain ⟨y, hy, e⟩ := h
  refine ⟨if y.1 = a then (y.1, n) else y, List.mem_map.mpr ⟨y, hy, rfl⟩, ?_⟩
  split <;> exact e
theorem pk_len (pu : Pu) : (pk pu).length = pu.length := List.length_map _
theorem sc_len (pu : Pu) (c n : Nat) : (sc pu c n).length = pu.length := List.length_map _
theorem opn_len {p : Pt} (ok : Ok p) (hw : wt p ≤ 400) : (opn p).length ≤ 1000 := by
  cases p with
  | ti c b =>
    rw [Ok] at ok
    rw [wt] at hw
    have h4 : wtL b ≤ wtL b * (if c < 1 then 1 else c) := Nat.le_mul_of_pos_right _ (by split <;> omega)
    have lb := len_wt b
    match c with
    | 0 => rw [opn]; decide
    | 1 =>
      rw [opn]
      show (b.map _).length ≤ _
      rw [List.length_map]
      omega
    | c + 2 =>
      rw [opn, List.length_append]
      show (b.map _).length + 1 ≤ _
      rw [List.length_map]
      omega
  | _ => exact Nat.zero_le _
def spCa (CY : Addr) (k : Cs) (K : PySem.W.Frag) : Sp := fun vs H Q _ => ∃ (x q a : Addr) (pu : Pu) (h : List Pt) (p : Pt) (l : Option Nat) (r : List Mb) (past : List (Mv × Pst)), vs = [.ref x, .ref a] ∧ PlAt CY k K H x q ⟨pu, (p, l) :: r, h⟩ past .go ∧ PtAt k K H p a ∧ mover p = none ∧ Ok p ∧ wt p ≤ 400 ∧ dp p ≤ 30 ∧ (∀ a b m, p = .tr a b m → (cn pu a).isSome = true ∧ (cn pu b).isSome = true) ∧ pu.length ≤ 1000 ∧ r.length + h.length + 41000 ≤ 10000000 ∧ ∀ H', Tw x q H H' → PlAt CY k K H' x q (car pu h p l r).1 past (car pu h p l r).2 → Q .non H'
theorem ok_carry_out (F : FnM K "carry_out" "Play.carry_out" s_Play_carry_out f fd) (pa : PtA K k) (py : PlA K k CY) (m_dict : mg "dict" = none) (c_opened : Cal P w K mg base 7 "opened" (spOp k K)) : FnOk P w K mg base CX0 8 f fd P_Play_carry_out (spCa CY k K) := by
  refine F.ok sc_Play_carry_out (fun vs H Q E h => ?_) (fun cdv A outer s H vs Q E hr h => ?_)
  · obtain ⟨x, q, a, pu, h, p, l, r, past, rfl, _⟩ := h
    rfl
  · obtain ⟨x, q, a, pu, hh, p, l, r, past, rfl, ⟨dy, D, R, L, ps, hx, hq, ⟨g1, ⟨ts, g2, g3⟩, g4⟩, hP⟩, ha, hm, ok, hw, hd, hk, hpu, hl, qq⟩ := h
    obtain ⟨cY, n1, n2, n3, n4, n5, n6, df⟩ := id py
    obtain ⟨t, a', ss, rfl, g5, g6, g7⟩ := g3
    have sG := cut2_same (H := H) (x := x) (p := q)
    have hD := sG _ _ g1
    have hR := sG _ _ g2
    have hL := sG _ _ g4
    obtain ⟨C, dx, fs, u, e1, e2, e3, e4⟩ := rd_kind pa ha
    have hG := cut2_r (K := K) df hx hq
    have hqx : q ≠ x := fun e => by rw [e, hx] at hq; cases hq
    have aG := ha.monoR hG _ _
    refine ⟨_, PSs.nox (pss_cut (ps_if (pt_cmpR op_eq (pe_con (pv 1) rfl) pe_str (nomark _)) (pss_cons (ps_if (pt_cmpR op_lt (pe_dget (hu_of hr) (pe_fld (pv 0) rfl) (pe_fld (pv 1) rfl) (fun _ _ => rfl)) (pe_fld (pv 1) rfl) (nomark _)) (pss_cons (ps_fld (pv 0) pe_str rfl)
      (pss_cons (ps_fld (pv 0) (pe_fld (pv 1) rfl) rfl)
      (pss_one ps_retN))) pss_nil)
      (pss_cons (ps_set (i := 2) sc_Play_carry_out.nd rfl (by first | exact .inl rfl | exact .inr rfl) (pe_callTy call_dictD (by rfl) m_dict (by decide +kernel) (pa_cons (pe_fld (pv 0) rfl) pa_nil)))
      (pss_cons (ps_dput (hu_of hr) (pv 2) (pe_fld (pv 1) rfl) (pe_op op_sub (pe_dget (hu_of hr) (pv 2) (pe_fld (pv 1) rfl) (fun _ _ => rfl)) (pe_fld (pv 1) rfl)) rfl)
      (pss_cons (ps_dput (hu_of hr) (pv 2) (pe_fld (pv 1) rfl) (pe_op op_add (pe_dget (hu_of hr) (pv 2) (pe_fld (pv 1) rfl) (fun _ _ => rfl)) (pe_fld (pv 1) rfl)) rfl)
      (pss_one (ps_fld (pv 0) (pv 2) rfl)))))) pss_nil)
      (pss_cut (ps_if (PW.pt (pw_or (pt_cmpR op_eq (pe_con (pv 1) rfl) pe_str (nomark _)) (pw_or1 (pt_cmpR op_eq (pe_con (pv 1) rfl) pe_str (nomark _))))) (pss_one (ps_fld (pv 0) (pe_op op_cat (pe_fld (pv 0) rfl) (pe_lst (pa_cons (pe_fld (pv 1) rfl) pa_nil))) rfl)) pss_nil)
      (pss_one (ps_fld (pv 0) (pe_op op_cat (pe_cl c_opened hr (by decide) (by rfl) (pa_cons (pv 1) pa_nil)) (pe_slice sl_list (pe_fld (pv 0) rfl) (po_some pe_int) po_none)) rfl)))), ?_⟩
    walk_at "go"
    refine ⟨fun σ J => ∃ (pu' : Pu) (v2 : Option V), Tw x q H J ∧ PlAt CY k K J x q ⟨pu', (p, l) :: r, hh⟩ past .go ∧ car pu hh p l r = (⟨pu', opn p ++ r, hh ++ lfs p⟩, .go) ∧ σ = [some (.ref x), some (.ref a), v2], ?_, ?_⟩
    · walk_at "go"
      refine ⟨a, C, dx, fs, _, u, rfl, e1, e2, e3, e4, ?_⟩
      have hp0 : PlAt CY k K H x q ⟨pu, (p, l) :: r, hh⟩ past .go := ⟨dy, D, R, L, ps, hx, hq, ⟨g1, ⟨t :: ss, g2, t, a', ss, rfl, g5, g6, g7⟩, g4⟩, hP⟩
      cases p with
      | ch o os => cases hm
      | rd o b => cases hm
      | en b => cases hm
      | ev c =>
        walk_at "go"
        exact ⟨pu, none, Tw.refl, hp0, rfl, rfl⟩
      | ti c b =>
        walk_at "go"
        exact ⟨pu, none, Tw.refl, hp0, by rw [show lfs (.ti c b) = [] from rfl, List.append_nil]; rfl, rfl⟩
      | tr p' q' m =>
        obtain ⟨hc1, hc2⟩ := hk p' q' m rfl
        obtain ⟨n, ec⟩ := Option.isSome_iff_exists.mp hc1
        rw [PtAt] at ha
        obtain ⟨dt, ha⟩ := ha
        walk_at "go"
        refine ⟨a, k.T, dt, _, _, rfl, ha, pa.cT, pa.T1, rfl, ?_⟩
        walk_at "go"
        have dg : DGet H D (.str (S [p'])) (some (.int (n : Int))) := by
          have z := DGet.k (k := .inr (S [p'])) hD
          rw [valV_pk, ec] at z
          exact z
        refine ⟨D, _, rfl, dg, ?_⟩
        walk_at "go"
        refine ⟨a, k.T, dt, _, _, rfl, ha, pa.cT, pa.T3, rfl, ?_⟩
        walk_at "go"
        have nax : a ≠ x := fun e => by
          rw [e, hx] at ha
          cases ha
        obtain ⟨n', ec'⟩ : ∃ n', cn (sc pu p' (n - m)) q' = some n' := Option.isSome_iff_exists.mp (cn_sc pu p' (n - m) q' hc2)
        refine ite2 (fun e => ?_) (fun e => ?_)
        · have lt : n < m := by have := of_decide_eq_true e; omega
          walk_at "go"
          refine ⟨x, CY, dy, _, rfl, hx, cY, n5, by show (6 : Nat) < 1000; decide, ?_⟩
          walk_at "go"
          refine ⟨a, k.T, dt, _, _, rfl, by rw [upd_ne nax]; exact ha, pa.cT, pa.T1, rfl, ?_⟩
          walk_at "go"
          refine ⟨x, CY, dy, _, rfl, upd_same, cY, n6, by show (6 : Nat) < 1000; decide, ?_⟩
          refine qq _ (tw_x.trans tw_x) ?_
          unfold car
          dsimp only
          rw [ec]
          dsimp only
          rw [if_pos lt]
          have st0 : StAt k K (cut2 H x q) ⟨pu, (.tr p' q' m, l) :: r, hh⟩ D R L := ⟨g1, ⟨t :: ss, g2, t, a', ss, rfl, g5, g6, g7⟩, g4⟩
          exact ⟨dy, D, R, L, ps, upd_same, by rw [upd_ne hqx, upd_ne hqx]; exact hq, st0.mono (cut2_x.trans cut2_x), hP.mono (cut2_x.trans cut2_x) _ _⟩
        · have ge : m ≤ n := by
            have : ¬ (n : Int) < (m : Int) := fun z => e (decide_eq_true z)
            omega
          walk_at "go"
          refine ⟨D, _, rfl, .inl hD, fun D1 nD1 => ?_⟩
          have s1 := same_new (o := .dK (pk pu)) nD1
          have d1 : (upd H D1 (.dK (pk pu))) D1 = some (.dK (pk pu)) := upd_same
          generalize upd H D1 (.dK (pk pu)) = H1 at s1 d1 ⊢
          walk_at "go"
          refine ⟨a, k.T, dt, _, _, rfl, s1 _ _ ha, pa.cT, pa.T1, rfl, ?_⟩
          have dg1 : DGet H1 D1 (.str (S [p'])) (some (.int (n : Int))) := by
            have z := DGet.k (k := .inr (S [p'])) d1
            rw [valV_pk, ec] at z
            exact z
          walk_at "go"
          refine ⟨D1, _, rfl, dg1, ?_⟩
          walk_at "go"
          refine ⟨a, k.T, dt, _, _, rfl, s1 _ _ ha, pa.cT, pa.T3, rfl, ?_⟩
          walk_at "go"
          refine ⟨a, k.T, dt, _, _, rfl, s1 _ _ ha, pa.cT, pa.T1, rfl, ?_⟩
          have pt1 : DPut H1 D1 (.str (S [p'])) (.int ((n : Int) - (m : Int))) (upd H1 D1 (.dK (pk (sc pu p' (n - m))))) := by
            have z := DPut.k (k := .inr (S [p'])) (v := .int ((n - m : Nat) : Int)) d1 (by rw [pk_len]; exact Nat.lt_of_le_of_lt hpu (by decide))
            rw [putK_pk _ _ _ ec] at z
            rw [show (n : Int) - (m : Int) = ((n - m : Nat) : Int) by omega]
            exact z
          refine ⟨D1, _, rfl, pt1, ?_⟩
          have s2 : Same H (upd H1 D1 (.dK (pk (sc pu p' (n - m))))) := Z.Same.mut s1 nD1
          have d2 : (upd H1 D1 (.dK (pk (sc pu p' (n - m))))) D1 = some (.dK (pk (sc pu p' (n - m)))) := upd_same
          generalize upd H1 D1 (.dK (pk (sc pu p' (n - m)))) = H2 at s2 d2 ⊢
          clear s1 d1 dg1 pt1
          walk_at "go"
          refine ⟨a, k.T, dt, _, _, rfl, s2 _ _ ha, pa.cT, pa.T2, rfl, ?_⟩
          have dg2 : DGet H2 D1 (.str (S [q'])) (some (.int (n' : Int))) := by
            have z := DGet.k (k := .inr (S [q'])) d2
            rw [valV_pk, ec'] at z
            exact z
          walk_at "go"
          refine ⟨D1, _, rfl, dg2, ?_⟩
          walk_at "go"
          refine ⟨a, k.T, dt, _, _, rfl, s2 _ _ ha, pa.cT, pa.T3, rfl, ?_⟩
          walk_at "go"
          refine ⟨a, k.T, dt, _, _, rfl, s2 _ _ ha, pa.cT, pa.T2, rfl, ?_⟩
          have pt2 : DPut H2 D1 (.str (S [q'])) (.int ((n' : Int) + (m : Int))) (upd H2 D1 (.dK (pk (sc (sc pu p' (n - m)) q' (n' + m))))) := by
            have z := DPut.k (k := .inr (S [q'])) (v := .int ((n' + m : Nat) : Int)) d2 (by rw [pk_len, sc_len]; exact Nat.lt_of_le_of_lt hpu (by decide))
            rw [putK_pk _ _ _ ec'] at z
            exact z
          refine ⟨D1, _, rfl, pt2, ?_⟩
          have s3 : Same H (upd H2 D1 (.dK (pk (sc (sc pu p' (n - m)) q' (n' + m))))) := Z.Same.mut s2 nD1
          have d3 : (upd H2 D1 (.dK (pk (sc (sc pu p' (n - m)) q' (n' + m))))) D1 = some (.dK (pk (sc (sc pu p' (n - m)) q' (n' + m)))) := upd_same
          generalize upd H2 D1 (.dK (pk (sc (sc pu p' (n - m)) q' (n' + m)))) = H3 at s3 d3 ⊢
          clear s2 d2 dg2 pt2
          have hx3 := s3 _ _ hx
          have hq3 := s3 _ _ hq
          walk_at "go"
          refine ⟨x, CY, dy, _, rfl, hx3, cY, n1, by show (6 : Nat) < 1000; decide, ?_⟩
          have z := cut2_mono (x := x) (p := q) s3
          have dG := cut2_new nD1 hx hq d3
          have st3 : StAt k K (cut2 H3 x q) ⟨sc (sc pu p' (n - m)) q' (n' + m), (.tr p' q' m, l) :: r, hh⟩ D1 R L := ⟨dG, ⟨t :: ss, z _ _ g2, t, a', ss, rfl, z _ _ g5, g6.mono z _ _, g7.mono z _ _⟩, z _ _ g4⟩
          refine ⟨sc (sc pu p' (n - m)) q' (n' + m), some (.ref D1), (tw_of s3).trans tw_x, ⟨dy, D1, R, L, ps, upd_same, by rw [upd_ne hqx]; exact hq3, st3.mono cut2_x, (hP.mono z _ _).mono cut2_x _ _⟩, ?_, rfl⟩
          unfold car
          dsimp only
          rw [ec]
          dsimp only
          rw [if_neg (by omega), ec']
          rfl
    clear hP g1 g2 g4 g5 g6 g7 sG hD hR hL hx hq
    rintro σ J ⟨pu', v2, tw, pl, ecar, rfl⟩
    have lfl : (lfs p).length ≤ 1 := by cases p <;> first | exact Nat.le_refl 1 | exact Nat.zero_le 1
    walk_at "go"
    refine ⟨fun σ J => ∃ (v2 : Option V), Tw x q H J ∧ PlAt CY k K J x q ⟨pu', (p, l) :: r, hh ++ lfs p⟩ past .go ∧ σ = [some (.ref x), some (.ref a), v2], ?_, ?_⟩
    · obtain ⟨dy, D, R, L, ps, hx, hq, ⟨g1, ⟨ts, g2, g3⟩, g4⟩, hP⟩ := id pl
      clear hqx
      have hqx : q ≠ x := fun e => by rw [e, hx] at hq; cases hq
      have aJ : PtAt k K J p a := (aG.mono tw _ _).mono cut2_same _ _
      clear e1 e2 e3 e4
      obtain ⟨C, dx, fs, u, e1, e2, e3, e4⟩ := rd_kind pa aJ
      walk_at "go"
      refine ⟨a, C, dx, fs, _, u, rfl, e1, e2, e3, e4, ?_⟩
      cases p with
      | ch o os => cases hm
      | rd o b => cases hm
      | en b => cases hm
      | ti c b =>
        walk_at "go"
        refine ⟨a, C, dx, fs, _, u, rfl, e1, e2, e3, e4, ?_⟩
        walk_at "go"
        exact ⟨v2, tw, by rw [show lfs (.ti c b) = [] from rfl, List.append_nil]; exact pl, rfl⟩
      | tr p' q' m =>
        rw [PtAt] at aJ
        obtain ⟨dt, ha⟩ := aJ
        walk_at "go"
        refine ⟨a, k.T, dt, _, _, rfl, ha, pa.cT, pa.tT, rfl, ?_⟩
        walk_at "go"
        intro M nM
        generalize eH_ : upd J M _ = H1
        have s1 : Same J H1 := by rw [← eH_]; exact same_new nM
        have eM : H1 M = some (.lst [.str (S (tx (.tr p' q' m)))]) := by rw [← eH_]; exact upd_same
        clear eH_
        walk_at "go"
        refine ⟨L, M, _, _, rfl, rfl, s1 _ _ (cut2_same _ _ g4), eM, szl3 (by unfold hapV; rw [List.length_map]; show hh.length + 1 ≤ _; omega), fun L2 nL2 => ?_⟩
        have s2 := same_new (o := .lst (hapV hh ++ [.str (S (tx (.tr p' q' m)))])) nL2
        have e2 : (upd H1 L2 (.lst (hapV hh ++ [.str (S (tx (.tr p' q' m)))]))) L2 = some (.lst (hapV (hh ++ lfs (.tr p' q' m)))) := by
          rw [upd_same]
          unfold hapV
          rw [List.map_append]
          rfl
        generalize upd H1 L2 (.lst (hapV hh ++ [.str (S (tx (.tr p' q' m)))])) = H2 at s2 e2 ⊢
        have s12 := s1.trans s2
        have hx2 := s12 _ _ hx
        have hq2 := s12 _ _ hq
        walk_at "go"
        refine ⟨x, CY, dy, _, rfl, hx2, cY, n3, by show (6 : Nat) < 1000; decide, ?_⟩
        have z := cut2_mono (x := x) (p := q) s12
        have lG := cut2_new (Same.back s1 nL2) hx hq e2
        have st2 : StAt k K (cut2 H2 x q) ⟨pu', ((.tr p' q' m), l) :: r, hh ++ lfs (.tr p' q' m)⟩ D R L2 := ⟨z _ _ g1, ⟨ts, z _ _ g2, g3.mono z _ _⟩, lG⟩
        exact ⟨v2, (tw.trans (tw_of s12)).trans tw_x, ⟨dy, D, R, L2, ps, upd_same, by rw [upd_ne hqx]; exact hq2, st2.mono cut2_x, (hP.mono z _ _).mono cut2_x _ _⟩, rfl⟩
      | ev c =>
        rw [PtAt] at aJ
        obtain ⟨dt, ha⟩ := aJ
        walk_at "go"
        refine ⟨a, C, dx, fs, _, u, rfl, e1, e2, e3, e4, ?_⟩
        walk_at "go"
        refine ⟨a, k.E, dt, _, _, rfl, ha, pa.cE, pa.tE, rfl, ?_⟩
        walk_at "go"
        intro M nM
        generalize eH_ : upd J M _ = H1
        have s1 : Same J H1 := by rw [← eH_]; exact same_new nM
        have eM : H1 M = some (.lst [.str (S (tx (.ev c)))]) := by rw [← eH_]; exact upd_same
        clear eH_
        walk_at "go"
        refine ⟨L, M, _, _, rfl, rfl, s1 _ _ (cut2_same _ _ g4), eM, szl3 (by unfold hapV; rw [List.length_map]; show hh.length + 1 ≤ _; omega), fun L2 nL2 => ?_⟩
        have s2 := same_new (o := .lst (hapV hh ++ [.str (S (tx (.ev c)))])) nL2
        have e2 : (upd H1 L2 (.lst (hapV hh ++ [.str (S (tx (.ev c)))]))) L2 = some (.lst (hapV (hh ++ lfs (.ev c)))) := by
          rw [upd_same]
          unfold hapV
          rw [List.map_append]
          rfl
        generalize upd H1 L2 (.lst (hapV hh ++ [.str (S (tx (.ev c)))])) = H2 at s2 e2 ⊢
        have s12 := s1.trans s2
        have hx2 := s12 _ _ hx
        have hq2 := s12 _ _ hq
        walk_at "go"
        refine ⟨x, CY, dy, _, rfl, hx2, cY, n3, by show (6 : Nat) < 1000; decide, ?_⟩
        have z := cut2_mono (x := x) (p := q) s12
        have lG := cut2_new (Same.back s1 nL2) hx hq e2
        have st2 : StAt k K (cut2 H2 x q) ⟨pu', ((.ev c), l) :: r, hh ++ lfs (.ev c)⟩ D R L2 := ⟨z _ _ g1, ⟨ts, z _ _ g2, g3.mono z _ _⟩, lG⟩
        exact ⟨v2, (tw.trans (tw_of s12)).trans tw_x, ⟨dy, D, R, L2, ps, upd_same, by rw [upd_ne hqx]; exact hq2, st2.mono cut2_x, (hP.mono z _ _).mono cut2_x _ _⟩, rfl⟩
    clear pl
    rintro σ J2 ⟨v2, tw, pl, rfl⟩
    obtain ⟨dy, D, R, L, ps, hx, hq, ⟨g1, ⟨ts, g2, g3⟩, g4⟩, hP⟩ := pl
    obtain ⟨t, a', ss, rfl, g5, g6, g7⟩ := g3
    have aJ : PtAt k K J2 p a := (aG.mono tw _ _).mono cut2_same _ _
    walk_at "go"
    refine ⟨a, p, rfl, aJ, ok, hw, hd, fun R1 us H1 s1 ⟨w1, w2, w3, w4⟩ => ?_⟩
    have hx1 := s1 _ _ hx
    have hq1 := s1 _ _ hq
    walk_at "go"
    refine ⟨R, _, rfl, SqL.of (s1 _ _ (cut2_same _ _ g2)), fun R2 nR2 => ?_⟩
    rw [cutV_tlm]
    have s2 := same_new (o := .lst (ss.map V.ref)) nR2
    have e2 : (upd H1 R2 (.lst (ss.map V.ref))) R2 = some (.lst (ss.map V.ref)) := upd_same
    generalize upd H1 R2 (.lst (ss.map V.ref)) = H2 at s2 e2 ⊢
    walk_at "go"
    have lu := MbsAt.len _ _ w4
    have ls := MbsAt.len _ _ g7
    have lo := opn_len ok hw
    refine ⟨R1, R2, _, _, rfl, rfl, s2 _ _ w2, e2, szl3 (by rw [List.length_map, List.length_map, lu, ls]; omega), fun R3 nR3 => ?_⟩
    have s3 := same_new (o := .lst (us.map V.ref ++ ss.map V.ref)) nR3
    have e3 : (upd H2 R3 (.lst (us.map V.ref ++ ss.map V.ref))) R3 = some (.lst ((us ++ ss).map V.ref)) := by rw [upd_same, List.map_append]
    generalize upd H2 R3 (.lst (us.map V.ref ++ ss.map V.ref)) = H3 at s3 e3 ⊢
    have s13 := (s1.trans s2).trans s3
    have hx3 := s13 _ _ hx
    have hq3 := s13 _ _ hq
    have hqx : q ≠ x := fun e => by rw [e, hx] at hq; cases hq
    walk_at "go"
    refine ⟨x, CY, dy, _, rfl, hx3, cY, n2, by show (6 : Nat) < 1000; decide, ?_⟩
    refine qq _ ((tw.trans (tw_of s13)).trans tw_x) ?_
    rw [ecar]
    have z := cut2_mono (x := x) (p := q) s13
    have rG := cut2_new (Same.back (s1.trans s2) nR3) hx hq e3
    have w5 : MbsAt k K (cut2 H3 x q) (opn p) us := MbsAt.cut (cut2_r df hx3 hq3) (cut2_tup hx3 hq3) _ _ (w4.mono (s2.trans s3) _ _)
    have st3 : StAt k K (cut2 H3 x q) ⟨pu', opn p ++ r, hh ++ lfs p⟩ D R3 L := ⟨z _ _ g1, ⟨us ++ ss, rG, MbsAt.app _ _ _ _ w5 (g7.mono z _ _)⟩, z _ _ g4⟩
    exact ⟨dy, D, R3, L, ps, upd_same, by rw [upd_ne hqx]; exact hq3, st3.mono cut2_x, (hP.mono z _ _).mono cut2_x _ _⟩
end
end Z
set_option pp.maxSteps 700
set_option Elab.async false
set_option linter.all false
set_option maxRecDepth 100000
set_option maxHeartbeats 4000000
open SX (S S_inj S_len S_cat)
namespace Z
open Pk NdefX
open PySem PySem.Spec PyProof.Rows L2
open C8 (pss_cut tCut)
local macro_rules | `(tactic| walk_at "num") => `(tactic| first | rfl | omega | decide | exact Nat.le_of_lt (small1000 (by simp)) | exact ⟨by omega, by omega⟩ | exact ⟨by omega, by omega, by omega⟩ | exact ⟨by decide, by decide, by decide⟩ | exact Or.inl ⟨by omega, by omega⟩ | exact Or.inr ⟨by omega, by omega⟩)
local macro_rules | `(tactic| walk_at "go") => `(tactic| repeat (first | refine ⟨_, rfl, ?_⟩ | refine ⟨_, _, rfl, rfl, ?_⟩ | refine ⟨_, _, rfl, ?_⟩ | (refine ⟨_, _, rfl, rfl, ?_, ?_⟩; focus walk_at "num") | refine Or.inl ⟨_, rfl, ?_⟩ | refine ⟨_, _, _, _, rfl, rfl, (by assumption), (by rfl), ?_⟩ | refine ⟨_, _, _, _, _, rfl, (by assumption), (by assumption), (by assumption), (by rfl), ?_⟩ | refine ⟨rfl, ?_⟩ | (refine And.intro ?_ ?_; focus walk_at "num")))
abbrev s_Play_settle : Stmt := inClass (topS 45) 4
abbrev N_Play_settle : List Str := ["self"]
abbrev P_Play_settle : List Str := ["self"]
theorem sc_Play_settle : FnScope N_Play_settle P_Play_settle (defScope s_Play_settle) := ⟨rfl, rfl, rfl, by decide +kernel, rfl, by decide +kernel, by decide +kernel⟩
section
variable {P : Program} {w : World} {K : PySem.W.Frag} {mg : Str → Option Value} {base : Heap} {f C CY : Addr} {k : Cs} {fd : FuncData}
/-- what settling gives: all go on from .go, nothing else changes -/
def Res (ks : List Nat) (N : Nat) (st : Pst) (o : Ou) (st' : Pst) (o' : Ou) : Prop := GSt ks N st' ∧ (match o with
  | .go => Stl st st' o'
  | o => st' = st ∧ o' = o)
def spSt (CY : Addr) (k : Cs) (K : PySem.W.Frag) : Sp := fun vs H Q _ => ∃ (x q : Addr) (ks : List Nat) (N : Nat) (st : Pst) (o : Ou) (past : List (Mv × Pst)), vs = [.ref x] ∧ PlAt CY k K H x q st past o ∧ GSt ks N st ∧ ks.length ≤ 1000 ∧ N ≤ 9900000 ∧ ∀ H' st' o', Tw x q H H' → PlAt CY k K H' x q st' past o' → Res ks N st o st' o' → Q .non H'
def StlW (CY : Addr) (k : Cs) (K : PySem.W.Frag) (H : Hp) (x q : Addr) (ks : List Nat) (N : Nat) (st : Pst) (o : Ou) (past : List (Mv × Pst)) (m : Nat) (σ : L2.St) (J : Hp) : Prop := ∃ (st1 : Pst) (o1 : Ou), Tw x q H J ∧ PlAt CY k K J x q st1 past o1 ∧ GSt ks N st1 ∧ (∀ st' o', Res ks N st1 o1 st' o' → Res ks N st o st' o') ∧ m = (match o1 with | .go => mu st1.row + 1 | _ => 0) ∧ σ = [some (.ref x)]
theorem ok_settle (F : FnM K "settle" "Play.settle" s_Play_settle f fd) (pa : PtA K k) (py : PlA K k CY) (m_len : mg "len" = none) (c_mover_of : Cal P w K mg base 1 "mover_of" (spMv k K)) (me_end_rounds : Met P w K mg base 1 CY "end_rounds" (spEr CY k K)) (me_carry_out : Met P w K mg base 8 CY "carry_out" (spCa CY k K)) : FnOk P w K mg base CX0 9 f fd P_Play_settle (spSt CY k K) := by
  refine F.ok sc_Play_settle (fun vs H Q E h => ?_) (fun cdv A outer s H vs Q E hr h => ?_)
  · obtain ⟨x, q, ks, N, st, o, past, rfl, _⟩ := h
    rfl
  · obtain ⟨x, q, ks, N, st, o, past, rfl, pl, gs, hks, hN, qq⟩ := h
    obtain ⟨cY, n1, n2, n3, n4, n5, n6, df⟩ := id py
    refine ⟨_, PSs.nox (pss_one (ps_while PassesOwn.never (pt_cmpR op_isN (pe_fld (pv 0) rfl) pe_non (nomark _))
        (pss_one (ps_if (pt_cmpR op_eq (pe_callB call_len_seq (by rfl) m_len PySem.boot_len (pa_cons (pe_fld (pv 0) rfl) pa_nil)) pe_int (nomark _)) (pss_one (ps_fld (pv 0) pe_str rfl)) (pss_one (ps_if (pt_cmpR op_eq (pe_ix ix_tup (pe_ix ix_list (pe_fld (pv 0) rfl) pe_int (fun _ _ => rfl)) pe_int (fun _ _ => rfl)) pe_int (nomark _)) (pss_one (ps_expr (pe_me0 me_end_rounds (pv 0) hr (by decide)))) (pss_one (ps_if (pt_cmpR op_isN (pe_cl c_mover_of hr (by decide) (by rfl) (pa_cons (pe_ix ix_tup (pe_ix ix_list (pe_fld (pv 0) rfl) pe_int (fun _ _ => rfl)) pe_int (fun _ _ => rfl)) pa_nil)) pe_non (nomark _)) (pss_one (ps_expr (pe_me me_carry_out (pv 0) hr (by decide) (pa_cons (pe_ix ix_tup (pe_ix ix_list (pe_fld (pv 0) rfl) pe_int (fun _ _ => rfl)) pe_int (fun _ _ => rfl)) pa_nil)))) (pss_one ps_break))))))))), ?_⟩
    refine ⟨StlW CY k K H x q ks N st o past, ⟨_, st, o, Tw.refl, pl, gs, fun _ _ h => h, rfl, rfl⟩, ?_⟩
    rintro m σ J ⟨st1, o1, tw, pl, gs, back, rfl, rfl⟩
    obtain ⟨dy, D, R, L, ps, hx, hq, ⟨g1, ⟨ts, g2, g3⟩, g4⟩, hP⟩ := id pl
    cases o1 with
    | done =>
      walk_at "go"
      exact qq J st1 .done tw pl (back _ _ ⟨gs, rfl, rfl⟩)
    | cut =>
      walk_at "go"
      exact qq J st1 .cut tw pl (back _ _ ⟨gs, rfl, rfl⟩)
    | fail c =>
      walk_at "go"
      exact qq J st1 (.fail c) tw pl (back _ _ ⟨gs, rfl, rfl⟩)
    | go =>
      walk_at "go"
      refine ⟨fun σ' J' => ∃ m', m' < mu st1.row + 1 ∧ StlW CY k K H x q ks N st o past m' σ' J', fun _ _ h => h, ?_⟩
      have sG := cut2_same (H := J) (x := x) (p := q)
      have hR := sG _ _ g2
      have lt := MbsAt.len _ _ g3
      walk_at "go"
      refine ⟨R, _, rfl, .inl (SqL.of hR), ?_⟩
      rw [List.length_map, lt]
      have hqx : q ≠ x := fun e => by rw [e, hx] at hq; cases hq
      obtain ⟨pu, row, hh⟩ := st1
      have hsz := gs.sz
      cases row with
      | nil =>
        walk_at "go"
        refine ⟨x, CY, dy, _, rfl, hx, cY, n5, by show (6 : Nat) < 1000; decide, ?_⟩
        have st0 : StAt k K (cut2 J x q) ⟨pu, [], hh⟩ D R L := ⟨g1, ⟨ts, g2, g3⟩, g4⟩
        exact ⟨0, Nat.succ_pos _, ⟨pu, [], hh⟩, .done, tw.trans tw_x, ⟨dy, D, R, L, ps, upd_same, by rw [upd_ne hqx]; exact hq, st0.mono cut2_x, hP.mono cut2_x _ _⟩, gs, fun st' o' ⟨z1, z2, z3⟩ => back _ _ ⟨z1, by rw [z2, z3]; exact .done⟩, rfl, rfl⟩
      | cons mb r =>
        obtain ⟨p, l⟩ := mb
        obtain ⟨t, a, ss, rfl, g5, g6, g7⟩ := g3
        have ht := sG _ _ g5
        have ha := g6.mono sG _ _
        have hml := mu_len r
        have emu : mu ((p, l) :: r) = ms p + mu r := by rw [mu]
        have hpos := ms_pos p
        have hsz : ms p + mu r + hh.length ≤ N := by rw [← emu]; exact hsz
        walk_at "go"
        refine ⟨R, _, _, _, rfl, rfl, SqL.of hR, at_0, ?_⟩
        walk_at "go"
        refine ⟨t, _, _, _, rfl, rfl, SqT.of ht, at_1, ?_⟩
        by_cases e0 : l = some 0
        · subst e0
          walk_at "go"
          refine ⟨x, dy, _, rfl, hx, rfl, ?_⟩
          refine ⟨x, q, pu, hh, p, some 0, r, past, rfl, pl, by omega, fun H' tw2 pl2 => ?_⟩
          unfold erO at pl2
          by_cases c : isEn p = true
          · rw [if_pos c] at pl2
            refine ⟨0, Nat.succ_pos _, _, .cut, tw.trans tw2, pl2, gs, fun st' o' ⟨z1, z2, z3⟩ => back _ _ ⟨z1, ?_⟩, rfl, rfl⟩
            rw [z2, z3]
            cases p with
            | en b => exact .cut
            | _ => cases c
          · rw [if_neg c] at pl2
            have c : isEn p = false := by
              cases e : isEn p with
              | true => exact absurd e c
              | false => rfl
            refine ⟨mu r + 1, by show mu r + 1 < mu ((p, some 0) :: r) + 1; omega, _, .go, tw.trans tw2, pl2, ⟨rok_tl gs.rok, fun m hm => gs.nm m (List.mem_cons_of_mem _ hm), by show mu r + hh.length ≤ N; omega, gs.ky⟩, fun st' o' ⟨z1, z2⟩ => back _ _ ⟨z1, .last c z2⟩, rfl, rfl⟩
        · have el : scal (limV l) (.int 0) = true ∧ decide (limV l = .int 0) = false := by
            match l, e0 with
            | none, _ => exact ⟨rfl, rfl⟩
            | some 0, e0 => exact absurd rfl e0
            | some (n + 1), _ => exact ⟨rfl, rfl⟩
          walk_at "go"
          refine ⟨el.1, ?_⟩
          rw [el.2]
          walk_at "go"
          refine ⟨R, _, _, _, rfl, rfl, SqL.of hR, at_0, ?_⟩
          walk_at "go"
          refine ⟨t, _, _, _, rfl, rfl, SqT.of ht, at_0, ?_⟩
          walk_at "go"
          refine ⟨a, p, rfl, ha, ?_⟩
          cases em : mover p with
          | some o =>
            have ev : mvV p = .str (S o) := by unfold mvV; rw [em]
            rw [ev]
            walk_at "go"
            exact qq J _ .go tw pl (back _ _ ⟨gs, .wait (by rw [em]; rfl) e0⟩)
          | none =>
            have ev : mvV p = .non := by unfold mvV; rw [em]
            rw [ev]
            walk_at "go"
            refine ⟨x, dy, _, rfl, hx, rfl, ?_⟩
            walk_at "go"
            refine ⟨R, _, _, _, rfl, rfl, SqL.of hR, at_0, ?_⟩
            walk_at "go"
            refine ⟨t, _, _, _, rfl, rfl, SqT.of ht, at_0, ?_⟩
            walk_at "go"
            obtain ⟨k1, k2, k3, _⟩ := rok_hd gs.rok
            have kn := gs.nm _ List.mem_cons_self
            refine ⟨x, q, a, pu, hh, p, l, r, past, rfl, pl, ha, em, k1, k2, k3, fun a' b' m' e => ?_, ?_, by omega, fun H' tw2 pl2 => ?_⟩
            · subst e
              rw [NmP] at kn
              rw [← gs.ky] at kn
              exact ⟨cn_ky kn.1, cn_ky kn.2⟩
            · rw [← gs.ky, List.length_map] at hks
              exact hks
            rcases car_stl gs em e0 with ⟨z1, z2, z3, z4⟩ | ⟨z1, z2, z3⟩
            · rw [z1] at pl2
              exact ⟨_, Nat.succ_lt_succ z3, _, .go, tw.trans tw2, pl2, z2, fun st' o' ⟨y1, y2⟩ => back _ _ ⟨y1, z4 _ _ y2⟩, rfl, rfl⟩
            · refine ⟨0, Nat.succ_pos _, _, _, tw.trans tw2, pl2, z2, fun st' o' y => back _ _ ?_, ?_, rfl⟩
              · obtain ⟨y1, y2⟩ := y
                cases e : (car pu hh p l r).2 with
                | go => exact absurd e z1
                | done => rw [e] at y2; rw [y2.1, y2.2]; exact ⟨z2, by rw [← e]; exact z3⟩
                | cut => rw [e] at y2; rw [y2.1, y2.2]; exact ⟨z2, by rw [← e]; exact z3⟩
                | fail c => rw [e] at y2; rw [y2.1, y2.2]; exact ⟨z2, by rw [← e]; exact z3⟩
              · cases e : (car pu hh p l r).2 with
                | go => exact absurd e z1
                | _ => rfl
end
end Z
set_option pp.maxSteps 700
set_option Elab.async false
set_option linter.all false
set_option maxRecDepth 100000
set_option maxHeartbeats 4000000
open SX (S S_inj S_len S_cat)
namespace Z
open Pk NdefX
open PySem PySem.Spec PyProof.Rows L2
open C8 (pss_cut tCut)
local macro_rules | `(tactic| walk_at "num") => `(tactic| first | rfl | omega | decide | exact Nat.le_of_lt (small1000 (by simp)) | exact ⟨by omega, by omega⟩ | exact ⟨by omega, by omega, by omega⟩ | exact ⟨by decide, by decide, by decide⟩ | exact Or.inl ⟨by omega, by omega⟩ | exact Or.inr ⟨by omega, by omega⟩)
local macro_rules | `(tactic| walk_at "go") => `(tactic| repeat (first | refine ⟨_, rfl, ?_⟩ | refine ⟨_, _, rfl, rfl, ?_⟩ | refine ⟨_, _, rfl, ?_⟩ | (refine ⟨_, _, rfl, rfl, ?_, ?_⟩; focus walk_at "num") | refine Or.inl ⟨_, rfl, ?_⟩ | refine ⟨_, _, _, _, rfl, rfl, (by assumption), (by rfl), ?_⟩ | refine ⟨_, _, _, _, _, rfl, (by assumption), (by assumption), (by assumption), (by rfl), ?_⟩ | refine ⟨rfl, ?_⟩ | (refine And.intro ?_ ?_; focus walk_at "num")))
abbrev s_Play_move : Stmt := inClass (topS 45) 7
abbrev N_Play_move : List Str := ["self", "move", "part", "number"]
abbrev P_Play_move : List Str := ["self", "move"]
theorem sc_Play_move : FnScope N_Play_move P_Play_move (defScope s_Play_move) := ⟨rfl, rfl, rfl, by decide +kernel, rfl, by decide +kernel, by decide +kernel⟩
theorem chs_len {p : Pt} {n : Nat} (ok : Ok p) (hw : wt p ≤ 400) : (chs p n).length ≤ 1000 := by
  cases p with
  | ch o os =>
    rw [wt] at hw
    rw [chs]
    show ((os.getD n []).map _).length ≤ _
    rw [List.length_map]
    by_cases h : n < os.length
    · rw [List.getD_eq_getElem?_getD, List.getElem?_eq_getElem h]
      have := wtLL_mem (List.getElem_mem h)
      have := len_wt os[n]
      show os[n].length ≤ _
      omega
    · rw [List.getD_eq_getElem?_getD, List.getElem?_eq_none (by omega)]
      exact Nat.zero_le _
  | rd o b =>
    rw [wt] at hw
    have := len_wt b
    cases n with
    | zero => exact Nat.zero_le _
    | succ n =>
      rw [chs, List.length_append]
      show (b.map _).length + 1 ≤ _
      rw [List.length_map]
      omega
  | en b =>
    rw [wt] at hw
    have := len_wt b
    cases n with
    | zero => exact Nat.zero_le _
    | succ n =>
      rw [chs, List.length_append]
      show (b.map _).length + 1 ≤ _
      rw [List.length_map]
      omega
  | _ => cases n <;> exact Nat.zero_le _
section
variable {P : Program} {w : World} {K : PySem.W.Frag} {mg : Str → Option Value} {base : Heap} {f C CY : Addr} {k : Cs} {fd : FuncData}
def spMve (CY : Addr) (k : Cs) (K : PySem.W.Frag) : Sp := fun vs H Q _ => ∃ (x q m : Addr) (ks : List Nat) (N : Nat) (pu : Pu) (h : List Pt) (p : Pt) (l : Option Nat) (r : List Mb) (n : Nat) (past : List (Mv × Pst)), vs = [.ref x, .ref m] ∧ PlAt CY k K H x q ⟨pu, (p, l) :: r, h⟩ past .go ∧ H m = some (.tup [.str (mvS p), .int (n : Int)]) ∧ (mover p).isSome = true ∧ NOk p l n ∧ GSt ks N ⟨pu, (p, l) :: r, h⟩ ∧ ks.length ≤ 1000 ∧ N + 41000 ≤ 9900000 ∧ past.length ≤ 100000 ∧ ∀ H' st' o', Tw x q H H' → PlAt CY k K H' x q st' (past ++ [((mvS p, n), ⟨pu, (p, l) :: r, h⟩)]) o' → Res ks (N + 41000) (mvd pu h p l r n).1 (mvd pu h p l r n).2 st' o' → Q .non H'
theorem ok_move (F : FnM K "move" "Play.move" s_Play_move f fd) (pa : PtA K k) (py : PlA K k CY) (c_number_in : Cal P w K mg base 2 "number_in" (spNi k K)) (c_chosen : Cal P w K mg base 2 "chosen" (spCh k K)) (me_end_rounds : Met P w K mg base 1 CY "end_rounds" (spEr CY k K)) (me_settle : Met P w K mg base 9 CY "settle" (spSt CY k K)) : FnOk P w K mg base CX0 10 f fd P_Play_move (spMve CY k K) := by
  refine F.ok sc_Play_move (fun vs H Q E h => ?_) (fun cdv A outer s H vs Q E hr h => ?_)
  · obtain ⟨x, q, m, ks, N, pu, h, p, l, r, n, past, rfl, _⟩ := h
    rfl
  · obtain ⟨x, q, m, ks, N, pu, hh, p, l, r, n, past, rfl, pl, hmm, hmv, hno, gs, hks, hN, hpl, qq⟩ := h
    obtain ⟨cY, n1, n2, n3, n4, n5, n6, df⟩ := id py
    obtain ⟨dy, D, R, L, ps, hx, hq, ⟨g1, ⟨ts, g2, g3⟩, g4⟩, hP⟩ := id pl
    obtain ⟨t, a, ss, rfl, g5, g6, g7⟩ := g3
    have sG := cut2_same (H := H) (x := x) (p := q)
    have hR := sG _ _ g2
    have ht := sG _ _ g5
    have ha := g6.mono sG _ _
    refine ⟨_, PSs.nox (pss_cons (ps_if (pt_cmpR op_notN (pe_fld (pv 0) rfl) pe_non (nomark _)) (pss_one ps_never) pss_nil)
      (pss_cons (ps_set (i := 2) sc_Play_move.nd rfl (by first | exact .inl rfl | exact .inr rfl) (pe_ix ix_tup (pe_ix ix_list (pe_fld (pv 0) rfl) pe_int (fun _ _ => rfl)) pe_int (fun _ _ => rfl)))
      (pss_cons (ps_set (i := 3) sc_Play_move.nd rfl (by first | exact .inl rfl | exact .inr rfl) (pe_cl c_number_in hr (by decide) (by rfl) (pa_cons (pv 1) (pa_cons (pe_ix ix_list (pe_fld (pv 0) rfl) pe_int (fun _ _ => rfl)) pa_nil))))
      (pss_cons (ps_expr (pe_bm PySem.F.plainAttrs_list PySem.F.slot_list_append PySem.F.type_list_append mt_append (pe_fld (pv 0) rfl) (pa_cons (pe_tup (pa_cons (pv 1) (pa_cons (pe_fld (pv 0) rfl) (pa_cons (pe_fld (pv 0) rfl) (pa_cons (pe_fld (pv 0) rfl) pa_nil))))) pa_nil)))
      (pss_cut (ps_if (PW.pt (pw_and (pt_cmpR op_ne (pe_con (pv 2) rfl) pe_str (nomark _)) (pw_and1 (pt_cmpR op_eq (pv 3) pe_int (nomark _))))) (pss_one (ps_expr (pe_me0 me_end_rounds (pv 0) hr (by decide)))) (pss_one (ps_fld (pv 0) (pe_op op_cat (pe_cl c_chosen hr (by decide) (by rfl) (pa_cons (pv 2) (pa_cons (pv 3) pa_nil))) (pe_slice sl_list (pe_fld (pv 0) rfl) (po_some pe_int) po_none)) rfl)))
      (pss_one (ps_expr (pe_me0 me_settle (pv 0) hr (by decide))))))))), ?_⟩
    walk_at "go"
    refine ⟨R, _, _, _, rfl, rfl, SqL.of hR, at_0, ?_⟩
    walk_at "go"
    refine ⟨t, _, _, _, rfl, rfl, SqT.of ht, at_0, ?_⟩
    walk_at "go"
    refine ⟨R, _, _, _, rfl, rfl, SqL.of hR, at_0, ?_⟩
    walk_at "go"
    refine ⟨m, t, a, p, l, n, rfl, hmm, ht, ha, hno, fun H1 s1 => ?_⟩
    have hx1 := s1 _ _ hx
    have hq1 := s1 _ _ hq
    walk_at "go"
    refine ⟨.inl ⟨rfl, _, SqL.of hq1⟩, ?_⟩
    walk_at "go"
    intro T nT
    generalize eH_ : upd H1 T _ = H2
    have s2 : Same H1 H2 := by rw [← eH_]; exact same_new nT
    have eT : H2 T = some (.tup [.ref m, .ref D, .ref R, .ref L]) := by rw [← eH_]; exact upd_same
    clear eH_
    walk_at "go"
    have s12 := s1.trans s2
    have hx2 := s12 _ _ hx
    have hq2 := s12 _ _ hq
    have hqx : q ≠ x := fun e => by rw [e, hx] at hq; cases hq
    refine ⟨q, _, _, rfl, rfl, hq2, Nat.lt_of_le_of_lt (show (ps.map V.ref).length ≤ 1000000 by rw [List.length_map, PastAt.len _ _ hP]; omega) (by decide), ?_⟩
    have z := cut2_mono (x := x) (p := q) s12
    have tG := cut2_new nT hx1 hq1 eT
    have mG := cut2_tup hx2 hq2 _ _ (s12 _ _ hmm) ⟨_, rfl⟩
    have st0 : StAt k K (cut2 H2 x q) ⟨pu, (p, l) :: r, hh⟩ D R L := ⟨z _ _ g1, ⟨t :: ss, z _ _ g2, t, a, ss, rfl, z _ _ g5, g6.mono z _ _, g7.mono z _ _⟩, z _ _ g4⟩
    have pl3 : PlAt CY k K (upd H2 q (.lst (ps.map V.ref ++ [V.ref T]))) x q ⟨pu, (p, l) :: r, hh⟩ (past ++ [((mvS p, n), ⟨pu, (p, l) :: r, hh⟩)]) .go := by
      refine ⟨dy, D, R, L, ps ++ [T], by rw [upd_ne (Ne.symm hqx)]; exact hx2, by rw [upd_same, List.map_append]; rfl, st0.mono cut2_p, PastAt.app _ _ _ _ ((hP.mono z _ _).mono cut2_p _ _) ⟨T, m, D, R, L, [], rfl, cut2_p _ _ tG, cut2_p _ _ mG, st0.mono cut2_p, rfl⟩⟩
    have tw3 : Tw x q H (upd H2 q (.lst (ps.map V.ref ++ [V.ref T]))) := (tw_of s12).trans tw_p
    generalize upd H2 q (.lst (ps.map V.ref ++ [V.ref T])) = H3 at pl3 tw3 ⊢
    have aG : PtAt k K (cut2 H x q) p a := g6
    clear hx2 hq2 tG mG st0 eT nT hx1 hq1 z s1 s2 s12 ht ha hR g1 g2 g4 g5 g7 hP
    have a3 := (aG.mono tw3 _ _).mono cut2_same _ _
    obtain ⟨C, dx, fs, u, e1, e2, e3, e4⟩ := rd_kind pa a3
    have gsz := gs.sz
    have hml := mu_len r
    have hpos := ms_pos p
    have emu : mu ((p, l) :: r) = ms p + mu r := by rw [mu]
    have gsz : ms p + mu r + hh.length ≤ N := by rw [← emu]; exact gsz
    walk_at "go"
    refine ⟨fun σ J => ∃ (st1 : Pst) (o1 : Ou), Tw x q H J ∧ PlAt CY k K J x q st1 (past ++ [((mvS p, n), ⟨pu, (p, l) :: r, hh⟩)]) o1 ∧ mvd pu hh p l r n = (st1, o1) ∧ σ = [some (.ref x), some (.ref m), some (.ref a), some (.int (n : Int))], ?_, ?_⟩
    · walk_at "go"
      refine ⟨a, C, dx, fs, _, u, rfl, e1, e2, e3, e4, ?_⟩
      by_cases c : isCh p = true
      · have ek : (!decide (V.str (kdS p) = V.str "choice")) = false := by cases p <;> first | rfl | cases c
        walk_at "go"
        rw [ek]
        have hor : p = p ∧ (n = 0 → ∃ o os, p = .ch o os) := ⟨rfl, fun _ => by cases p <;> first | exact ⟨_, _, rfl⟩ | cases c⟩
        obtain ⟨k1, k2, k3, _⟩ := (show MOk (p, l) from rok_hd gs.rok)
        walk_at "go"
        refine ⟨a, p, n, rfl, a3, k1, k2, k3, hmv, hno.1, hor.2, fun R1 us H4 s4 ⟨w1, w2, w3, w4⟩ => ?_⟩
        obtain ⟨dy, D, R, L, ps, hx, hq, ⟨g1, ⟨ts, g2, g3⟩, g4⟩, hP⟩ := id pl3
        obtain ⟨t, a', ss, rfl, g5, g6, g7⟩ := g3
        have hx4 := s4 _ _ hx
        have hq4 := s4 _ _ hq
        walk_at "go"
        refine ⟨R, _, rfl, SqL.of (s4 _ _ (cut2_same _ _ g2)), fun R2 nR2 => ?_⟩
        rw [cutV_tlm]
        have s5 := same_new (o := .lst (ss.map V.ref)) nR2
        have e5 : (upd H4 R2 (.lst (ss.map V.ref))) R2 = some (.lst (ss.map V.ref)) := upd_same
        generalize upd H4 R2 (.lst (ss.map V.ref)) = H5 at s5 e5 ⊢
        walk_at "go"
        have lu := MbsAt.len _ _ w4
        have ls := MbsAt.len _ _ g7
        have lo : (chs p n).length ≤ 1000 := chs_len (n := n) k1 k2
        have ls : ss.length = r.length := ls
        refine ⟨R1, R2, _, _, rfl, rfl, s5 _ _ w2, e5, szl3 (by rw [List.length_map, List.length_map, lu, ls]; omega), fun R3 nR3 => ?_⟩
        have s6 := same_new (o := .lst (us.map V.ref ++ ss.map V.ref)) nR3
        have e6 : (upd H5 R3 (.lst (us.map V.ref ++ ss.map V.ref))) R3 = some (.lst ((us ++ ss).map V.ref)) := by rw [upd_same, List.map_append]
        generalize upd H5 R3 (.lst (us.map V.ref ++ ss.map V.ref)) = H6 at s6 e6 ⊢
        have s46 := (s4.trans s5).trans s6
        have hx6 := s46 _ _ hx
        have hq6 := s46 _ _ hq
        walk_at "go"
        refine ⟨x, CY, dy, _, rfl, hx6, cY, n2, by show (6 : Nat) < 1000; decide, ?_⟩
        have z := cut2_mono (x := x) (p := q) s46
        have rG := cut2_new (Same.back (s4.trans s5) nR3) hx hq e6
        have w5 : MbsAt k K (cut2 H6 x q) (chs p n) us := MbsAt.cut (cut2_r df hx6 hq6) (cut2_tup hx6 hq6) _ _ (w4.mono (s5.trans s6) _ _)
        have st3 : StAt k K (cut2 H6 x q) ⟨pu, chs p n ++ r, hh⟩ D R3 L := ⟨z _ _ g1, ⟨us ++ ss, rG, MbsAt.app _ _ _ _ w5 (g7.mono z _ _)⟩, z _ _ g4⟩
        exact ⟨_, .go, (tw3.trans (tw_of s46)).trans tw_x, ⟨dy, D, R3, L, ps, upd_same, by rw [upd_ne hqx]; exact hq6, st3.mono cut2_x, (hP.mono z _ _).mono cut2_x _ _⟩, by unfold mvd; rw [if_neg (fun z => by rw [c] at z; cases z.1)], rfl⟩
      · have c : isCh p = false := by
          cases e : isCh p with
          | true => exact absurd e c
          | false => rfl
        have ek : (!decide (V.str (kdS p) = V.str "choice")) = true := by cases p <;> first | rfl | cases c
        walk_at "go"
        rw [ek]
        walk_at "go"
        by_cases n0 : n = 0
        · subst n0
          walk_at "go"
          obtain ⟨dy, D, R, L, ps, hx, hq, _, _⟩ := id pl3
          refine ⟨x, dy, _, rfl, hx, rfl, ?_⟩
          refine ⟨x, q, pu, hh, p, l, r, _, rfl, pl3, by omega, fun H' tw2 pl2 => ?_⟩
          exact ⟨_, _, tw3.trans tw2, pl2, by unfold mvd; rw [if_pos ⟨c, rfl⟩], rfl⟩
        · rw [decide_eq_false (show ¬ V.int (n : Int) = V.int 0 from fun z => by injection z with z; omega)]
          have hor : p = p ∧ (n = 0 → ∃ o os, p = .ch o os) := ⟨rfl, fun z => absurd z n0⟩
          obtain ⟨k1, k2, k3, _⟩ := (show MOk (p, l) from rok_hd gs.rok)
          walk_at "go"
          refine ⟨a, p, n, rfl, a3, k1, k2, k3, hmv, hno.1, hor.2, fun R1 us H4 s4 ⟨w1, w2, w3, w4⟩ => ?_⟩
          obtain ⟨dy, D, R, L, ps, hx, hq, ⟨g1, ⟨ts, g2, g3⟩, g4⟩, hP⟩ := id pl3
          obtain ⟨t, a', ss, rfl, g5, g6, g7⟩ := g3
          have hx4 := s4 _ _ hx
          have hq4 := s4 _ _ hq
          walk_at "go"
          refine ⟨R, _, rfl, SqL.of (s4 _ _ (cut2_same _ _ g2)), fun R2 nR2 => ?_⟩
          rw [cutV_tlm]
          have s5 := same_new (o := .lst (ss.map V.ref)) nR2
          have e5 : (upd H4 R2 (.lst (ss.map V.ref))) R2 = some (.lst (ss.map V.ref)) := upd_same
          generalize upd H4 R2 (.lst (ss.map V.ref)) = H5 at s5 e5 ⊢
          walk_at "go"
          have lu := MbsAt.len _ _ w4
          have ls := MbsAt.len _ _ g7
          have lo : (chs p n).length ≤ 1000 := chs_len (n := n) k1 k2
          have ls : ss.length = r.length := ls
          refine ⟨R1, R2, _, _, rfl, rfl, s5 _ _ w2, e5, szl3 (by rw [List.length_map, List.length_map, lu, ls]; omega), fun R3 nR3 => ?_⟩
          have s6 := same_new (o := .lst (us.map V.ref ++ ss.map V.ref)) nR3
          have e6 : (upd H5 R3 (.lst (us.map V.ref ++ ss.map V.ref))) R3 = some (.lst ((us ++ ss).map V.ref)) := by rw [upd_same, List.map_append]
          generalize upd H5 R3 (.lst (us.map V.ref ++ ss.map V.ref)) = H6 at s6 e6 ⊢
          have s46 := (s4.trans s5).trans s6
          have hx6 := s46 _ _ hx
          have hq6 := s46 _ _ hq
          walk_at "go"
          refine ⟨x, CY, dy, _, rfl, hx6, cY, n2, by show (6 : Nat) < 1000; decide, ?_⟩
          have z := cut2_mono (x := x) (p := q) s46
          have rG := cut2_new (Same.back (s4.trans s5) nR3) hx hq e6
          have w5 : MbsAt k K (cut2 H6 x q) (chs p n) us := MbsAt.cut (cut2_r df hx6 hq6) (cut2_tup hx6 hq6) _ _ (w4.mono (s5.trans s6) _ _)
          have st3 : StAt k K (cut2 H6 x q) ⟨pu, chs p n ++ r, hh⟩ D R3 L := ⟨z _ _ g1, ⟨us ++ ss, rG, MbsAt.app _ _ _ _ w5 (g7.mono z _ _)⟩, z _ _ g4⟩
          exact ⟨_, .go, (tw3.trans (tw_of s46)).trans tw_x, ⟨dy, D, R3, L, ps, upd_same, by rw [upd_ne hqx]; exact hq6, st3.mono cut2_x, (hP.mono z _ _).mono cut2_x _ _⟩, by unfold mvd; rw [if_neg (fun z => n0 z.2)], rfl⟩
    rintro σ J ⟨st1, o1, tw, pl, em, rfl⟩
    have gok := mvd_ok gs hmv hno
    rw [em] at gok
    obtain ⟨dy, D, R, L, ps, hx, hq, _, _⟩ := id pl
    walk_at "go"
    refine ⟨x, dy, _, rfl, hx, rfl, ?_⟩
    refine ⟨x, q, ks, N + 41000, st1, o1, _, rfl, pl, gok, hks, hN, fun H' st' o' tw2 pl2 res => ?_⟩
    walk_at "go"
    exact qq H' st' o' (tw.trans tw2) pl2 (by rw [em]; exact res)
end
end Z
set_option Elab.async false
set_option linter.all false
set_option maxRecDepth 100000
set_option maxHeartbeats 4000000
namespace Z
open PySem PySem.Spec PyProof.Rows L2
/-- a property of an own class -/
structure PrpO (P : Program) (w : World) (K : PySem.W.Frag) (mg : Str → Option Value) (base : Heap) (k : Nat) (C : Addr) (m : Str) (sp : Sp) : Prop where
  ex : ∃ (p g : Addr) (fd : FuncData) (ps : List Str), Cls K C ∧ PropOf K C m p g ∧ FnOk P w K mg base CX0 k g fd ps sp ∧ Binds K fd ps []
theorem pe_prp {X : Cx} {k j : Nat} {C : Addr} {sp : Sp} {m : Str} {e : Expr} {pos : Pos} {ta : TE} (c : PrpO X.prog X.w X.K X.mg X.base k C m sp) (he : PE X e ta) (hr : Room j X.A) (hk : k + 1 ≤ j) (hab : attributeBase e m X.env (eval e X.env) = eval e X.env := by rfl) : PE X (.Attribute e m pos) (tProp C sp [] E0 ta) := by
  obtain ⟨p, g, fd, ps, cl, po, F, b⟩ := c.ex
  exact pe_prop he cl po F (hr.mono hk) b .nil pass0 hab
end Z
set_option Elab.async false
set_option linter.all false
set_option maxRecDepth 100000
set_option maxHeartbeats 4000000
namespace Z
open PySem PySem.Spec PyProof.Rows L2
/-! ### list(d.values()) -/
def tListVals (te : TE) : TE := fun σ H Q => te σ H fun x H1 => ∃ (d : Addr) (kvs : List (Key × V)), x = .ref d ∧ H1 d = some (.dK kvs) ∧ ∀ p, H1 p = none → Q (.ref p) (upd H1 p (.lst (kvs.map (·.2))))
theorem kv_vals {κ : Type} : ∀ {kvs : List (κ × V)} {vs : List (κ × Value)} {acc : List Value}, KV kvs vs → acc.length = vs.length → (∀ (j : Nat) v, acc[j]? = some v → ∃ k, vs[j]? = some (k, v)) → Vals (kvs.map (·.2)) acc := by
  intro kvs vs acc h
  unfold KV at h
  induction h generalizing acc with
  | nil =>
    intro hl _
    cases acc with
    | nil => exact .nil
    | cons _ _ => cases hl
  | cons r t ih =>
    intro hl hx
    cases acc with
    | nil => cases hl
    | cons a acc =>
      obtain ⟨k, e⟩ := hx 0 a rfl
      have e := Option.some.inj e
      refine .cons ?_ (ih (by simpa using hl) fun j v e => by simpa using hx (j + 1) v (by simpa using e))
      have r2 := r.2
      rw [e] at r2
      exact r2
section
variable {X : Cx} {e : Expr} {te : TE} {p apos cpos pos : Pos}
theorem pe_listVals (hc : X.calm = true) (he : PE X e te) (hg : Gl X "list") (hm : X.mg "list" = none) (hv : bootBuiltins "list" = some (.type "list")) (hbase : attributeBase e "values" X.env (eval e X.env) = eval e X.env := by rfl) (hline : (apos.endLine == cpos.line) = true := by rfl)
    (hs : starEach [.Call (.Attribute e "values" apos) [] [] cpos] X.env = (false, eval (.Call (.Attribute e "values" apos) [] [] cpos) X.env) :: starEach [] X.env := by rfl) :
    PE X (.Call (.Name "list" p) [.Call (.Attribute e "values" apos) [] [] cpos] [] pos) (tListVals te) := by
  refine ⟨fun pins s σ H Q I hq => ?_⟩
  refine wpAny_Call_Name_kw (ld_blt I hg hm hv ?_)
  refine PyProof.Rows.callWith_type1 ?_ hs rfl
  rw [hs]
  show wpAny _ _ (spliced ((false, eval (.Call (.Attribute e "values" apos) [] [] cpos) X.env) :: backTo pos (starEach [] X.env))) _ _ s
  refine Calls.spliced_cons ?_
  refine wpAny_Call_method (T := "dict") (id := "dict.values") hbase rfl hline F.plainAttrs_dict F.slot_dict_values F.type_dict_values (thn (he.run pins s σ H _ I hq) fun u s1 ⟨x, H1, I1, rx, d, kvs, ex, hd, q⟩ => ?_)
  subst ex
  obtain rfl : u = Value.ref d := rx
  obtain ⟨hz, hs0, vs, kv, hdo⟩ := I1.hok d _ hd
  obtain ⟨ep, hat⟩ := hdo.dictAt
  have lk : kvs.length = vs.length := Paired.length kv
  have I2 : Inv X pins σ H1 { s1 with heap := s1.heap.push { cls := .type "dict_values", data := .fields #[.ref d] } } := I1.kept (t' := s1.toks) fun b ob q => Heap.get?_push_of_some _ q
  refine ⟨hdo.typeIs, hdo.mapOf.noDict, ?_⟩
  show wpAny _ _ (callWith cpos (.builtin "dict.values") [.ref d] [] []) _ X.xe s1
  refine method_meetsIn F.slot_dict_values F.entry_dict_values rfl (PySem.evalArgs_none ⟨rfl, hdo.typeIs, F.args_dict_values_1 _, _, meets_dict_values (mixKind X.prog X.w) d hs0, ⟨vs, hdo⟩, ?_⟩)
  refine Calls.spliced_nil ?_
  refine PySem.W.kdl_call (PySem.W.kdl_values (knd := mixKind X.prog X.w) (kvs := vs) (ep := ep)) (I1.ok.hd hc) ⟨⟨_, Heap.get?_push_size _ rfl, rfl, rfl⟩, hat.push _⟩ (by omega) fun h' tk acc c hk hS hacc => ?_
  have hl : (kvs.map (·.2)).length ≤ sizeLine := by rw [List.length_map]; exact hz
  refine ⟨.ref _, upd H1 _ (.lst (kvs.map (·.2))), I2.laid (t' := tk) hk (Nat.le_refl _) ⟨hl, acc.toList, c, kv_vals kv (by rw [Array.length_toList]; exact hacc.1) (fun j v e => hacc.2 j v (by rw [← Array.getElem?_toList]; exact e)), ?_⟩, rfl, q _ (I2.hok.fresh (Nat.le_refl _))⟩
  rw [Array.toArray_toList]
  exact hS
end
end Z
set_option pp.maxSteps 700
set_option Elab.async false
set_option linter.all false
set_option maxRecDepth 100000
set_option maxHeartbeats 4000000
open SX (S S_inj S_len S_cat)
namespace Z
open Pk NdefX
open PySem PySem.Spec PyProof.Rows L2
open C8 (pss_cut tCut)
local macro_rules | `(tactic| walk_at "num") => `(tactic| first | rfl | omega | decide | exact Nat.le_of_lt (small1000 (by simp)) | exact ⟨by omega, by omega⟩ | exact ⟨by omega, by omega, by omega⟩ | exact ⟨by decide, by decide, by decide⟩ | exact Or.inl ⟨by omega, by omega⟩ | exact Or.inr ⟨by omega, by omega⟩)
local macro_rules | `(tactic| walk_at "go") => `(tactic| repeat (first | refine ⟨_, rfl, ?_⟩ | refine ⟨_, _, rfl, rfl, ?_⟩ | refine ⟨_, _, rfl, ?_⟩ | (refine ⟨_, _, rfl, rfl, ?_, ?_⟩; focus walk_at "num") | refine Or.inl ⟨_, rfl, ?_⟩ | refine ⟨_, _, _, _, rfl, rfl, (by assumption), (by rfl), ?_⟩ | refine ⟨_, _, _, _, _, rfl, (by assumption), (by assumption), (by assumption), (by rfl), ?_⟩ | refine ⟨rfl, ?_⟩ | (refine And.intro ?_ ?_; focus walk_at "num")))
abbrev s_check_purses : Stmt := topS 19
abbrev N_check_purses : List Str := ["purses", "party", "coins"]
abbrev P_check_purses : List Str := ["purses"]
theorem sc_check_purses : FnScope N_check_purses P_check_purses (defScope s_check_purses) := ⟨rfl, rfl, rfl, by decide +kernel, rfl, by decide +kernel, by decide +kernel⟩
abbrev s_check_named : Stmt := topS 44
abbrev N_check_named : List Str := ["pact", "purses", "party"]
abbrev P_check_named : List Str := ["pact", "purses"]
theorem sc_check_named : FnScope N_check_named P_check_named (defScope s_check_named) := ⟨rfl, rfl, rfl, by decide +kernel, rfl, by decide +kernel, by decide +kernel⟩
abbrev s_Play___init__ : Stmt := inClass (topS 45) 0
abbrev N_Play___init__ : List Str := ["self", "pact", "purses"]
abbrev P_Play___init__ : List Str := ["self", "pact", "purses"]
theorem sc_Play___init__ : FnScope N_Play___init__ P_Play___init__ (defScope s_Play___init__) := ⟨rfl, rfl, rfl, by decide +kernel, rfl, by decide +kernel, by decide +kernel⟩
abbrev s_Play_turn : Stmt := inClass (topS 45) 1
abbrev N_Play_turn : List Str := ["self"]
abbrev P_Play_turn : List Str := ["self"]
theorem sc_Play_turn : FnScope N_Play_turn P_Play_turn (defScope s_Play_turn) := ⟨rfl, rfl, rfl, by decide +kernel, rfl, by decide +kernel, by decide +kernel⟩
abbrev s_Play_outcome : Stmt := inClass (topS 45) 2
abbrev N_Play_outcome : List Str := ["self"]
abbrev P_Play_outcome : List Str := ["self"]
theorem sc_Play_outcome : FnScope N_Play_outcome P_Play_outcome (defScope s_Play_outcome) := ⟨rfl, rfl, rfl, by decide +kernel, rfl, by decide +kernel, by decide +kernel⟩
abbrev s_Play_loser : Stmt := inClass (topS 45) 3
abbrev N_Play_loser : List Str := ["self"]
abbrev P_Play_loser : List Str := ["self"]
theorem sc_Play_loser : FnScope N_Play_loser P_Play_loser (defScope s_Play_loser) := ⟨rfl, rfl, rfl, by decide +kernel, rfl, by decide +kernel, by decide +kernel⟩
abbrev s_Play_coins : Stmt := inClass (topS 45) 9
abbrev N_Play_coins : List Str := ["self", "party"]
abbrev P_Play_coins : List Str := ["self", "party"]
theorem sc_Play_coins : FnScope N_Play_coins P_Play_coins (defScope s_Play_coins) := ⟨rfl, rfl, rfl, by decide +kernel, rfl, by decide +kernel, by decide +kernel⟩
abbrev s_Play_purses : Stmt := inClass (topS 45) 10
abbrev N_Play_purses : List Str := ["self"]
abbrev P_Play_purses : List Str := ["self"]
theorem sc_Play_purses : FnScope N_Play_purses P_Play_purses (defScope s_Play_purses) := ⟨rfl, rfl, rfl, by decide +kernel, rfl, by decide +kernel, by decide +kernel⟩
abbrev s_Play_moves : Stmt := inClass (topS 45) 11
abbrev N_Play_moves : List Str := ["self", "move", "purses", "row", "happened"]
abbrev P_Play_moves : List Str := ["self"]
theorem sc_Play_moves : FnScope N_Play_moves P_Play_moves (defScope s_Play_moves) := ⟨rfl, rfl, rfl, by decide +kernel, rfl, by decide +kernel, by decide +kernel⟩
abbrev s_Play_row : Stmt := inClass (topS 45) 12
abbrev N_Play_row : List Str := ["self"]
abbrev P_Play_row : List Str := ["self"]
theorem sc_Play_row : FnScope N_Play_row P_Play_row (defScope s_Play_row) := ⟨rfl, rfl, rfl, by decide +kernel, rfl, by decide +kernel, by decide +kernel⟩
abbrev s_Play_happened : Stmt := inClass (topS 45) 13
abbrev N_Play_happened : List Str := ["self"]
abbrev P_Play_happened : List Str := ["self"]
theorem sc_Play_happened : FnScope N_Play_happened P_Play_happened (defScope s_Play_happened) := ⟨rfl, rfl, rfl, by decide +kernel, rfl, by decide +kernel, by decide +kernel⟩
section
variable {P : Program} {w : World} {K : PySem.W.Frag} {mg : Str → Option Value} {base : Heap} {f C CP CY : Addr} {k : Cs} {fd : FuncData}
theorem PastAt.last {G : Hp} {m : Mv} {st : Pst} : ∀ (r : List (Mv × Pst)) (ts : List Addr), PastAt k K G (r ++ [(m, st)]) ts → ∃ us t a D R L, ts = us ++ [t] ∧ PastAt k K G r us ∧ G t = some (.tup [.ref a, .ref D, .ref R, .ref L]) ∧ G a = some (.tup [.str m.1, .int (m.2 : Int)]) ∧ StAt k K G st D R L
  | [], ts, h => by
    obtain ⟨t, a, D, R, L, ss, rfl, h2, h3, h4, h5⟩ := h
    have h5 : ss = [] := h5
    subst h5
    exact ⟨[], t, a, D, R, L, rfl, rfl, h2, h3, h4⟩
  | (m', st') :: r, ts, h => by
    obtain ⟨t, a, D, R, L, ss, rfl, h2, h3, h4, h5⟩ := h
    obtain ⟨us, t', a', D', R', L', rfl, g1, g2, g3, g4⟩ := PastAt.last r ss h5
    exact ⟨t :: us, t', a', D', R', L', rfl, ⟨t, a, D, R, L, us, rfl, h2, h3, h4, g1⟩, g2, g3, g4⟩
/-! ### properties -/
def spOu (CY : Addr) (k : Cs) (K : PySem.W.Frag) : Sp := fun vs H Q _ => ∃ (x q : Addr) (st : Pst) (o : Ou) (past : List (Mv × Pst)), vs = [.ref x] ∧ PlAt CY k K H x q st past o ∧ Q (ouV o) H
theorem ok_outcome (F : FunD K "outcome" "Play.outcome" (defArgs s_Play_outcome) (defBody s_Play_outcome) (defScope s_Play_outcome) [] [] f fd) (py : PlA K k CY) : FnOk P w K mg base CX0 1 f fd P_Play_outcome (spOu CY k K) := by
  refine F.ok sc_Play_outcome (fun vs H Q E h => ?_) (fun cdv A outer s H vs Q E hr h => ?_)
  · obtain ⟨x, q, st, o, past, rfl, _⟩ := h
    rfl
  · obtain ⟨x, q, st, o, past, rfl, ⟨dy, D, R, L, ps, hx, hq, _, _⟩, qq⟩ := h
    obtain ⟨cY, n1, n2, n3, n4, n5, n6, df⟩ := id py
    refine ⟨_, PSs.nox (pss_one (ps_ret (pe_fld (pv 0) rfl))), ?_⟩
    walk_at "go"
    exact qq
def spLo (CY : Addr) (k : Cs) (K : PySem.W.Frag) : Sp := fun vs H Q _ => ∃ (x q : Addr) (st : Pst) (o : Ou) (past : List (Mv × Pst)), vs = [.ref x] ∧ PlAt CY k K H x q st past o ∧ Q (loV o) H
theorem ok_loser (F : FunD K "loser" "Play.loser" (defArgs s_Play_loser) (defBody s_Play_loser) (defScope s_Play_loser) [] [] f fd) (py : PlA K k CY) : FnOk P w K mg base CX0 1 f fd P_Play_loser (spLo CY k K) := by
  refine F.ok sc_Play_loser (fun vs H Q E h => ?_) (fun cdv A outer s H vs Q E hr h => ?_)
  · obtain ⟨x, q, st, o, past, rfl, _⟩ := h
    rfl
  · obtain ⟨x, q, st, o, past, rfl, ⟨dy, D, R, L, ps, hx, hq, _, _⟩, qq⟩ := h
    obtain ⟨cY, n1, n2, n3, n4, n5, n6, df⟩ := id py
    refine ⟨_, PSs.nox (pss_one (ps_ret (pe_fld (pv 0) rfl))), ?_⟩
    walk_at "go"
    exact qq
def tuV (st : Pst) (o : Ou) : V := match o with
  | .go => match st.row with
    | [] => .non
    | (p, _) :: _ => mvV p
  | _ => .str "over"
def spTu (CY : Addr) (k : Cs) (K : PySem.W.Frag) : Sp := fun vs H Q _ => ∃ (x q : Addr) (st : Pst) (o : Ou) (past : List (Mv × Pst)), vs = [.ref x] ∧ PlAt CY k K H x q st past o ∧ (o = .go → st.row ≠ []) ∧ Q (tuV st o) H
theorem ok_turn (F : FunD K "turn" "Play.turn" (defArgs s_Play_turn) (defBody s_Play_turn) (defScope s_Play_turn) [] [] f fd) (py : PlA K k CY) (c_mover_of : Cal P w K mg base 1 "mover_of" (spMv k K)) : FnOk P w K mg base CX0 2 f fd P_Play_turn (spTu CY k K) := by
  refine F.ok sc_Play_turn (fun vs H Q E h => ?_) (fun cdv A outer s H vs Q E hr h => ?_)
  · obtain ⟨x, q, st, o, past, rfl, _⟩ := h
    rfl
  · obtain ⟨x, q, ⟨pu, row, hh⟩, o, past, rfl, ⟨dy, D, R, L, ps, hx, hq, ⟨g1, ⟨ts, g2, g3⟩, g4⟩, hP⟩, hne, qq⟩ := h
    obtain ⟨cY, n1, n2, n3, n4, n5, n6, df⟩ := id py
    refine ⟨_, PSs.nox (pss_cons (ps_if (pt_cmpR op_notN (pe_fld (pv 0) rfl) pe_non (nomark _)) (pss_one (ps_ret pe_str)) pss_nil)
      (pss_one (ps_ret (pe_cl c_mover_of hr (by decide) (by rfl) (pa_cons (pe_ix ix_tup (pe_ix ix_list (pe_fld (pv 0) rfl) pe_int (fun _ _ => rfl)) pe_int (fun _ _ => rfl)) pa_nil))))), ?_⟩
    cases o with
    | go =>
      cases row with
      | nil => exact absurd rfl (hne rfl)
      | cons mb r =>
        obtain ⟨p, l⟩ := mb
        obtain ⟨t, a, ss, rfl, g5, g6, g7⟩ := g3
        have sG := cut2_same (H := H) (x := x) (p := q)
        walk_at "go"
        refine ⟨R, _, _, _, rfl, rfl, SqL.of (sG _ _ g2), at_0, ?_⟩
        walk_at "go"
        refine ⟨t, _, _, _, rfl, rfl, SqT.of (sG _ _ g5), at_0, ?_⟩
        walk_at "go"
        exact ⟨a, p, rfl, g6.mono sG _ _, qq⟩
    | done =>
      walk_at "go"
      exact qq
    | cut =>
      walk_at "go"
      exact qq
    | fail c =>
      walk_at "go"
      exact qq
/-! ### what a play tells -/
def spPu (CY : Addr) (k : Cs) (K : PySem.W.Frag) : Sp := fun vs H Q _ => ∃ (x q : Addr) (st : Pst) (o : Ou) (past : List (Mv × Pst)), vs = [.ref x] ∧ PlAt CY k K H x q st past o ∧ ∀ D, H D = none → Q (.ref D) (upd H D (.dK (pk st.pu)))
theorem ok_purses (F : FnM K "purses" "Play.purses" s_Play_purses f fd) (py : PlA K k CY) (m_dict : mg "dict" = none) : FnOk P w K mg base CX0 1 f fd P_Play_purses (spPu CY k K) := by
  refine F.ok sc_Play_purses (fun vs H Q E h => ?_) (fun cdv A outer s H vs Q E hr h => ?_)
  · obtain ⟨x, q, st, o, past, rfl, _⟩ := h
    rfl
  · obtain ⟨x, q, st, o, past, rfl, ⟨dy, D, R, L, ps, hx, hq, ⟨g1, _, _⟩, _⟩, qq⟩ := h
    obtain ⟨cY, n1, n2, n3, n4, n5, n6, df⟩ := id py
    refine ⟨_, PSs.nox (pss_one (ps_ret (pe_callTy call_dictD (by rfl) m_dict (by decide +kernel) (pa_cons (pe_fld (pv 0) rfl) pa_nil)))), ?_⟩
    walk_at "go"
    exact ⟨D, _, rfl, .inl (cut2_same _ _ g1), fun D1 nD1 => qq D1 nD1⟩
def spHa (CY : Addr) (k : Cs) (K : PySem.W.Frag) : Sp := fun vs H Q _ => ∃ (x q : Addr) (st : Pst) (o : Ou) (past : List (Mv × Pst)), vs = [.ref x] ∧ PlAt CY k K H x q st past o ∧ ∀ T, H T = none → Q (.ref T) (upd H T (.tup (hapV st.hap)))
theorem ok_happened (F : FnM K "happened" "Play.happened" s_Play_happened f fd) (py : PlA K k CY) (m_tuple : mg "tuple" = none) : FnOk P w K mg base CX0 1 f fd P_Play_happened (spHa CY k K) := by
  refine F.ok sc_Play_happened (fun vs H Q E h => ?_) (fun cdv A outer s H vs Q E hr h => ?_)
  · obtain ⟨x, q, st, o, past, rfl, _⟩ := h
    rfl
  · obtain ⟨x, q, st, o, past, rfl, ⟨dy, D, R, L, ps, hx, hq, ⟨g1, g2, g3⟩, _⟩, qq⟩ := h
    obtain ⟨cY, n1, n2, n3, n4, n5, n6, df⟩ := id py
    refine ⟨_, PSs.nox (pss_one (ps_ret (pe_callTy call_tuple_of (by rfl) m_tuple (by decide +kernel) (pa_cons (pe_fld (pv 0) rfl) pa_nil)))), ?_⟩
    walk_at "go"
    exact ⟨L, _, rfl, .inl ⟨SqL.of (cut2_same _ _ g3), fun T nT => qq T nT⟩⟩
def spRo (CY : Addr) (k : Cs) (K : PySem.W.Frag) : Sp := fun vs H Q _ => ∃ (x q : Addr) (st : Pst) (o : Ou) (past : List (Mv × Pst)), vs = [.ref x] ∧ PlAt CY k K H x q st past o ∧ ∀ T ts, H T = none → MbsAt k K (upd H T (.tup (ts.map V.ref))) st.row ts → Q (.ref T) (upd H T (.tup (ts.map V.ref)))
theorem ok_row (F : FnM K "row" "Play.row" s_Play_row f fd) (py : PlA K k CY) (m_tuple : mg "tuple" = none) : FnOk P w K mg base CX0 1 f fd P_Play_row (spRo CY k K) := by
  refine F.ok sc_Play_row (fun vs H Q E h => ?_) (fun cdv A outer s H vs Q E hr h => ?_)
  · obtain ⟨x, q, st, o, past, rfl, _⟩ := h
    rfl
  · obtain ⟨x, q, st, o, past, rfl, ⟨dy, D, R, L, ps, hx, hq, ⟨g1, ⟨ts, g2, g3⟩, g4⟩, _⟩, qq⟩ := h
    obtain ⟨cY, n1, n2, n3, n4, n5, n6, df⟩ := id py
    refine ⟨_, PSs.nox (pss_one (ps_ret (pe_callTy call_tuple_of (by rfl) m_tuple (by decide +kernel) (pa_cons (pe_fld (pv 0) rfl) pa_nil)))), ?_⟩
    walk_at "go"
    exact ⟨R, _, rfl, .inl ⟨SqL.of (cut2_same _ _ g2), fun T nT => qq T ts nT ((g3.mono cut2_same _ _).mono (same_new nT) _ _)⟩⟩
def spCo (CY : Addr) (k : Cs) (K : PySem.W.Frag) : Sp := fun vs H Q _ => ∃ (x q : Addr) (c n : Nat) (st : Pst) (o : Ou) (past : List (Mv × Pst)), vs = [.ref x, .str (S [c])] ∧ PlAt CY k K H x q st past o ∧ c ∈ PAR ∧ cn st.pu c = some n ∧ Q (.int (n : Int)) H
theorem ok_coins (F : FnM K "coins" "Play.coins" s_Play_coins f fd) (py : PlA K k CY) (c_check_party : CalX P w K mg base 3 "check_party" (spChP CP)) : FnOk P w K mg base CX0 4 f fd P_Play_coins (spCo CY k K) := by
  refine F.ok sc_Play_coins (fun vs H Q E h => ?_) (fun cdv A outer s H vs Q E hr h => ?_)
  · obtain ⟨x, q, c, n, st, o, past, rfl, _⟩ := h
    rfl
  · obtain ⟨x, q, c, n, st, o, past, rfl, ⟨dy, D, R, L, ps, hx, hq, ⟨g1, _, _⟩, _⟩, hc, en, qq⟩ := h
    obtain ⟨cY, n1, n2, n3, n4, n5, n6, df⟩ := id py
    refine ⟨_, PSs.nox (pss_cons (ps_expr (pe_clE c_check_party (fun _ => passS0) hr (by decide) (by rfl) (pa_cons (pv 1) pa_nil)))
      (pss_cons (ps_if (pt_cmp (pc_dnotin (hu_of hr) (pv 1) (pe_fld (pv 0) rfl)) (by rfl)) (pss_one ps_never) pss_nil)
      (pss_one (ps_ret (pe_dget (hu_of hr) (pe_fld (pv 0) rfl) (pv 1) (fun _ _ => rfl)))))), ?_⟩
    have dg : DGet H D (.str (S [c])) (some (.int (n : Int))) := by
      have z := DGet.k (k := .inr (S [c])) (cut2_same _ _ g1)
      rw [valV_pk, en] at z
      exact z
    walk_at "go"
    refine ⟨(show 1 ≤ 10000 by decide), fun _ => ?_, fun z => by rw [isPy_one hc] at z; cases z⟩
    walk_at "go"
    refine ⟨D, _, rfl, dg, ?_⟩
    walk_at "go"
    exact ⟨D, _, rfl, dg, qq⟩
theorem PastAt.gets {G : Hp} : ∀ (r : List (Mv × Pst)) (ts : List Addr), PastAt k K G r ts → ∀ (i : Nat) (t : Addr), ts[i]? = some t → ∃ m st a D R L, r[i]? = some (m, st) ∧ G t = some (.tup [.ref a, .ref D, .ref R, .ref L]) ∧ G a = some (.tup [.str m.1, .int (m.2 : Int)])
  | [], ts, h, i, t, e => by
    have h : ts = [] := h
    rw [h] at e
    cases e
  | (m, st) :: r, ts, h, i, t, e => by
    obtain ⟨t', a, D, R, L, ss, rfl, h2, h3, h4, h5⟩ := h
    cases i with
    | zero =>
      cases e
      exact ⟨m, st, a, D, R, L, rfl, h2, h3⟩
    | succ i => exact PastAt.gets r ss h5 i t e
def spMs (CY : Addr) (k : Cs) (K : PySem.W.Frag) : Sp := fun vs H Q _ => ∃ (x q : Addr) (st : Pst) (o : Ou) (past : List (Mv × Pst)), vs = [.ref x] ∧ PlAt CY k K H x q st past o ∧ past.length ≤ 100000 ∧ ∀ (T : Addr) (as : List Addr) H', Same H H' → H' T = some (.tup (as.map V.ref)) → as.length = past.length → (∀ (i : Nat) (a : Addr) (m : Mv) (st : Pst), as[i]? = some a → past[i]? = some (m, st) → H' a = some (.tup [.str m.1, .int (m.2 : Int)])) → Q (.ref T) H'
theorem ok_moves (F : FnM K "moves" "Play.moves" s_Play_moves f fd) (py : PlA K k CY) (m_tuple : mg "tuple" = none) : FnOk P w K mg base CX0 1 f fd P_Play_moves (spMs CY k K) := by
  refine F.ok sc_Play_moves (fun vs H Q E h => ?_) (fun cdv A outer s H vs Q E hr h => ?_)
  · obtain ⟨x, q, st, o, past, rfl, _⟩ := h
    rfl
  · obtain ⟨x, q, st, o, past, rfl, ⟨dy, D, R, L, ps, hx, hq, _, hP⟩, hpl, qq⟩ := h
    obtain ⟨cY, n1, n2, n3, n4, n5, n6, df⟩ := id py
    have lp := PastAt.len _ _ hP
    refine ⟨_, PSs.nox (pss_one (ps_ret (pe_callTy call_tuple_of (by rfl) m_tuple (by decide +kernel) (pa_cons (pe_lc (own := [("move", 1), ("purses", 2), ("row", 3), ("happened", 4)]) (g := (gTup K 4 (gCons (gName 1) (gCons (gName 2) (gCons (gName 3) (gCons (gName 4) gNil)))))) (tt := tYes) (by rfl) sc_Play_moves.nd (pi_list (pe_fld (pv 0) rfl)) (blkOk_by (own := [("move", 1), ("purses", 2), ("row", 3), ("happened", 4)]) (N := N_Play_moves) (sc := defScope s_Play_moves) (by decide +kernel)) (fun _ _ _ _ _ => (pg_tup rfl (pgs_cons (pg_name (i := 1) sc_Play_moves.nd rfl (by first | exact .inl rfl | exact .inr rfl)) (pgs_cons (pg_name (i := 2) sc_Play_moves.nd rfl (by first | exact .inl rfl | exact .inr rfl)) (pgs_cons (pg_name (i := 3) sc_Play_moves.nd rfl (by first | exact .inl rfl | exact .inr rfl)) (pgs_cons (pg_name (i := 4) sc_Play_moves.nd rfl (by first | exact .inl rfl | exact .inr rfl)) pgs_nil)))))) (fun _ _ _ _ _ => pts_nil) (fun _ _ _ _ _ => (pv 1))) pa_nil)))), ?_⟩
    walk_at "go"
    refine ⟨⟨_, SqL.of hq⟩, ?_⟩
    intro M nM
    refine lc_gen (n := ps.length) (fun i J => Same H J ∧ ∃ as : List Addr, J M = some (.lst (as.map V.ref)) ∧ as.length = i ∧ ∀ (j : Nat) (a : Addr) (m : Mv) (st : Pst), as[j]? = some a → past[j]? = some (m, st) → H a = some (.tup [.str m.1, .int (m.2 : Int)])) ⟨same_new nM, [], upd_same, rfl, fun j a m st e => by cases e⟩ (fun i J hi h => ⟨_, .ref ps[i], SqL.of (h.1 _ _ hq), by rw [List.getElem?_map, List.getElem?_eq_getElem hi]; rfl⟩) (fun J h => ⟨_, SqL.of (h.1 _ _ hq), by rw [List.length_map]; exact Nat.le_refl _⟩) (fun i J y J2 hi ⟨s1, as, eM, la, hG⟩ hy => ?_) (fun J ⟨s1, as, eM, la, hG⟩ => ?_)
    · obtain ⟨rfl, hx2⟩ := hy
      have hx2 := hx2 _ (SqL.of (s1 _ _ hq))
      rw [List.getElem?_map, List.getElem?_eq_getElem hi] at hx2
      cases hx2
      obtain ⟨m, st', a, D', R', L', ei, ht, ha⟩ := PastAt.gets _ _ hP i ps[i] (List.getElem?_eq_getElem hi)
      have sG := cut2_same (H := H) (x := x) (p := q)
      refine ⟨ps[i], _, rfl, SqT.of (s1 _ _ (sG _ _ ht)), rfl, ?_⟩
      walk_at "go"
      refine ⟨_, eM, Nat.lt_of_le_of_lt (show (as.map V.ref).length ≤ 1000000 by rw [List.length_map]; omega) (by decide), Z.Same.mut s1 nM, as ++ [a], by rw [upd_same, List.map_append]; rfl, by rw [List.length_append, la]; rfl, fun j b m' st'' h1 h2 => ?_⟩
      by_cases c : j < as.length
      · rw [List.getElem?_append_left c] at h1
        exact hG j b m' st'' h1 h2
      · rw [List.getElem?_append_right (by omega)] at h1
        have h3 : j - as.length = 0 := by
          have := (List.getElem?_eq_some_iff.mp h1).1
          simp at this
          omega
        rw [h3] at h1
        obtain rfl : a = b := Option.some.inj h1
        have h4 : j = i := by omega
        subst h4
        rw [ei] at h2
        cases h2
        exact sG _ _ ha
    · walk_at "go"
      exact ⟨M, _, rfl, .inl ⟨SqL.of eM, fun T nT => qq T as _ (s1.trans (same_new nT)) upd_same (by rw [la, lp]) fun i a m st h1 h2 => (s1.trans (same_new nT)) _ _ (hG i a m st h1 h2)⟩⟩
/-! ### a new play -/
def spCp (K : PySem.W.Frag) : Sp := fun vs H Q _ => ∃ (d : Addr) (pu : Pu), vs = [.ref d] ∧ H d = some (.dK (pk pu)) ∧ (∀ x ∈ pu, x.1 ∈ PAR) ∧ ∀ H', Same H H' → Q .non H'
theorem ok_check_purses (F : FnP K "check_purses" s_check_purses f fd) (m_list : mg "list" = none) (c_check_party : CalX P w K mg base 3 "check_party" (spChP CP)) : FnOk P w K mg base CX0 4 f fd P_check_purses (spCp K) := by
  refine F.ok sc_check_purses (fun vs H Q E h => ?_) (fun cdv A outer s H vs Q E hr h => ?_)
  · obtain ⟨d, pu, rfl, _⟩ := h
    rfl
  · obtain ⟨d, pu, rfl, hd, hk, q⟩ := h
    refine ⟨_, PSs.nox (pss_cons (ps_lock (ps_for PassesOwn.never rfl (pi_keys (pv 0)) (pg_name (i := 1) sc_check_purses.nd rfl (by first | exact .inl rfl | exact .inr rfl))
        (pss_one (ps_expr (pe_clE c_check_party (fun _ => passS0) hr (by decide) (by rfl) (pa_cons (pv 1) pa_nil))))))
      (pss_one (ps_for PassesOwn.never rfl (pi_list (pe_listVals rfl (pv 0) (by rfl) m_list (by decide +kernel))) (pg_name (i := 2) sc_check_purses.nd rfl (by first | exact .inl rfl | exact .inr rfl))
        (pss_one (ps_if (pt_cmpR op_lt (pv 2) pe_int (nomark _)) (pss_one ps_never) pss_nil))))), ?_⟩
    walk_at "go"
    refine ⟨d, _, hd, trivial, fun od => ?_⟩
    have fz : (upd H d (.frz od (.dK (pk pu)))) d = some (.frz od (.dK (pk pu))) := upd_same
    have sb : SB d H (upd H d (.frz od (.dK (pk pu)))) := fun b o n e => by rw [upd_ne n]; exact e
    generalize upd H d (.frz od (.dK (pk pu))) = J at fz sb
    walk_at "go"
    refine ⟨d, od, rfl, .inl ⟨_, fz, ?_⟩⟩
    refine for_gen (n := pu.length) (fun i σ J1 => J1 = J ∧ ∃ v1 v2, σ = [some (.ref d), v1, v2]) ⟨rfl, _, _, rfl⟩ ?_ ?_ ?_ ?_
    · rintro i σ J1 hi ⟨rfl, _⟩
      exact ⟨fz, by rw [pk_len]; exact hi⟩
    · rintro σ J1 ⟨rfl, _⟩
      exact ⟨fz, by rw [pk_len]; exact Nat.le_refl _⟩
    · rintro i σ J1 x J2 hi ⟨rfl, v1, v2, rfl⟩ ⟨rfl, c, v, e, rfl⟩
      unfold pk at e
      rw [List.getElem?_map, List.getElem?_eq_getElem hi] at e
      cases e
      have hk1 := hk _ (List.getElem_mem hi)
      walk_at "go"
      refine ⟨(show 1 ≤ 10000 by decide), fun _ => ?_, fun z => by rw [isPy_one hk1] at z; cases z⟩
      walk_at "go"
      exact ⟨_, _, rfl⟩
    rintro σ J1 ⟨rfl, v1, v2, rfl⟩
    walk_at "go"
    have s1 : Same H (upd J1 d (.dK (pk pu))) := fun a o e => by
      by_cases c : a = d
      · subst c
        rw [upd_same, ← hd, e]
      · rw [upd_ne c]
        exact sb a o c e
    have hd1 : (upd J1 d (.dK (pk pu))) d = some (.dK (pk pu)) := upd_same
    generalize upd J1 d (.dK (pk pu)) = J3 at s1 hd1
    walk_at "go"
    refine ⟨d, _, rfl, hd1, fun l nl => ?_⟩
    have s2 := s1.trans (same_new (o := .lst ((pk pu).map (·.2))) nl)
    have el : (upd J3 l (.lst ((pk pu).map (·.2)))) l = some (.lst (pu.map fun x => V.int (x.2 : Int))) := by
      rw [upd_same]
      unfold pk
      rw [List.map_map]
      rfl
    generalize upd J3 l (.lst ((pk pu).map (·.2))) = J4 at s2 el
    walk_at "go"
    refine ⟨⟨_, SqL.of el⟩, ?_⟩
    refine for_gen (n := pu.length) (fun i σ J1 => J1 = J4 ∧ ∃ v1 v2, σ = [some (.ref d), v1, v2]) ⟨rfl, _, _, rfl⟩ ?_ ?_ ?_ ?_
    · rintro i σ J1 hi ⟨rfl, _⟩
      exact ⟨_, .int (pu[i].2 : Int), SqL.of el, by rw [List.getElem?_map, List.getElem?_eq_getElem hi]; rfl⟩
    · rintro σ J1 ⟨rfl, _⟩
      exact ⟨_, SqL.of el, by rw [List.length_map]; exact Nat.le_refl _⟩
    · rintro i σ J1 x J2 hi ⟨rfl, v1, v2, rfl⟩ ⟨rfl, hx⟩
      have hx := hx _ (SqL.of el)
      rw [List.getElem?_map, List.getElem?_eq_getElem hi] at hx
      cases hx
      walk_at "go"
      exact ⟨_, _, rfl⟩
    · rintro σ J1 ⟨rfl, v1, v2, rfl⟩
      exact q _ s2
def spCn (k : Cs) (K : PySem.W.Frag) : Sp := fun vs H Q _ => ∃ (x d : Addr) (l : List Pt) (pu : Pu), vs = [.ref x, .ref d] ∧ PaAt k K H l x ∧ H d = some (.dK (pk pu)) ∧ (∀ c ∈ PAR, c ∈ txB l → (cn pu c).isSome = true) ∧ Q .non H
theorem ok_check_named (F : FnP K "check_named" s_check_named f fd) (cP : Cls K k.P) (tP : NoAttr K k.P "text") {tok_PARTIES : Tok} (g_PARTIES : mg "PARTIES" = some (.str "abcdef" tok_PARTIES)) : FnOk P w K mg base CX0 1 f fd P_check_named (spCn k K) := by
  refine F.ok sc_check_named (fun vs H Q E h => ?_) (fun cdv A outer s H vs Q E hr h => ?_)
  · obtain ⟨x, d, l, pu, rfl, _⟩ := h
    rfl
  · obtain ⟨x, d, l, pu, rfl, ⟨dy, t, as, hx, hT, hP⟩, hd, hk, q⟩ := h
    refine ⟨_, PSs.nox (pss_one (ps_for PassesOwn.never rfl (pi_str (pe_glob (by rfl) g_PARTIES (relv_str (x := "abcdef")))) (pg_name (i := 2) sc_check_named.nd rfl (by first | exact .inl rfl | exact .inr rfl))
        (pss_one (ps_if (PW.pt (pw_and (pt_cmpR op_in_sign (pv 2) (pe_fld (pv 0) rfl) (by rfl)) (pw_and1 (pt_cmp (pc_dnotin (hu_of hr) (pv 2) (pv 1)) (by rfl))))) (pss_one ps_never) pss_nil)))), ?_⟩
    rw [show ("abcdef" : Str) = S PAR by decide +kernel]
    walk_at "go"
    refine for_gen (n := 6) (fun i σ J => J = H ∧ ∃ v2, σ = [some (.ref x), some (.ref d), v2]) ⟨rfl, _, rfl⟩ ?_ ?_ ?_ ?_
    · rintro i σ J hi ⟨rfl, _⟩
      show i < (S PAR).cps.size
      exact hi
    · rintro σ J _
      show (S PAR).cps.size ≤ 6
      decide
    · rintro i σ J z J' hi ⟨rfl, v2, rfl⟩ ⟨rfl, y, ey, rfl⟩
      have ey : PAR[i]? = some y := by simpa using ey
      have hy := List.mem_of_getElem? ey
      walk_at "go"
      refine ite2 (fun e => ?_) (fun e => ?_)
      · have hs := hk y hy (by simpa [S] using of_decide_eq_true e)
        have dg : DGet J' d (.str (S [y])) (valV (pk pu) (.inr (S [y]))) := DGet.k (k := .inr (S [y])) hd
        rw [valV_pk] at dg
        obtain ⟨n, en⟩ := Option.isSome_iff_exists.mp hs
        rw [en] at dg
        walk_at "go"
        refine ⟨d, _, rfl, dg, ?_⟩
        walk_at "go"
        exact ⟨_, rfl⟩
      · walk_at "go"
        exact ⟨_, rfl⟩
    · rintro σ J ⟨rfl, v2, rfl⟩
      exact q
theorem smR_x {H : Hp} {x dy : Addr} {fs : List (Str × V)} {o : HO} (hd : CY ≠ k.T ∧ CY ≠ k.E ∧ CY ≠ k.C ∧ CY ≠ k.R ∧ CY ≠ k.N ∧ CY ≠ k.M ∧ CY ≠ k.P) (hx : H x = some (.ins CY dy fs)) : SmR k K H (upd H x o) where
  ins := fun {a C dx gs} hC h => by
    rw [upd_ne (fun e => by
      rw [e, hx] at h
      cases h
      obtain ⟨d1, d2, d3, d4, d5, d6, d7⟩ := hd
      rcases hC with z | z | z | z | z | z | z <;> first | exact d1 z | exact d2 z | exact d3 z | exact d4 z | exact d5 z | exact d6 z | exact d7 z)]
    exact h
  tup := fun {a ys} h => by
    rcases h with (h | ⟨o, h⟩) | h
    · exact .inl (.inl (by rw [upd_ne (fun e => by rw [e, hx] at h; cases h)]; exact h))
    · exact .inl (.inr ⟨o, by rw [upd_ne (fun e => by rw [e, hx] at h; cases h)]; exact h⟩)
    · exact .inr h
theorem MbsAt.setx {H : Hp} {x dy : Addr} {fs : List (Str × V)} {o : HO} {r : List Mb} {ts : List Addr} (hd : CY ≠ k.T ∧ CY ≠ k.E ∧ CY ≠ k.C ∧ CY ≠ k.R ∧ CY ≠ k.N ∧ CY ≠ k.M ∧ CY ≠ k.P) (hx : H x = some (.ins CY dy fs)) (h : MbsAt k K H r ts) : MbsAt k K (upd H x o) r ts := MbsAt.cut (smR_x hd hx) (fun t o' e ⟨xs, z⟩ => by
  subst z
  rw [upd_ne (fun c => by rw [c, hx] at e; cases e)]
  exact e) _ _ h
/-- a new play: its list of moves is new, too -/
def spPi (CY : Addr) (k : Cs) (K : PySem.W.Frag) : Sp := fun vs H Q _ => ∃ (x dx p d : Addr) (l : List Pt) (pu : Pu) (ks : List Nat), vs = [.ref x, .ref p, .ref d] ∧ H x = some (.ins CY dx []) ∧ PaAt k K H l p ∧ H d = some (.dK (pk pu)) ∧ (∀ x ∈ pu, x.1 ∈ PAR) ∧ (∀ c ∈ PAR, c ∈ txB l → (cn pu c).isSome = true) ∧ OkL l ∧ wtL l ≤ 400 ∧ dpL l ≤ 30 ∧ NmL ks l ∧ pu.map (·.1) = ks ∧ ks.length ≤ 1000 ∧ ∀ H' q st o, (∀ a o, a ≠ x → H a = some o → H' a = some o) → H q = none → PlAt CY k K H' x q st [] o → Stl ⟨pu, mbs l, []⟩ st o → GSt ks 40800 st → Q .non H'
theorem ok_pinit2 (F : FnM K "__init__" "Play.__init__" s_Play___init__ f fd) (pa : PtA K k) (py : PlA K k CY) (m_dict : mg "dict" = none) (c_as_pact : CalX P w K mg base 1 "as_pact" (spAsP k K)) (c_check_purses : Cal P w K mg base 4 "check_purses" (spCp K)) (c_check_named : Cal P w K mg base 1 "check_named" (spCn k K)) (c_members_of : Cal P w K mg base 1 "members_of" (spMo k K)) (me_settle : Met P w K mg base 9 CY "settle" (spSt CY k K)) : FnOk P w K mg base CX0 10 f fd P_Play___init__ (spPi CY k K) := by
  refine F.ok sc_Play___init__ (fun vs H Q E h => ?_) (fun cdv A outer s H vs Q E hr h => ?_)
  · obtain ⟨x, dx, p, d, l, pu, ks, rfl, _⟩ := h
    rfl
  · obtain ⟨x, dx, p, d, l, pu, ks, rfl, hx, hp, hd, hk, hn, ok, hw, hdp, hnm, hks, hkl, qq⟩ := h
    obtain ⟨cY, n1, n2, n3, n4, n5, n6, df⟩ := id py
    refine ⟨_, PSs.nox (pss_cons (ps_expr (pe_clE c_as_pact (fun _ => passS0) hr (by decide) (by rfl) (pa_cons (pv 1) pa_nil)))
      (pss_cons (ps_expr (pe_cl c_check_purses hr (by decide) (by rfl) (pa_cons (pv 2) pa_nil)))
      (pss_cons (ps_expr (pe_cl c_check_named hr (by decide) (by rfl) (pa_cons (pv 1) (pa_cons (pv 2) pa_nil))))
      (pss_cons (ps_fld (pv 0) (pe_callTy call_dictD (by rfl) m_dict (by decide +kernel) (pa_cons (pv 2) pa_nil)) rfl)
      (pss_cons (ps_fld (pv 0) (pe_cl c_members_of hr (by decide) (by rfl) (pa_cons (pv 1) pa_nil)) rfl)
      (pss_cons (ps_fld (pv 0) (pe_lst pa_nil) rfl)
      (pss_cons (ps_fld (pv 0) (pe_lst pa_nil) rfl)
      (pss_cons (ps_fld (pv 0) pe_non rfl)
      (pss_cons (ps_fld (pv 0) pe_non rfl)
      (pss_one (ps_expr (pe_me0 me_settle (pv 0) hr (by decide))))))))))))), ?_⟩
    walk_at "go"
    refine ⟨p, l, rfl, hp, ?_⟩
    walk_at "go"
    refine ⟨d, pu, rfl, hd, hk, fun H1 s1 => ?_⟩
    walk_at "go"
    refine ⟨p, d, l, pu, rfl, hp.mono s1, s1 _ _ hd, hn, ?_⟩
    walk_at "go"
    refine ⟨d, _, rfl, .inl (s1 _ _ hd), fun D nD => ?_⟩
    have s2 := same_new (o := .dK (pk pu)) nD
    have eD : (upd H1 D (.dK (pk pu))) D = some (.dK (pk pu)) := upd_same
    generalize upd H1 D (.dK (pk pu)) = H2 at s2 eD ⊢
    have hx2 := s2 _ _ (s1 _ _ hx)
    have hp2 := hp.mono (s1.trans s2)
    walk_at "go"
    refine ⟨x, CY, dx, _, rfl, hx2, cY, n1, by show (0 : Nat) < 1000; decide, ?_⟩
    have b3 : SB x H2 (upd H2 x (.ins CY dx [("kept_purses", .ref D)])) := SB.upd (Z.Same.sb (Same.refl _))
    have e3 : (upd H2 x (.ins CY dx [("kept_purses", .ref D)])) x = some (.ins CY dx [("kept_purses", .ref D)]) := upd_same
    have p3 := hp2.monoR (smR_x (o := .ins CY dx [("kept_purses", .ref D)]) df hx2)
    have dxn : D ≠ x := fun e => by rw [e, hx2] at eD; cases eD
    generalize hH3 : upd H2 x (.ins CY dx [("kept_purses", .ref D)]) = H3 at b3 e3 p3
    rw [show upd H2 x (.ins CY dx (putF "kept_purses" (.ref D) [])) = H3 from hH3]
    clear hH3
    walk_at "go"
    obtain ⟨dyM, tM, asM, hM1, hM2, hM3⟩ := p3
    refine ⟨_, dyM, tM, l, asM, rfl, hM1, hM2, by rw [PtsAt.len _ _ hM3]; exact len_400 hw, fun R ts H4 s4 nR_ eR_ lt_ hG_ => ?_⟩
    have nw := nwR_mbs s4 hM3 nR_ eR_ lt_ hG_
    clear hM1 hM2 hM3 nR_ eR_ lt_ hG_
    obtain ⟨w1, w2, w3, w4⟩ := nw
    have hx4 := s4 _ _ e3
    have eD4 := s4 _ _ (b3 _ _ dxn eD)
    walk_at "go"
    refine ⟨x, CY, dx, _, rfl, hx4, cY, n2, by show (1 : Nat) < 1000; decide, ?_⟩
    have b5 : SB x H4 (upd H4 x (.ins CY dx [("kept_purses", .ref D), ("kept_row", .ref R)])) := SB.upd (Z.Same.sb (Same.refl _))
    have e5 : (upd H4 x (.ins CY dx [("kept_purses", .ref D), ("kept_row", .ref R)])) x = some (.ins CY dx [("kept_purses", .ref D), ("kept_row", .ref R)]) := upd_same
    have w5 := w4.setx (o := .ins CY dx [("kept_purses", .ref D), ("kept_row", .ref R)]) df hx4
    have rxn : R ≠ x := fun e => by rw [e, hx4] at w2; cases w2
    generalize hH5 : upd H4 x (.ins CY dx [("kept_purses", .ref D), ("kept_row", .ref R)]) = H5 at b5 e5 w5
    rw [show upd H4 x (.ins CY dx (putF "kept_row" (.ref R) [("kept_purses", .ref D)])) = H5 from hH5]
    clear hH5
    walk_at "go"
    intro L nL
    generalize eH_ : upd H5 L _ = H6
    have s6 : Same H5 H6 := by rw [← eH_]; exact same_new nL
    have eL : H6 L = some (.lst []) := by rw [← eH_]; exact upd_same
    clear eH_
    have hx6 := s6 _ _ e5
    walk_at "go"
    refine ⟨x, CY, dx, _, rfl, hx6, cY, n3, by show (2 : Nat) < 1000; decide, ?_⟩
    have b7 : SB x H6 (upd H6 x (.ins CY dx [("kept_purses", .ref D), ("kept_row", .ref R), ("kept_happened", .ref L)])) := SB.upd (Z.Same.sb (Same.refl _))
    have e7 : (upd H6 x (.ins CY dx [("kept_purses", .ref D), ("kept_row", .ref R), ("kept_happened", .ref L)])) x = some (.ins CY dx [("kept_purses", .ref D), ("kept_row", .ref R), ("kept_happened", .ref L)]) := upd_same
    have w7 := (w5.mono s6 _ _).setx (o := .ins CY dx [("kept_purses", .ref D), ("kept_row", .ref R), ("kept_happened", .ref L)]) df hx6
    have lxn : L ≠ x := fun e => by rw [e, hx6] at eL; cases eL
    generalize hH7 : upd H6 x (.ins CY dx [("kept_purses", .ref D), ("kept_row", .ref R), ("kept_happened", .ref L)]) = H7 at b7 e7 w7
    rw [show upd H6 x (.ins CY dx (putF "kept_happened" (.ref L) [("kept_purses", .ref D), ("kept_row", .ref R)])) = H7 from hH7]
    clear hH7
    walk_at "go"
    intro q nq
    generalize eH_ : upd H7 q _ = H8
    have s8 : Same H7 H8 := by rw [← eH_]; exact same_new nq
    have eq : H8 q = some (.lst []) := by rw [← eH_]; exact upd_same
    clear eH_
    have hx8 := s8 _ _ e7
    walk_at "go"
    refine ⟨x, CY, dx, _, rfl, hx8, cY, n4, by show (3 : Nat) < 1000; decide, ?_⟩
    walk_at "go"
    refine ⟨x, CY, dx, _, rfl, upd_same, cY, n5, by show (4 : Nat) < 1000; decide, ?_⟩
    walk_at "go"
    refine ⟨x, CY, dx, _, rfl, upd_same, cY, n6, by show (5 : Nat) < 1000; decide, ?_⟩
    rw [upd_upd, upd_upd]
    have b9 : SB x H8 (upd H8 x (.ins CY dx (plF D R L q .go))) := SB.upd (Z.Same.sb (Same.refl _))
    have e9 : (upd H8 x (.ins CY dx (plF D R L q .go))) x = some (.ins CY dx (plF D R L q .go)) := upd_same
    have w9 := (w7.mono s8 _ _).setx (o := .ins CY dx (plF D R L q .go)) df hx8
    have qxn : q ≠ x := fun e => by rw [e, hx8] at eq; cases eq
    generalize hH9 : upd H8 x (.ins CY dx (plF D R L q .go)) = H9 at b9 e9 w9
    rw [show upd H8 x (.ins CY dx (putF "kept_loser" .non (putF "kept_outcome" .non (putF "kept_past" (.ref q) [("kept_purses", .ref D), ("kept_row", .ref R), ("kept_happened", .ref L)])))) = H9 from hH9]
    clear hH9
    have q9 := b9 _ _ qxn eq
    have dq : D ≠ q := ne_of_none (b7 _ _ dxn (s6 _ _ (b5 _ _ dxn eD4))) nq
    have rq : R ≠ q := ne_of_none (b7 _ _ rxn (s6 _ _ (b5 _ _ rxn w2))) nq
    have lq : L ≠ q := ne_of_none (b7 _ _ lxn eL) nq
    have d9 := b9 _ _ dxn (s8 _ _ (b7 _ _ dxn (s6 _ _ (b5 _ _ dxn eD4))))
    have r9 := b9 _ _ rxn (s8 _ _ (b7 _ _ rxn (s6 _ _ (b5 _ _ rxn w2))))
    have l9 := b9 _ _ lxn (s8 _ _ (b7 _ _ lxn eL))
    have pl : PlAt CY k K H9 x q ⟨pu, mbs l, []⟩ [] .go := ⟨dx, D, R, L, [], e9, q9, ⟨cut2_of dxn dq d9, ⟨ts, cut2_of rxn rq r9, MbsAt.cut (cut2_r df e9 q9) (cut2_tup e9 q9) _ _ w9⟩, cut2_of lxn lq l9⟩, rfl⟩
    have big : SB x H H9 := (Z.Same.sb (s1.trans s2)).trans (b3.trans ((Z.Same.sb s4).trans (b5.trans ((Z.Same.sb s6).trans (b7.trans ((Z.Same.sb s8).trans b9))))))
    have nqH : H q = none := by
      cases e : H q with
      | none => rfl
      | some o =>
        have := (b3.trans ((Z.Same.sb s4).trans (b5.trans ((Z.Same.sb s6).trans b7)))) _ _ qxn ((s1.trans s2) _ _ e)
        rw [nq] at this
        cases this
    have hm := msL_wt l ok
    have gs : GSt ks 40800 ⟨pu, mbs l, []⟩ := ⟨rok_mbs ok hw hdp, nmR_mbs hnm, by show mu (mbs l) + 0 ≤ _; rw [mu_mbs]; omega, hks⟩
    walk_at "go"
    refine ⟨x, dx, _, rfl, e9, rfl, ?_⟩
    refine ⟨x, q, ks, 40800, ⟨pu, mbs l, []⟩, .go, [], rfl, pl, gs, hkl, by decide, fun H' st' o' tw pl2 res => ?_⟩
    walk_at "go"
    refine qq H' q st' o' (fun a o na ha => ?_) nqH pl2 res.2 res.1
    exact cut2_same _ _ (tw _ _ (cut2_of na (ne_of_none ha nqH) (big _ _ na ha)))
end
end Z
set_option pp.maxSteps 700
set_option Elab.async false
set_option linter.all false
set_option maxRecDepth 100000
set_option maxHeartbeats 4000000
open SX (S S_inj S_len S_cat)
namespace Z
open Pk NdefX
open PySem PySem.Spec PyProof.Rows L2
open C8 (pss_cut tCut)
local macro_rules | `(tactic| walk_at "num") => `(tactic| first | rfl | omega | decide | exact Nat.le_of_lt (small1000 (by simp)) | exact ⟨by omega, by omega⟩ | exact ⟨by omega, by omega, by omega⟩ | exact ⟨by decide, by decide, by decide⟩ | exact Or.inl ⟨by omega, by omega⟩ | exact Or.inr ⟨by omega, by omega⟩)
local macro_rules | `(tactic| walk_at "go") => `(tactic| repeat (first | refine ⟨_, rfl, ?_⟩ | refine ⟨_, _, rfl, rfl, ?_⟩ | refine ⟨_, _, rfl, ?_⟩ | (refine ⟨_, _, rfl, rfl, ?_, ?_⟩; focus walk_at "num") | refine Or.inl ⟨_, rfl, ?_⟩ | refine ⟨_, _, _, _, rfl, rfl, (by assumption), (by rfl), ?_⟩ | refine ⟨_, _, _, _, _, rfl, (by assumption), (by assumption), (by assumption), (by rfl), ?_⟩ | refine ⟨rfl, ?_⟩ | (refine And.intro ?_ ?_; focus walk_at "num")))
abbrev s_marks : Stmt := topS 50
abbrev N_marks : List Str := []
abbrev P_marks : List Str := []
theorem sc_marks : FnScope N_marks P_marks (defScope s_marks) := ⟨rfl, rfl, rfl, by decide +kernel, rfl, by decide +kernel, by decide +kernel⟩
abbrev s_names : Stmt := topS 75
abbrev N_names : List Str := ["_law_cell_here", "_law_draws_here", "_law_rest", "_law_found", "_law_k", "_law_at"]
abbrev P_names : List Str := ["_law_cell_here"]
theorem sc_names : FnScope N_names P_names (defScope s_names) := ⟨rfl, rfl, rfl, by decide +kernel, rfl, by decide +kernel, by decide +kernel⟩
abbrev s_is : Stmt := topS 61
abbrev N_is : List Str := ["_law_actual", "_law_number_here"]
abbrev P_is : List Str := ["_law_actual", "_law_number_here"]
theorem sc_is : FnScope N_is P_is (defScope s_is) := ⟨rfl, rfl, rfl, by decide +kernel, rfl, by decide +kernel, by decide +kernel⟩
abbrev s_says : Stmt := topS 62
abbrev N_says : List Str := ["_law_actual", "_law_text_here"]
abbrev P_says : List Str := ["_law_actual", "_law_text_here"]
theorem sc_says : FnScope N_says P_says (defScope s_says) := ⟨rfl, rfl, rfl, by decide +kernel, rfl, by decide +kernel, by decide +kernel⟩
theorem cutS_lo {l : List Nat} {c : Nat} (h : c ≤ l.length) : cutS (S l) none (some (c : Int)) = S (l.take c) := by
  have e : (S l).length = l.length := S_len _
  unfold cutS
  rw [e, HT.sIx_nat, Nat.min_eq_left h, show HT.sIx l.length 0 none = 0 from rfl, List.drop_zero, Nat.sub_zero]
theorem cutS_hi {l : List Nat} {c : Nat} (h : c ≤ l.length) : cutS (S l) (some (c : Int)) none = S (l.drop c) := by
  have e : (S l).length = l.length := S_len _
  unfold cutS
  rw [e, HT.sIx_nat, Nat.min_eq_left h, show HT.sIx l.length l.length none = l.length from rfl, List.take_of_length_le (by rw [List.length_drop]; exact Nat.le_refl _)]
section
variable {P : Program} {w : World} {K : PySem.W.Frag} {mg : Str → Option Value} {base : Heap} {f C CP CY : Addr} {k : Cs} {fd : FuncData}
def spMk_ : Sp := fun vs H Q _ => vs = [] ∧ Q (.str (S MRK)) H
theorem ok_marks (F : FnP K "_law_marks" s_marks f fd) : FnOk P w K mg base CX0 1 f fd P_marks spMk_ := by
  refine F.ok sc_marks (fun vs H Q E h => ?_) (fun cdv A outer s H vs Q E hr h => ?_)
  · obtain ⟨rfl, _⟩ := h
    rfl
  · obtain ⟨rfl, q⟩ := h
    refine ⟨_, PSs.nox (pss_one (ps_ret pe_str)), ?_⟩
    rw [show Str.ofString "ABCDEFGHIJKLMNOPQRSTUVWXYZ" = S MRK by decide +kernel]
    walk_at "go"
    exact q
def spIs : Sp := fun vs H Q _ => ∃ n : Int, vs = [.int n, .int n] ∧ Q (.bl true) H
theorem ok_is (F : FnP K "_law_is" s_is f fd) (m_isinstance : mg "isinstance" = none) (m_int : mg "int" = none) (m_bool : mg "bool" = none) : FnOk P w K mg base CX0 1 f fd P_is spIs := by
  refine F.ok sc_is (fun vs H Q E h => ?_) (fun cdv A outer s H vs Q E hr h => ?_)
  · obtain ⟨n, rfl, _⟩ := h
    rfl
  · obtain ⟨n, rfl, q⟩ := h
    refine ⟨_, PSs.nox (pss_one (ps_ret (pe_and (pe_callB call_isi (by rfl) m_isinstance (by decide +kernel) (pa_cons (pv 0) (pa_cons (pe_bltn (v := .ty "int") (by rfl) m_int (by decide +kernel) rfl) pa_nil))) (pe_and (pe_not (pe_callB call_isi (by rfl) m_isinstance (by decide +kernel) (pa_cons (pv 0) (pa_cons (pe_bltn (v := .ty "bool") (by rfl) m_bool (by decide +kernel) rfl) pa_nil)))) (pe_one (pe_cmpR op_eq (pv 0) (pv 1) (nomark _))))))), ?_⟩
    walk_at "go"
    refine isi (c := "int") (b := true) (.int _) (by decide +kernel) ?_
    walk_at "go"
    refine isi (c := "bool") (b := false) (.int _) (by decide +kernel) ?_
    walk_at "go"
    rw [decide_eq_true rfl]
    exact q
def spSays : Sp := fun vs H Q _ => ∃ t : Str, vs = [.str t, .str t] ∧ Q (.bl true) H
theorem ok_says (F : FnP K "_law_says" s_says f fd) (m_isinstance : mg "isinstance" = none) (m_str : mg "str" = none) : FnOk P w K mg base CX0 1 f fd P_says spSays := by
  refine F.ok sc_says (fun vs H Q E h => ?_) (fun cdv A outer s H vs Q E hr h => ?_)
  · obtain ⟨n, rfl, _⟩ := h
    rfl
  · obtain ⟨n, rfl, q⟩ := h
    refine ⟨_, PSs.nox (pss_one (ps_ret (pe_and (pe_callB call_isi (by rfl) m_isinstance (by decide +kernel) (pa_cons (pv 0) (pa_cons (pe_bltn (v := .ty "str") (by rfl) m_str (by decide +kernel) rfl) pa_nil))) (pe_one (pe_cmpR op_eq (pv 0) (pv 1) (nomark _)))))), ?_⟩
    walk_at "go"
    refine isi (c := "str") (b := true) (.str _) (by decide +kernel) ?_
    walk_at "go"
    rw [decide_eq_true rfl]
    exact q
def spNa : Sp := fun vs H Q _ => ∃ c : Int, vs = [.int c] ∧ ∀ (ps : List Nat) H', Same H H' → ps.Perm PAR → Q (.str (S ps)) H'
theorem ok_names (F : FnP K "_law_names" s_names f fd) (m_int : mg "int" = none) (m_len : mg "len" = none) (m_range : mg "range" = none) (c_draws : Cal P w K mg base 1 "_law_draws" spDraws) : FnOk P w K mg base CX0 2 f fd P_names spNa := by
  refine F.ok sc_names (fun vs H Q E h => ?_) (fun cdv A outer s H vs Q E hr h => ?_)
  · obtain ⟨c, rfl, _⟩ := h
    rfl
  · obtain ⟨c, rfl, q⟩ := h
    refine ⟨_, PSs.nox (pss_cons (ps_set (i := 1) sc_names.nd rfl (by first | exact .inl rfl | exact .inr rfl) (pe_cl c_draws hr (by decide) (by rfl) (pa_cons (pv 0) (pa_cons pe_int pa_nil))))
      (pss_cons (ps_set (i := 2) sc_names.nd rfl (by first | exact .inl rfl | exact .inr rfl) pe_str)
      (pss_cons (ps_set (i := 3) sc_names.nd rfl (by first | exact .inl rfl | exact .inr rfl) pe_str)
      (pss_cons (ps_for PassesOwn.never rfl (pi_range1 (by rfl) m_range (pa_cons pe_int pa_nil)) (pg_name (i := 4) sc_names.nd rfl (by first | exact .inl rfl | exact .inr rfl))
        (pss_cons (ps_set (i := 5) sc_names.nd rfl (by first | exact .inl rfl | exact .inr rfl) (pe_op op_mod (pe_callTy call_int1 (by rfl) m_int (by decide +kernel) (pa_cons (pe_ix ix_list (pv 1) (pv 4) (fun _ _ => rfl)) pa_nil)) (pe_callB call_len_str (by rfl) m_len PySem.boot_len (pa_cons (pv 2) pa_nil))))
      (pss_cons (ps_set (i := 3) sc_names.nd rfl (by first | exact .inl rfl | exact .inr rfl) (pe_op op_add_str (pv 3) (pe_ix ix_str (pv 2) (pv 5) (fun _ _ => rfl))))
      (pss_one (ps_set (i := 2) sc_names.nd rfl (by first | exact .inl rfl | exact .inr rfl) (pe_op op_add_str (pe_slice sl_str (pv 2) po_none (po_some (pv 5))) (pe_slice sl_str (pv 2) (po_some (pe_op op_add (pv 5) pe_int)) po_none)))))))
      (pss_one (ps_ret (pv 3))))))), ?_⟩
    rw [show Str.ofString "abcdef" = S PAR by decide +kernel, show Str.ofString "" = S [] by decide +kernel]
    walk_at "go"
    intro d ds nd hd
    have s1 := same_new (o := .lst (ds.map V.int)) nd
    have ed : (upd H d (.lst (ds.map V.int))) d = some (.lst (ds.map V.int)) := upd_same
    generalize upd H d (.lst (ds.map V.int)) = H1 at s1 ed ⊢
    walk_at "go"
    refine for_gen (n := 6) (fun i σ J => J = H1 ∧ ∃ (f r : List Nat) (v4 v5 : Option V), (f ++ r).Perm PAR ∧ r.length = 6 - i ∧ σ = [some (.int c), some (.ref d), some (.str (S r)), some (.str (S f)), v4, v5]) ⟨rfl, [], PAR, _, _, .refl _, rfl, rfl⟩ ?_ ?_ ?_ ?_
    · rintro i σ J hi _
      exact hi
    · rintro σ J _
      exact Nat.le_refl _
    · rintro i σ J x J' hi ⟨rfl, f', r, v4, v5, hp, lr, rfl⟩ ⟨rfl, rfl⟩
      have lS : (S r).length = r.length := S_len _
      have sr : (S r).length ≤ sizeLine := by rw [lS]; exact szl (by omega)
      have lS2 : (S f').length = f'.length := S_len _
      have lf : f'.length ≤ 6 := by
        have := hp.length_eq
        rw [List.length_append] at this
        have : PAR.length = 6 := rfl
        omega
      walk_at "go"
      refine rd_at (SqL.of ed) (by omega) (by rw [hd.1]; show (0 : Int) + (i : Int) < ((6 : Nat) : Int); omega) ?_
      generalize ds.getD (0 + (i : Int)).toNat 0 = r0
      walk_at "go"
      rw [lS]
      obtain ⟨j, ej, hj⟩ := modN r0 (show 0 < r.length by omega)
      rw [show (fun i j : Int => V.int (i % j)) r0 (r.length : Int) = V.int (j : Int) from congrArg V.int ej]
      refine ⟨S r, (j : Int), r[j], rfl, rfl, sr, at_S hj, ?_⟩
      refine ⟨_, _, rfl, rfl, by rw [lS2]; exact szl (show f'.length + 1 ≤ _ by omega), ?_⟩
      walk_at "go"
      rw [cutS_lo (Nat.le_of_lt hj), show (j : Int) + 1 = ((j + 1 : Nat) : Int) from rfl, cutS_hi hj]
      refine ⟨by rw [S_len, S_len, List.length_take, List.length_drop]; exact szl (by omega), ?_⟩
      walk_at "go"
      refine ⟨f' ++ [r[j]], r.take j ++ r.drop (j + 1), some (.int (0 + (i : Int))), some (.int (j : Int)), ?_, ?_, ?_⟩
      · refine List.Perm.trans ?_ hp
        rw [List.append_assoc]
        refine List.Perm.append_left _ ?_
        refine List.Perm.trans (List.perm_middle (l₁ := r.take j) (a := r[j]) (l₂ := r.drop (j + 1))).symm ?_
        rw [List.getElem_cons_drop, List.take_append_drop]
      · rw [List.length_append, List.length_take, List.length_drop]
        omega
      · rw [← S_cat, ← S_cat]
        rfl
    · rintro σ J ⟨rfl, f', r, v4, v5, hp, lr, rfl⟩
      walk_at "go"
      have : r = [] := List.length_eq_zero_iff.mp lr
      subst this
      rw [List.append_nil] at hp
      exact q f' J s1 hp
end
end Z
set_option Elab.async false
set_option linter.all false
set_option maxRecDepth 100000
namespace Z
open PySem PySem.Spec PyProof.Rows L2
/-- a ** n of at most 2 ^ 27 bits -/
def CPowW (i j : Int) : Prop := 0 ≤ j ∧ (Builtin.Int.intBits i : Int) * j ≤ 2 ^ 27
theorem op_powW {X : Cx} : OpR X (binaryOp .Pow) (rI CPowW fun i j => .int (i ^ j.toNat)) := opI fun _ _ _ _ _ _ _ hc q => pow_int hc.1 hc.2 q
/-- f() -/
theorem pe_cl0 {X : Cx} {k j : Nat} {x : Str} {sp : Sp} {p pos : Pos} (c : Cal X.prog X.w X.K X.mg X.base k x sp) (hr : Room j X.A) (hk : k ≤ j) (hg : Gl X x) (hdb : (x == ("__debug__" : Str)) = false := by decide) : PE X (.Call (.Name x p) [] [] pos) (tCall sp [] E0 tNil) := by
  obtain ⟨f, fd, ps, F, hm, kp, b⟩ := c.ex
  exact pe_call0 F (hr.mono hk) hg hm kp b .nil pass0 hdb
end Z
set_option pp.maxSteps 700
set_option Elab.async false
set_option linter.all false
set_option maxRecDepth 100000
set_option maxHeartbeats 4000000
open SX (S S_inj S_len S_cat)
namespace Z
open Pk NdefX
open PySem PySem.Spec PyProof.Rows L2
open C8 (pss_cut tCut)
local macro_rules | `(tactic| walk_at "num") => `(tactic| first | rfl | omega | decide | exact Nat.le_of_lt (small1000 (by simp)) | exact ⟨by omega, by omega⟩ | exact ⟨by omega, by omega, by omega⟩ | exact ⟨by decide, by decide, by decide⟩ | exact Or.inl ⟨by omega, by omega⟩ | exact Or.inr ⟨by omega, by omega⟩)
local macro_rules | `(tactic| walk_at "go") => `(tactic| repeat (first | refine ⟨_, rfl, ?_⟩ | refine ⟨_, _, rfl, rfl, ?_⟩ | refine ⟨_, _, rfl, ?_⟩ | (refine ⟨_, _, rfl, rfl, ?_, ?_⟩; focus walk_at "num") | refine Or.inl ⟨_, rfl, ?_⟩ | refine ⟨_, _, _, _, rfl, rfl, (by assumption), (by rfl), ?_⟩ | refine ⟨_, _, _, _, _, rfl, (by assumption), (by assumption), (by assumption), (by rfl), ?_⟩ | refine ⟨rfl, ?_⟩ | (refine And.intro ?_ ?_; focus walk_at "num")))
abbrev s_coins : Stmt := topS 76
abbrev N_coins : List Str := ["_law_draw", "_law_cell_here"]
abbrev P_coins : List Str := ["_law_draw", "_law_cell_here"]
theorem sc_coins : FnScope N_coins P_coins (defScope s_coins) := ⟨rfl, rfl, rfl, by decide +kernel, rfl, by decide +kernel, by decide +kernel⟩
section
variable {P : Program} {w : World} {K : PySem.W.Frag} {mg : Str → Option Value} {base : Heap} {f C CP CY : Addr} {k : Cs} {fd : FuncData}
def spCi : Sp := fun vs H Q _ => ∃ d c : Int, vs = [.int d, .int c] ∧ 0 ≤ d ∧ d < 1000000 ∧ ∀ (n : Nat) H', Same H H' → Q (.int (n : Int)) H'
theorem ok_coins_ (F : FnP K "_law_coins" s_coins f fd) (m_int : mg "int" = none) : FnOk P w K mg base CX0 1 f fd P_coins spCi := by
  refine F.ok sc_coins (fun vs H Q E h => ?_) (fun cdv A outer s H vs Q E hr h => ?_)
  · obtain ⟨d, c, rfl, _⟩ := h
    rfl
  · obtain ⟨d, c, rfl, d0, d1, q⟩ := h
    refine ⟨_, PSs.nox (pss_cons (ps_if (pt_cmpR op_lt (pe_op op_mod (pe_callTy call_int1 (by rfl) m_int (by decide +kernel) (pa_cons (pv 0) pa_nil)) pe_int) pe_int (nomark _)) (pss_one (ps_ret (pe_op op_mod (pe_callTy call_int1 (by rfl) m_int (by decide +kernel) (pa_cons (pe_op op_fdiv (pv 0) pe_int) pa_nil)) (pe_ix ix_list (pe_lst (pa_cons pe_int (pa_cons pe_int pa_nil))) (pe_op op_mod (pe_callTy call_int1 (by rfl) m_int (by decide +kernel) (pa_cons (pv 0) pa_nil)) pe_int) (fun _ _ => rfl))))) pss_nil)
      (pss_cons (ps_if (pt_cmpR op_eq (pe_op op_mod (pe_callTy call_int1 (by rfl) m_int (by decide +kernel) (pa_cons (pv 0) pa_nil)) pe_int) pe_int (nomark _)) (pss_one (ps_ret (pe_op op_mul (pe_op op_pow pe_int pe_int) (pe_op op_add (pe_op op_mod (pe_callTy call_int1 (by rfl) m_int (by decide +kernel) (pa_cons (pe_op op_fdiv (pv 0) pe_int) pa_nil)) pe_int) pe_int)))) pss_nil)
      (pss_one (ps_ret (pe_ix ix_list (pe_lst (pa_cons (pe_op op_powW (pe_op op_pow pe_int pe_int) pe_int) (pa_cons (pe_op op_mod (pe_callTy call_int1 (by rfl) m_int (by decide +kernel) (pa_cons (pv 1) pa_nil)) (pe_op op_add (pe_op op_powW (pe_op op_pow pe_int pe_int) pe_int) pe_int)) (pa_cons pe_int pa_nil)))) (pe_op op_mod (pe_callTy call_int1 (by rfl) m_int (by decide +kernel) (pa_cons (pe_op op_fdiv (pv 0) pe_int) pa_nil)) pe_int) (fun _ _ => rfl)))))), ?_⟩
    walk_at "go"
    have hb1 : (0 : Int) < 10 ^ (50 : Int).toNat := by decide +kernel
    have hb2 : CPow 10 50 := ⟨by decide, by decide, by decide⟩
    have hb3 : CPow 10 58 := ⟨by decide, by decide, by decide⟩
    have hb4 : CPowW (10 ^ (50 : Int).toNat) 4 := ⟨by decide, by decide +kernel⟩
    have hb5 : (0 : Int) < (10 ^ (50 : Int).toNat) ^ (4 : Int).toNat := by decide +kernel
    have e : d % 4 = 0 ∨ d % 4 = 1 ∨ d % 4 = 2 ∨ d % 4 = 3 := by omega
    rcases e with e | e | e | e <;> rw [e]
    · walk_at "go"
      intro L nL
      generalize eH_ : upd H L _ = H1
      have s1 : Same H H1 := by rw [← eH_]; exact same_new nL
      have eL : H1 L = some (.lst [.int 12, .int 60]) := by rw [← eH_]; exact upd_same
      clear eH_
      walk_at "go"
      rw [show (fun i j : Int => V.int (i % j)) d 4 = V.int 0 from congrArg V.int e]
      refine ⟨L, _, _, _, rfl, rfl, SqL.of eL, at_0, ?_⟩
      walk_at "go"
      have z := q (d / 4 % 12).toNat H1 s1
      rw [Int.toNat_of_nonneg (by omega)] at z
      exact z
    · walk_at "go"
      intro L nL
      generalize eH_ : upd H L _ = H1
      have s1 : Same H H1 := by rw [← eH_]; exact same_new nL
      have eL : H1 L = some (.lst [.int 12, .int 60]) := by rw [← eH_]; exact upd_same
      clear eH_
      walk_at "go"
      rw [show (fun i j : Int => V.int (i % j)) d 4 = V.int 1 from congrArg V.int e]
      refine ⟨L, _, _, _, rfl, rfl, SqL.of eL, at_1, ?_⟩
      walk_at "go"
      have z := q (d / 4 % 60).toNat H1 s1
      rw [Int.toNat_of_nonneg (by omega)] at z
      exact z
    · walk_at "go"
      rw [show (fun i j : Int => V.int (i % j)) d 4 = V.int 2 from congrArg V.int e]
      walk_at "go"
      have z := q ((10 ^ (58 : Int).toNat) * (d / 4 % 9 + 1)).toNat H (Same.refl _)
      rw [Int.toNat_of_nonneg (Int.mul_nonneg (Int.pow_nonneg (by decide)) (by omega))] at z
      exact z
    · walk_at "go"
      rw [show (fun i j : Int => V.int (i % j)) d 4 = V.int 3 from congrArg V.int e]
      walk_at "go"
      have hp := Int.emod_nonneg c (show ((10 : Int) ^ (50 : Int).toNat) ^ (4 : Int).toNat + 1 ≠ 0 by omega)
      generalize ha : ((10 : Int) ^ (50 : Int).toNat) ^ (4 : Int).toNat = a at hb5 hp
      generalize hc : c % (a + 1) = b at hp
      intro L nL
      have s1 := same_new (o := .lst ([a, b, 0].map V.int)) nL
      have eL : (upd H L (.lst ([a, b, 0].map V.int))) L = some (.lst ([a, b, 0].map V.int)) := upd_same
      rw [show (fun i j : Int => V.int (i ^ j.toNat)) (10 ^ (50 : Int).toNat) 4 = V.int a from congrArg V.int ha, show (fun i j : Int => V.int (i % j)) c (a + 1) = V.int b from congrArg V.int hc]
      rw [show [V.int a, V.int b, V.int 0] = [a, b, 0].map V.int from rfl]
      generalize upd H L (.lst ([a, b, 0].map V.int)) = H1 at s1 eL ⊢
      walk_at "go"
      refine rd_at (xs := [a, b, 0]) (SqL.of eL) (by omega) (by show d / 4 % 3 < ((3 : Nat) : Int); omega) ?_
      have z := q ([a, b, 0].getD (d / 4 % 3).toNat 0).toNat H1 s1
      rw [Int.toNat_of_nonneg ?_] at z
      · exact z
      · have e : d / 4 % 3 = 0 ∨ d / 4 % 3 = 1 ∨ d / 4 % 3 = 2 := by omega
        rcases e with e | e | e <;> rw [e]
        · exact Int.le_of_lt hb5
        · exact hp
        · exact Int.le_refl _
end
end Z
set_option pp.maxSteps 700
set_option Elab.async false
set_option linter.all false
set_option maxRecDepth 100000
set_option maxHeartbeats 4000000
open SX (S S_inj S_len S_cat)
namespace Pk
/-- a purse is put into the purses -/
def pp (pu : Pu) (c n : Nat) : Pu := if (cn pu c).isSome = true then sc pu c n else pu ++ [(c, n)]
theorem cn_none {pu : Pu} {c : Nat} (h : cn pu c = none) : c ∉ pu.map (·.1) := fun m => by
  have := cn_ky m
  rw [h] at this
  cases this
theorem pp_ky (pu : Pu) (c n : Nat) : (pp pu c n).map (·.1) = if (cn pu c).isSome = true then pu.map (·.1) else pu.map (·.1) ++ [c] := by
  unfold pp
  split
  · rw [sc_ky]
  · rw [List.map_append]
    rfl
theorem pp_nd {pu : Pu} {c n : Nat} (h : (pu.map (·.1)).Nodup) : ((pp pu c n).map (·.1)).Nodup := by
  rw [pp_ky]
  split
  · exact h
  · rename_i z
    refine List.nodup_append.mpr ⟨h, List.nodup_cons.mpr ⟨List.not_mem_nil, List.nodup_nil⟩, fun a ha b hb e => ?_⟩
    rw [List.mem_singleton.mp hb] at e
    have : cn pu c = none := by
      cases e : cn pu c with
      | none => rfl
      | some _ => rw [e] at z; exact absurd rfl z
    exact cn_none this (e ▸ ha)
theorem pp_mem {pu : Pu} {c n x : Nat} : x ∈ (pp pu c n).map (·.1) ↔ x ∈ pu.map (·.1) ∨ x = c := by
  rw [pp_ky]
  split
  · rename_i h
    obtain ⟨m, e⟩ := Option.isSome_iff_exists.mp h
    exact ⟨.inl, fun z => z.elim id fun e2 => e2 ▸ cn_ky2 e⟩
  · rw [List.mem_append, List.mem_singleton]
end Pk
namespace Z
open Pk NdefX
open PySem PySem.Spec PyProof.Rows L2
open C8 (pss_cut tCut)
local macro_rules | `(tactic| walk_at "num") => `(tactic| first | rfl | omega | decide | exact Nat.le_of_lt (small1000 (by simp)) | exact ⟨by omega, by omega⟩ | exact ⟨by omega, by omega, by omega⟩ | exact ⟨by decide, by decide, by decide⟩ | exact Or.inl ⟨by omega, by omega⟩ | exact Or.inr ⟨by omega, by omega⟩)
local macro_rules | `(tactic| walk_at "go") => `(tactic| repeat (first | refine ⟨_, rfl, ?_⟩ | refine ⟨_, _, rfl, rfl, ?_⟩ | refine ⟨_, _, rfl, ?_⟩ | (refine ⟨_, _, rfl, rfl, ?_, ?_⟩; focus walk_at "num") | refine Or.inl ⟨_, rfl, ?_⟩ | refine ⟨_, _, _, _, rfl, rfl, (by assumption), (by rfl), ?_⟩ | refine ⟨_, _, _, _, _, rfl, (by assumption), (by assumption), (by assumption), (by rfl), ?_⟩ | refine ⟨rfl, ?_⟩ | (refine And.intro ?_ ?_; focus walk_at "num")))
abbrev s_purses : Stmt := topS 77
abbrev N_purses : List Str := ["_law_names_here", "_law_many", "_law_draws_here", "_law_cell_here", "_law_purses_here", "_law_k", "_law_at"]
abbrev P_purses : List Str := ["_law_names_here", "_law_many", "_law_draws_here", "_law_cell_here"]
theorem sc_purses : FnScope N_purses P_purses (defScope s_purses) := ⟨rfl, rfl, rfl, by decide +kernel, rfl, by decide +kernel, by decide +kernel⟩
theorem putK_pp (pu : Pu) (c n : Nat) : putK (pk pu) (.inr (S [c])) (.int (n : Int)) = pk (pp pu c n) := by
  unfold pp
  cases e : cn pu c with
  | some m =>
    rw [show (some m).isSome = true from rfl, if_pos rfl]
    exact putK_pk pu c n e
  | none =>
    rw [if_neg (by nofun)]
    unfold putK
    rw [if_neg (by rw [valV_any, valV_pk, e]; nofun)]
    unfold pk
    rw [List.map_append]
    rfl
section
variable {P : Program} {w : World} {K : PySem.W.Frag} {mg : Str → Option Value} {base : Heap} {f C CP CY : Addr} {k : Cs} {fd : FuncData}
theorem getD_dr {n : Nat} {ds : List Int} {hd : Dr n ds} (i : Nat) : 0 ≤ ds.getD i 0 ∧ ds.getD i 0 < 1000000 := by
  rw [List.getD_eq_getElem?_getD]
  cases e : ds[i]? with
  | none => exact ⟨Int.le_refl _, by decide⟩
  | some d => exact hd.2 d (List.mem_of_getElem? e)
def spPs (K : PySem.W.Frag) : Sp := fun vs H Q _ => ∃ (ns : List Nat) (m : Nat) (a : Addr) (ds : List Int) (c : Int), vs = [.str (S ns), .int (m : Int), .ref a, .int c] ∧ ns.Perm PAR ∧ 2 ≤ m ∧ m ≤ 6 ∧ SqL K H a (ds.map V.int) ∧ (∃ N, 7 ≤ N ∧ Dr N ds) ∧ ∀ (D : Addr) (pu : Pu) H', Same H H' → H D = none → H' D = some (.dK (pk pu)) → (pu.map (·.1)).Nodup → (∀ x ∈ pu.map (·.1), x ∈ PAR) → (∀ x ∈ ns.take m, x ∈ pu.map (·.1)) → Q (.ref D) H'
theorem ok_purses_ (F : FnP K "_law_purses" s_purses f fd) (m_int : mg "int" = none) (m_range : mg "range" = none) (c_coins : Cal P w K mg base 1 "_law_coins" spCi) : FnOk P w K mg base CX0 2 f fd P_purses (spPs K) := by
  refine F.ok sc_purses (fun vs H Q E h => ?_) (fun cdv A outer s H vs Q E hr h => ?_)
  · obtain ⟨ns, m, a, ds, c, rfl, _⟩ := h
    rfl
  · obtain ⟨ns, m, a, ds, c, rfl, hp, m2, m6, hS, ⟨N7, hN7, hd⟩, q⟩ := h
    refine ⟨_, PSs.nox (pss_cons (ps_set (i := 4) sc_purses.nd rfl (by first | exact .inl rfl | exact .inr rfl) pe_dnewK)
      (pss_cons (ps_for PassesOwn.never rfl (pi_range1 (by rfl) m_range (pa_cons pe_int pa_nil)) (pg_name (i := 5) sc_purses.nd rfl (by first | exact .inl rfl | exact .inr rfl))
        (pss_cons (ps_set (i := 6) sc_purses.nd rfl (by first | exact .inl rfl | exact .inr rfl) (pe_op op_mod (pe_callTy call_int1 (by rfl) m_int (by decide +kernel) (pa_cons (pe_op op_add (pv 5) (pe_ix ix_list (pv 2) pe_int (fun _ _ => rfl))) pa_nil)) pe_int))
      (pss_one (ps_if (PW.pt (pw_or (pt_cmpR op_lt (pv 6) (pv 1) (nomark _)) (pw_or1 (pt_cmpR op_eq (pe_op op_mod (pe_callTy call_int1 (by rfl) m_int (by decide +kernel) (pa_cons (pe_ix ix_list (pv 2) (pv 5) (fun _ _ => rfl)) pa_nil)) pe_int) pe_int (nomark _))))) (pss_one (ps_dput (hu_of hr) (pv 4) (pe_ix ix_str (pv 0) (pv 6) (fun _ _ => rfl)) (pe_cl c_coins hr (by decide) (by rfl) (pa_cons (pe_op op_fdiv (pe_ix ix_list (pv 2) (pv 5) (fun _ _ => rfl)) pe_int) (pa_cons (pv 3) pa_nil))) rfl)) pss_nil))))
      (pss_one (ps_ret (pv 4))))), ?_⟩
    have l6 : ns.length = 6 := hp.length_eq
    walk_at "go"
    intro D nD
    walk_at "go"
    refine for_gen (n := 6) (fun i σ J => Same H J ∧ ∃ (pu : Pu) (v5 v6 : Option V), J D = some (.dK (pk pu)) ∧ pu.length ≤ i ∧ (pu.map (·.1)).Nodup ∧ (∀ x ∈ pu.map (·.1), x ∈ PAR) ∧ (∀ k : Nat, k < i → ∀ j : Nat, (((k : Nat) : Int) + ds.getD 6 0) % 6 = (j : Int) → j < m → ∀ x, ns[j]? = some x → x ∈ pu.map (·.1)) ∧ σ = [some (.str (S ns)), some (.int (m : Int)), some (.ref a), some (.int c), some (.ref D), v5, v6]) ⟨same_new nD, [], none, none, upd_same, Nat.le_refl _, List.nodup_nil, (fun x hx => absurd hx List.not_mem_nil), (fun k hk => absurd hk (Nat.not_lt_zero _)), rfl⟩ ?_ ?_ ?_ ?_
    · rintro i σ J hi _
      exact hi
    · rintro σ J _
      exact Nat.le_refl _
    · rintro i σ J x J' hi ⟨s1, pu, v5, v6, eD, lp, nd, par, cov, rfl⟩ ⟨rfl, rfl⟩
      walk_at "go"
      refine rd_at (s1.seq hS) (by omega) (by rw [hd.1]; omega) ?_
      walk_at "go"
      obtain ⟨j, ej, hj⟩ := modN (0 + (i : Int) + ds.getD (6 : Int).toNat 0) (show 0 < 6 by decide)
      rw [show (fun i j : Int => V.int (i % j)) (0 + (i : Int) + ds.getD (6 : Int).toNat 0) 6 = V.int (j : Int) from congrArg V.int ej]
      walk_at "go"
      refine ite2 (fun e1 => ?_) (fun e1 => ?_)
      · walk_at "go"
        refine rd_at (s1.seq hS) (by omega) (by rw [hd.1]; omega) ?_
        walk_at "go"
        have hdv := getD_dr (hd := hd) (0 + (i : Int)).toNat
        refine ⟨by omega, by omega, fun n H2 s2 => ?_⟩
        walk_at "go"
        refine ⟨S ns, (j : Int), ns[j], rfl, rfl, by rw [S_len]; exact szl (by omega), at_S (by omega), ?_⟩
        have z := DPut.k (k := .inr (S [ns[j]])) (v := .int (n : Int)) (s2 _ _ eD) (by rw [pk_len]; exact Nat.lt_of_le_of_lt (show pu.length ≤ 100 by omega) (by decide))
        rw [putK_pp] at z
        refine ⟨D, _, rfl, z, ?_⟩
        have lpp : (pp pu ns[j] n).length ≤ pu.length + 1 := by
          unfold pp
          split
          · unfold sc
            rw [List.length_map]
            omega
          · rw [List.length_append]
            exact Nat.le_refl _
        refine ⟨Z.Same.mut (s1.trans s2) nD, pp pu ns[j] n, _, _, upd_same, by omega, pp_nd nd, fun x hx => ?_, fun k hk j' ej' hj' x hx => ?_, rfl⟩
        · rcases pp_mem.mp hx with hx | hx
          · exact par x hx
          · rw [hx]
            exact hp.subset (List.getElem_mem _)
        · rw [pp_mem]
          by_cases hki : k < i
          · exact .inl (cov k hki j' ej' hj' x hx)
          · have : k = i := by omega
            subst this
            rw [Int.zero_add] at ej
            have ej : ((k : Nat) : Int) + ds.getD 6 0 = ((k : Nat) : Int) + ds.getD 6 0 ∧ (((k : Nat) : Int) + ds.getD 6 0) % 6 = (j : Int) := ⟨rfl, ej⟩
            have : j' = j := by omega
            subst this
            rw [List.getElem?_eq_getElem (by omega)] at hx
            exact .inr (Option.some.inj hx).symm
      · walk_at "go"
        refine rd_at (s1.seq hS) (by omega) (by rw [hd.1]; omega) ?_
        walk_at "go"
        refine ite2 (fun e2 => ?_) (fun e2 => ?_)
        · walk_at "go"
          refine rd_at (s1.seq hS) (by omega) (by rw [hd.1]; omega) ?_
          walk_at "go"
          have hdv := getD_dr (hd := hd) (0 + (i : Int)).toNat
          refine ⟨by omega, by omega, fun n H2 s2 => ?_⟩
          walk_at "go"
          refine ⟨S ns, (j : Int), ns[j], rfl, rfl, by rw [S_len]; exact szl (by omega), at_S (by omega), ?_⟩
          have z := DPut.k (k := .inr (S [ns[j]])) (v := .int (n : Int)) (s2 _ _ eD) (by rw [pk_len]; exact Nat.lt_of_le_of_lt (show pu.length ≤ 100 by omega) (by decide))
          rw [putK_pp] at z
          refine ⟨D, _, rfl, z, ?_⟩
          have lpp : (pp pu ns[j] n).length ≤ pu.length + 1 := by
            unfold pp
            split
            · unfold sc
              rw [List.length_map]
              omega
            · rw [List.length_append]
              exact Nat.le_refl _
          refine ⟨Z.Same.mut (s1.trans s2) nD, pp pu ns[j] n, _, _, upd_same, by omega, pp_nd nd, fun x hx => ?_, fun k hk j' ej' hj' x hx => ?_, rfl⟩
          · rcases pp_mem.mp hx with hx | hx
            · exact par x hx
            · rw [hx]
              exact hp.subset (List.getElem_mem _)
          · rw [pp_mem]
            by_cases hki : k < i
            · exact .inl (cov k hki j' ej' hj' x hx)
            · have : k = i := by omega
              subst this
              rw [Int.zero_add] at ej
              have ej : ((k : Nat) : Int) + ds.getD 6 0 = ((k : Nat) : Int) + ds.getD 6 0 ∧ (((k : Nat) : Int) + ds.getD 6 0) % 6 = (j : Int) := ⟨rfl, ej⟩
              have : j' = j := by omega
              subst this
              rw [List.getElem?_eq_getElem (by omega)] at hx
              exact .inr (Option.some.inj hx).symm
        · walk_at "go"
          refine ⟨pu, _, _, eD, by omega, nd, par, fun k hk j' ej' hj' x hx => ?_, rfl⟩
          by_cases hki : k < i
          · exact cov k hki j' ej' hj' x hx
          · have : k = i := by omega
            subst this
            rw [Int.zero_add] at ej
            have ej : ((k : Nat) : Int) + ds.getD 6 0 = ((k : Nat) : Int) + ds.getD 6 0 ∧ (((k : Nat) : Int) + ds.getD 6 0) % 6 = (j : Int) := ⟨rfl, ej⟩
            have : j' = j := by omega
            subst this
            have e3 : ¬ ((0 : Int) + (k : Int) + ds.getD (6 : Int).toNat 0) % 6 < (m : Int) := fun z => e1 (decide_eq_true z)
            rw [Int.zero_add, show (6 : Int).toNat = 6 from rfl] at e3
            omega
    · rintro σ J ⟨s1, pu, v5, v6, eD, lp, nd, par, cov, rfl⟩
      walk_at "go"
      refine q D pu J s1 nD eD nd par fun x hx => ?_
      obtain ⟨j, hj, ex⟩ := List.getElem_of_mem hx
      rw [List.length_take] at hj
      rw [List.getElem_take] at ex
      have g0 := getD_dr (hd := hd) 6
      obtain ⟨k, hk⟩ : ∃ k : Nat, (k : Int) = ((j : Int) - ds.getD 6 0) % 6 := ⟨(((j : Int) - ds.getD 6 0) % 6).toNat, Int.toNat_of_nonneg (by omega)⟩
      exact cov k (by omega) j (by omega) (by omega) x (by rw [List.getElem?_eq_getElem (by omega), ex])
end
end Z
set_option Elab.async false
set_option linter.all false
set_option maxRecDepth 100000
set_option maxHeartbeats 4000000
open SX (S S_inj S_len S_cat)
namespace Z
open PySem PySem.Spec PyProof.Rows L2
open Pk
/-! ### the places change, the described pacts stay -/
/-- all but the places stands as before -/
def SmD (H H' : Hp) : Prop := ∀ a o, H a = some o → (∀ m : Int, o ≠ .lst [.int m]) → H' a = some o
section
variable {H H' : Hp}
theorem smD_of (s : Same H H') : SmD H H' := fun a o h _ => s a o h
theorem SmD.trans {H2 : Hp} (s : SmD H H') (t : SmD H' H2) : SmD H H2 := fun a o h n => t a o (s a o h n) n
theorem refs_ne {as : List Addr} {m : Int} : HO.lst (as.map V.ref) ≠ .lst [.int m] := fun z => by
  injection z with z
  match as, z with
  | [], z => cases z
  | [a], z => injection z with z _; cases z
  | a :: b :: r, z => injection z with _ z; cases z
theorem SmD.l (s : SmD H H') {L : Addr} {as : List Addr} (h : H L = some (.lst (as.map V.ref))) : H' L = some (.lst (as.map V.ref)) := s _ _ h fun _ => refs_ne
theorem SmD.t (s : SmD H H') {a : Addr} {xs : List V} (h : H a = some (.tup xs)) : H' a = some (.tup xs) := s _ _ h fun _ z => by cases z
mutual
theorem DtAt.monoD (s : SmD H H') : ∀ (p : Pt) (a : Addr), DtAt H p a → DtAt H' p a
  | .tr p q m, a, h => by
    rw [DtAt] at h ⊢
    exact s.t h
  | .ev k, a, h => by
    rw [DtAt] at h ⊢
    exact s.t h
  | .ch o os, a, h => by
    rw [DtAt] at h ⊢
    obtain ⟨t, as, h1, h2, h3⟩ := h
    exact ⟨t, as, s.t h1, s.l h2, DasAt.monoD s os as h3⟩
  | .rd o b, a, h => by
    rw [DtAt] at h ⊢
    obtain ⟨t, as, h1, h2, h3⟩ := h
    exact ⟨t, as, s.t h1, s.l h2, DtsAt.monoD s b as h3⟩
  | .en b, a, h => by
    rw [DtAt] at h ⊢
    obtain ⟨t, as, h1, h2, h3⟩ := h
    exact ⟨t, as, s.t h1, s.l h2, DtsAt.monoD s b as h3⟩
  | .ti n b, a, h => by
    rw [DtAt] at h ⊢
    obtain ⟨t, as, h1, h2, h3⟩ := h
    exact ⟨t, as, s.t h1, s.l h2, DtsAt.monoD s b as h3⟩
theorem DtsAt.monoD (s : SmD H H') : ∀ (l : List Pt) (as : List Addr), DtsAt H l as → DtsAt H' l as
  | [], as, h => by
    rw [DtsAt] at h ⊢
    exact h
  | p :: l, as, h => by
    rw [DtsAt] at h ⊢
    obtain ⟨a, r, h1, h2, h3⟩ := h
    exact ⟨a, r, h1, DtAt.monoD s p a h2, DtsAt.monoD s l r h3⟩
theorem DasAt.monoD (s : SmD H H') : ∀ (l : List (List Pt)) (as : List Addr), DasAt H l as → DasAt H' l as
  | [], as, h => by
    rw [DasAt] at h ⊢
    exact h
  | b :: l, as, h => by
    rw [DasAt] at h ⊢
    obtain ⟨x, r, h1, ⟨bs, h3, h4⟩, h5⟩ := h
    exact ⟨x, r, h1, ⟨bs, s.l h3, DtsAt.monoD s b bs h4⟩, DasAt.monoD s l r h5⟩
end
theorem DaAt.monoD (s : SmD H H') {b : List Pt} {x : Addr} (h : DaAt H b x) : DaAt H' b x := by
  obtain ⟨bs, h3, h4⟩ := h
  exact ⟨bs, s.l h3, DtsAt.monoD s b bs h4⟩
theorem Tk.smD {K : PySem.W.Frag} {a p : Addr} {ds : List Int} {n : Nat} (t : Tk K a p ds n H H') (hp : ∃ m : Nat, H p = some (.lst [.int (m : Int)])) : SmD H H' := fun b o h hn => t.sb _ _ (fun e => by
  obtain ⟨m, em⟩ := hp
  rw [e, em] at h
  cases h
  exact hn _ rfl) h
end
end Z
set_option pp.maxSteps 700
set_option Elab.async false
set_option linter.all false
set_option maxRecDepth 100000
set_option maxHeartbeats 4000000
open SX (S S_inj S_len S_cat)
namespace Z
open Pk NdefX
open PySem PySem.Spec PyProof.Rows L2
open C8 (pss_cut tCut)
local macro_rules | `(tactic| walk_at "num") => `(tactic| first | rfl | omega | decide | exact Nat.le_of_lt (small1000 (by simp)) | exact ⟨by omega, by omega⟩ | exact ⟨by omega, by omega, by omega⟩ | exact ⟨by decide, by decide, by decide⟩ | exact Or.inl ⟨by omega, by omega⟩ | exact Or.inr ⟨by omega, by omega⟩)
local macro_rules | `(tactic| walk_at "go") => `(tactic| repeat (first | refine ⟨_, rfl, ?_⟩ | refine ⟨_, _, rfl, rfl, ?_⟩ | refine ⟨_, _, rfl, ?_⟩ | (refine ⟨_, _, rfl, rfl, ?_, ?_⟩; focus walk_at "num") | refine Or.inl ⟨_, rfl, ?_⟩ | refine ⟨_, _, _, _, rfl, rfl, (by assumption), (by rfl), ?_⟩ | refine ⟨_, _, _, _, _, rfl, (by assumption), (by assumption), (by assumption), (by rfl), ?_⟩ | refine ⟨rfl, ?_⟩ | (refine And.intro ?_ ?_; focus walk_at "num")))
abbrev s_drawn : Stmt := topS 78
abbrev N_drawn : List Str := ["_law_script", "_law_turns", "_law_parties", "_law_draws_here", "_law_place", "_law_depth", "_law_pact_here", "_law_k", "_law_at", "_law_body", "_law_owner"]
abbrev P_drawn : List Str := ["_law_script", "_law_turns", "_law_parties"]
theorem sc_drawn : FnScope N_drawn P_drawn (defScope s_drawn) := ⟨rfl, rfl, rfl, by decide +kernel, rfl, by decide +kernel, by decide +kernel⟩
theorem usL_iff' {ps : List Nat} : ∀ {l : List Pt}, UsL ps l ↔ ∀ p ∈ l, Us ps p
  | [] => ⟨fun _ p h => absurd h List.not_mem_nil, fun _ => by rw [UsL]; trivial⟩
  | q :: l => by
    rw [UsL, usL_iff' (l := l)]
    exact ⟨fun ⟨a, b⟩ p h => by
      rcases List.mem_cons.mp h with h | h
      · rw [h]; exact a
      · exact b p h, fun h => ⟨h q List.mem_cons_self, fun p hp => h p (List.mem_cons_of_mem _ hp)⟩⟩
theorem DtsAt.cut {H : Hp} : ∀ (n : Nat) (l : List Pt) (as : List Addr), DtsAt H l as → DtsAt H (l.take n) (as.take n) ∧ DtsAt H (l.drop n) (as.drop n)
  | 0, l, as, h => ⟨by rw [List.take_zero, List.take_zero, DtsAt], by rw [List.drop_zero, List.drop_zero]; exact h⟩
  | n + 1, [], as, h => by
    rw [DtsAt] at h
    subst h
    exact ⟨by rw [List.take_nil, List.take_nil, DtsAt], by rw [List.drop_nil, List.drop_nil, DtsAt]⟩
  | n + 1, p :: l, as, h => by
    rw [DtsAt] at h
    obtain ⟨a, r, rfl, h1, h2⟩ := h
    obtain ⟨g1, g2⟩ := DtsAt.cut n l r h2
    refine ⟨?_, g2⟩
    rw [List.take_succ_cons, List.take_succ_cons, DtsAt]
    exact ⟨a, _, rfl, h1, g1⟩
theorem cutV_lo {α : Type} (f : α → V) {xs : List α} {n : Nat} (h : n ≤ xs.length) : cutV (xs.map f) none (some (n : Int)) = (xs.take n).map f := by
  unfold cutV
  rw [List.length_map, HT.sIx_nat, Nat.min_eq_left h, show HT.sIx xs.length 0 none = 0 from rfl, List.drop_zero, Nat.sub_zero, List.map_take]
theorem cutV_hi {α : Type} (f : α → V) {xs : List α} {n : Nat} (h : n ≤ xs.length) : cutV (xs.map f) (some (n : Int)) none = (xs.drop n).map f := by
  unfold cutV
  rw [List.length_map, HT.sIx_nat, Nat.min_eq_left h, show HT.sIx xs.length xs.length none = xs.length from rfl, List.take_of_length_le (by rw [List.length_drop, List.length_map]; exact Nat.le_refl _), List.map_drop]
theorem dpL_all {d : Nat} : ∀ {l : List Pt}, (∀ p ∈ l, dp p ≤ d) → dpL l ≤ d
  | [], _ => by rw [dpL]; exact Nat.zero_le _
  | p :: l, h => by
    have h1 := h p List.mem_cons_self
    have h2 := dpL_all fun q hq => h q (List.mem_cons_of_mem _ hq)
    rw [dpL]
    omega
/-- what is drawn -/
structure Pv (ps : List Nat) (l : List Pt) (w d : Nat) : Prop where
  ok : OkL l
  wt : wtL l ≤ w
  dp : dpL l ≤ d
  vs : VsL ps l
theorem Pv.wk {ps : List Nat} {l : List Pt} {w d v e : Nat} (h : Pv ps l w d) (h1 : w ≤ v) (h2 : d ≤ e) : Pv ps l v e := ⟨h.ok, Nat.le_trans h.wt h1, Nat.le_trans h.dp h2, h.vs⟩
theorem Pv.of {ps : List Nat} {l m : List Pt} {w d : Nat} (h : Pv ps l w d) (hw : wtL m ≤ w) (hm : ∀ p ∈ m, p ∈ l) : Pv ps m w d := ⟨okL_iff.mpr fun p hp => okL_iff.mp h.ok p (hm p hp), hw, dpL_all fun p hp => Nat.le_trans (dpL_mem (hm p hp)) h.dp, vsL_iff.mpr fun p hp => vsL_iff.mp h.vs p (hm p hp)⟩
structure Pg (ps : List Nat) (l : List Pt) (w d f : Nat) : Prop where
  ok : OkL l
  wt : wtL l ≤ w
  dp : dpL l ≤ d
  us : UsL ps l
  fp : fpL l ≤ f
theorem Pg.wk {ps : List Nat} {l : List Pt} {w d f v e g : Nat} (h : Pg ps l w d f) (h1 : w ≤ v) (h2 : d ≤ e) (h3 : f ≤ g) : Pg ps l v e g := ⟨h.ok, Nat.le_trans h.wt h1, Nat.le_trans h.dp h2, h.us, Nat.le_trans h.fp h3⟩
/-- one more part between the parts -/
theorem Pg.mid {ps : List Nat} {l : List Pt} {v d f : Nat} (h : Pg ps l v d f) (c : Nat) (p : Pt) {w g : Nat} (ok : Ok p) (hw : Pk.wt p ≤ w) (hd : Pk.dp p ≤ d) (hu : Us ps p) (hf : Pk.fp p ≤ g) : Pg ps (l.take c ++ [p] ++ l.drop c) (v + w) d (f + g) := by
  have e : wtL l = wtL (l.take c) + wtL (l.drop c) := by rw [← wtL_app, List.take_append_drop]
  have e2 : fpL l = fpL (l.take c) + fpL (l.drop c) := by rw [← fpL_app, List.take_append_drop]
  have hm : ∀ q ∈ l.take c ++ [p] ++ l.drop c, q ∈ l ∨ q = p := fun q hq => by
    rcases List.mem_append.mp hq with hq | hq
    · rcases List.mem_append.mp hq with hq | hq
      · exact .inl (List.mem_of_mem_take hq)
      · exact .inr (List.mem_singleton.mp hq)
    · exact .inl (List.mem_of_mem_drop hq)
  refine ⟨okL_iff.mpr fun q hq => (hm q hq).elim (okL_iff.mp h.ok q) (fun e => e ▸ ok), ?_, dpL_all fun q hq => (hm q hq).elim (fun z => Nat.le_trans (dpL_mem z) h.dp) (fun e => e ▸ hd), usL_iff.mpr fun q hq => (hm q hq).elim (usL_iff.mp h.us q) (fun e => e ▸ hu), ?_⟩
  · have := h.wt
    rw [wtL_app, wtL_app, wtL, wtL]
    omega
  · have := h.fp
    rw [fpL_app, fpL_app, fpL, fpL]
    omega
theorem Pg.drp {ps : List Nat} {l : List Pt} {v d f : Nat} (h : Pg ps l v d f) (c : Nat) : Pg ps (l.drop c) (wtL (l.drop c)) d (fpL (l.drop c)) := ⟨okL_iff.mpr fun q hq => okL_iff.mp h.ok q (List.mem_of_mem_drop hq), Nat.le_refl _, dpL_all fun q hq => Nat.le_trans (dpL_mem (List.mem_of_mem_drop hq)) h.dp, usL_iff.mpr fun q hq => usL_iff.mp h.us q (List.mem_of_mem_drop hq), Nat.le_refl _⟩
/-- a part in the place of the last ones -/
theorem Pg.tke {ps : List Nat} {l : List Pt} {v d f : Nat} (h : Pg ps l v d f) (c : Nat) (p : Pt) {w : Nat} (ok : Ok p) (hw : Pk.wt p ≤ w + wtL (l.drop c)) (hd : Pk.dp p ≤ d + 1) (hu : Us ps p) (hf : Pk.fp p ≤ 2 + fpL (l.drop c)) : Pg ps (l.take c ++ [p]) (v + w) (d + 1) (f + 2) := by
  have e : wtL l = wtL (l.take c) + wtL (l.drop c) := by rw [← wtL_app, List.take_append_drop]
  have e2 : fpL l = fpL (l.take c) + fpL (l.drop c) := by rw [← fpL_app, List.take_append_drop]
  have hm : ∀ q ∈ l.take c ++ [p], q ∈ l ∨ q = p := fun q hq => by
    rcases List.mem_append.mp hq with hq | hq
    · exact .inl (List.mem_of_mem_take hq)
    · exact .inr (List.mem_singleton.mp hq)
  refine ⟨okL_iff.mpr fun q hq => (hm q hq).elim (okL_iff.mp h.ok q) (fun e => e ▸ ok), ?_, dpL_all fun q hq => (hm q hq).elim (fun z => Nat.le_trans (dpL_mem z) (Nat.le_succ_of_le h.dp)) (fun e => e ▸ hd), usL_iff.mpr fun q hq => (hm q hq).elim (usL_iff.mp h.us q) (fun e => e ▸ hu), ?_⟩
  · have := h.wt
    rw [wtL_app, wtL, wtL]
    omega
  · have := h.fp
    rw [fpL_app, fpL, fpL]
    omega
section
variable {P : Program} {w : World} {K : PySem.W.Frag} {mg : Str → Option Value} {base : Heap} {f C CP CY : Addr} {k : Cs} {fd : FuncData}
def spDn (K : PySem.W.Frag) : Sp := fun vs H Q _ => ∃ (a t : Addr) (ns : List Int) (ts : List Int) (ps : List Nat), vs = [.ref a, .ref t, .str (S ps)] ∧ SqL K H a (ns.map V.int) ∧ H t = some (.lst (ts.map V.int)) ∧ Dr 18 ts ∧ PM ps MRK ∧ ∀ (L : Addr) (l : List Pt) H', Same H H' → DaAt H' l L → Pg ps l 400 6 3605 → Q (.ref L) H'
theorem ok_drawn (F : FnP K "_law_drawn" s_drawn f fd) (m_int : mg "int" = none) (m_len : mg "len" = none) (m_range : mg "range" = none) (c_cell : Cal P w K mg base 1 "_law_cell" (spCell K)) (c_draws : Cal P w K mg base 1 "_law_draws" spDraws) (c_marks : Cal P w K mg base 1 "_law_marks" spMk_) (c_pact : Cal P w K mg base (2 * 3 + 8) "_law_pact" (spPc K 4)) (c_part : Cal P w K mg base (2 * 3 + 7) "_law_part" (spPp K 3)) (c_cut : Cal P w K mg base (2 * 5 + 8) "_law_cut" (spCut 5)) : FnOk P w K mg base CX0 (2 * 5 + 9) f fd P_drawn (spDn K) := by
  refine F.ok sc_drawn (fun vs H Q E h => ?_) (fun cdv A outer s H vs Q E hr h => ?_)
  · obtain ⟨a, t, ns, ts, ps, rfl, _⟩ := h
    rfl
  · obtain ⟨a, t, ns, ts, ps, rfl, hS, hT, ht, pm, q⟩ := h
    refine ⟨_, PSs.nox (pss_cons (ps_set (i := 3) sc_drawn.nd rfl (by first | exact .inl rfl | exact .inr rfl) (pe_cl c_draws hr (by decide) (by rfl) (pa_cons (pe_cl c_cell hr (by decide) (by rfl) (pa_cons (pv 0) (pa_cons pe_int pa_nil))) (pa_cons pe_int pa_nil))))
      (pss_cons (ps_set (i := 4) sc_drawn.nd rfl (by first | exact .inl rfl | exact .inr rfl) (pe_lst (pa_cons pe_int pa_nil)))
      (pss_cons (ps_set (i := 5) sc_drawn.nd rfl (by first | exact .inl rfl | exact .inr rfl) (pe_op op_add pe_int (pe_op op_fdiv (pe_op op_mod (pe_callTy call_int1 (by rfl) m_int (by decide +kernel) (pa_cons (pe_ix ix_list (pv 1) pe_int (fun _ _ => rfl)) pa_nil)) pe_int) pe_int)))
      (pss_cons (ps_set (i := 6) sc_drawn.nd rfl (by first | exact .inl rfl | exact .inr rfl) (pe_cl c_pact hr (by decide) (by rfl) (pa_cons (pv 3) (pa_cons (pv 4) (pa_cons (pv 5) (pa_cons (pv 2) (pa_cons (pe_cl0 c_marks hr (by decide) (by rfl)) pa_nil)))))))
      (pss_cut (ps_if (pt_cmpR op_eq (pe_op op_mod (pe_callTy call_int1 (by rfl) m_int (by decide +kernel) (pa_cons (pe_ix ix_list (pv 1) pe_int (fun _ _ => rfl)) pa_nil)) pe_int) pe_int (nomark _)) (pss_one (ps_set (i := 6) sc_drawn.nd rfl (by first | exact .inl rfl | exact .inr rfl) (pe_op op_cat (pv 6) (pe_lc (own := [("_law_k", 7)]) (g := (gName 7)) (tt := tYes) (by rfl) sc_drawn.nd (pi_range1 (by rfl) m_range (pa_cons (pe_op op_mod (pe_callTy call_int1 (by rfl) m_int (by decide +kernel) (pa_cons (pe_ix ix_list (pv 1) pe_int (fun _ _ => rfl)) pa_nil)) pe_int) pa_nil)) (blkOk_by (own := [("_law_k", 7)]) (N := N_drawn) (sc := defScope s_drawn) (by decide +kernel)) (fun _ _ _ _ _ => (pg_name (i := 7) sc_drawn.nd rfl (by first | exact .inl rfl | exact .inr rfl))) (fun _ _ _ _ _ => pts_nil) (fun _ _ _ _ _ => (pe_cl c_part hr (by decide) (by rfl) (pa_cons (pv 3) (pa_cons (pv 4) (pa_cons pe_int (pa_cons (pv 2) (pa_cons (pe_cl0 c_marks hr (by decide) (by rfl)) pa_nil))))))))))) pss_nil)
      (pss_cons (ps_set (i := 6) sc_drawn.nd rfl (by first | exact .inl rfl | exact .inr rfl) (pe_cl c_cut hr (by decide) (by rfl) (pa_cons (pv 6) (pa_cons pe_int pa_nil))))
      (pss_cons (ps_set (i := 8) sc_drawn.nd rfl (by first | exact .inl rfl | exact .inr rfl) (pe_op op_mod (pe_callTy call_int1 (by rfl) m_int (by decide +kernel) (pa_cons (pe_ix ix_list (pv 1) pe_int (fun _ _ => rfl)) pa_nil)) (pe_op op_add (pe_callB call_len_seq (by rfl) m_len PySem.boot_len (pa_cons (pv 6) pa_nil)) pe_int)))
      (pss_cut (ps_if (pt_cmpR op_eq (pe_op op_mod (pe_callTy call_int1 (by rfl) m_int (by decide +kernel) (pa_cons (pe_ix ix_list (pv 1) pe_int (fun _ _ => rfl)) pa_nil)) pe_int) pe_int (nomark _)) (pss_cons (ps_set (i := 9) sc_drawn.nd rfl (by first | exact .inl rfl | exact .inr rfl) (pe_cl c_cut hr (by decide) (by rfl) (pa_cons (pe_cl c_pact hr (by decide) (by rfl) (pa_cons (pv 3) (pa_cons (pv 4) (pa_cons pe_int (pa_cons (pv 2) (pa_cons (pe_cl0 c_marks hr (by decide) (by rfl)) pa_nil)))))) (pa_cons pe_int pa_nil))))
      (pss_cut (ps_if (pt_cmpR op_eq (pe_op op_mod (pe_callTy call_int1 (by rfl) m_int (by decide +kernel) (pa_cons (pe_op op_fdiv (pe_ix ix_list (pv 1) pe_int (fun _ _ => rfl)) pe_int) pa_nil)) pe_int) pe_int (nomark _)) (pss_one (ps_set (i := 9) sc_drawn.nd rfl (by first | exact .inl rfl | exact .inr rfl) (pe_lst (pa_cons (pe_tup (pa_cons pe_str (pa_cons (pe_op op_mod (pe_callTy call_int1 (by rfl) m_int (by decide +kernel) (pa_cons (pe_op op_fdiv (pe_ix ix_list (pv 1) pe_int (fun _ _ => rfl)) pe_int) pa_nil)) pe_int) (pa_cons (pe_lst pa_nil) pa_nil)))) pa_nil)))) pss_nil)
      (pss_one (ps_set (i := 6) sc_drawn.nd rfl (by first | exact .inl rfl | exact .inr rfl) (pe_op op_cat (pe_op op_cat (pe_slice sl_list (pv 6) po_none (po_some (pv 8))) (pe_lst (pa_cons (pe_tup (pa_cons pe_str (pa_cons (pe_op op_mod (pe_callTy call_int1 (by rfl) m_int (by decide +kernel) (pa_cons (pe_ix ix_list (pv 1) pe_int (fun _ _ => rfl)) pa_nil)) pe_int) (pa_cons (pv 9) pa_nil)))) pa_nil))) (pe_slice sl_list (pv 6) (po_some (pv 8)) po_none)))))) pss_nil)
      (pss_cons (ps_set (i := 10) sc_drawn.nd rfl (by first | exact .inl rfl | exact .inr rfl) (pe_ix ix_str (pv 2) (pe_op op_mod (pe_callTy call_int1 (by rfl) m_int (by decide +kernel) (pa_cons (pe_ix ix_list (pv 1) pe_int (fun _ _ => rfl)) pa_nil)) (pe_callB call_len_str (by rfl) m_len PySem.boot_len (pa_cons (pv 2) pa_nil))) (fun _ _ => rfl)))
      (pss_cut (ps_if (pt_cmpR op_eq (pe_op op_mod (pe_callTy call_int1 (by rfl) m_int (by decide +kernel) (pa_cons (pe_op op_fdiv (pe_ix ix_list (pv 1) pe_int (fun _ _ => rfl)) pe_int) pa_nil)) pe_int) pe_int (nomark _)) (pss_one (ps_set (i := 6) sc_drawn.nd rfl (by first | exact .inl rfl | exact .inr rfl) (pe_op op_cat (pe_slice sl_list (pv 6) po_none (po_some (pv 8))) (pe_lst (pa_cons (pe_tup (pa_cons pe_str (pa_cons (pv 10) (pa_cons (pe_slice sl_list (pv 6) (po_some (pv 8)) po_none) pa_nil)))) pa_nil))))) pss_nil)
      (pss_cut (ps_if (pt_cmpR op_eq (pe_op op_mod (pe_callTy call_int1 (by rfl) m_int (by decide +kernel) (pa_cons (pe_op op_fdiv (pe_ix ix_list (pv 1) pe_int (fun _ _ => rfl)) pe_int) pa_nil)) pe_int) pe_int (nomark _)) (pss_one (ps_set (i := 6) sc_drawn.nd rfl (by first | exact .inl rfl | exact .inr rfl) (pe_op op_cat (pe_slice sl_list (pv 6) po_none (po_some (pv 8))) (pe_lst (pa_cons (pe_tup (pa_cons pe_str (pa_cons (pv 10) (pa_cons (pe_lst (pa_cons (pe_lst (pa_cons (pe_tup (pa_cons pe_str (pa_cons pe_str pa_nil))) pa_nil)) (pa_cons (pe_slice sl_list (pv 6) (po_some (pv 8)) po_none) pa_nil))) pa_nil)))) pa_nil))))) pss_nil)
      (pss_one (ps_ret (pv 6)))))))))))))), ?_⟩
    walk_at "go"
    refine ⟨a, ns, 2, rfl, hS, ?_⟩
    walk_at "go"
    intro D ds nD hd
    have s1 := same_new (o := .lst (ds.map V.int)) nD
    have ed : (upd H D (.lst (ds.map V.int))) D = some (.lst (ds.map V.int)) := upd_same
    generalize upd H D (.lst (ds.map V.int)) = H1 at s1 ed ⊢
    walk_at "go"
    intro p np
    generalize eH_ : upd H1 p _ = H2
    have s2 : Same H1 H2 := by rw [← eH_]; exact same_new np
    have ep : H2 p = some (.lst [.int 0]) := by rw [← eH_]; exact upd_same
    clear eH_
    have s12 := s1.trans s2
    have hT2 : Tk K D p ds 60 H2 H2 := ⟨s2 _ _ ed, hd, ne_of_none ed np, Z.Same.sb (Same.refl _), 0, ep⟩
    have hsq : ∀ {J : Hp}, Tk K D p ds 60 H2 J → SqL K J t (ts.map V.int) := fun h => SqL.of (h.sb _ _ (ne_of_none (s1 _ _ hT) np) (s12 _ _ hT))
    have nP : H p = none := Same.back s1 np
    walk_at "go"
    refine rd_at (SqL.of (s12 _ _ hT)) (by decide) (by rw [ht.1]; decide) ?_
    walk_at "go"
    generalize ts.getD (0 : Int).toNat 0 = r0
    obtain ⟨e, ee, e2, e3⟩ : ∃ e : Nat, 2 + r0 % 4 / 3 = (e : Int) ∧ 2 ≤ e ∧ e ≤ 3 := ⟨(2 + r0 % 4 / 3).toNat, by omega, by omega, by omega⟩
    rw [show (fun i j : Int => V.int (i + j)) 2 (r0 % 4 / 3) = V.int (e : Int) from congrArg V.int ee]
    walk_at "go"
    refine ⟨D, p, 60, e, ds, ps, MRK, rfl, hT2, pm, by omega, fun L l H3 hT3 hl okl hwl hdl ll ul => ?_⟩
    have mx3 : mxw e ≤ 6175 := by
      have : e = 2 ∨ e = 3 := by omega
      rcases this with z | z <;> rw [z] <;> decide
    have mx2 : mxw 2 ≤ 6175 := by decide
    have g3 : Pv ps l 20000 4 := ⟨okl, by omega, by omega, ul⟩
    have hl3 : DaAt H3 l L := hl.mono nw_same
    clear hl okl hwl hdl ul
    walk_at "go"
    refine ⟨fun σ J => ∃ (L : Addr) (l : List Pt) (v : Option V), Tk K D p ds 60 H2 J ∧ DaAt J l L ∧ Pv ps l 100000 4 ∧ σ = [some (.ref a), some (.ref t), some (.str (S ps)), some (.ref D), some (.ref p), some (.int (e : Int)), some (.ref L), v, none, none, none], ?_, ?_⟩
    · walk_at "go"
      refine rd_at (hsq hT3) (by decide) (by rw [ht.1]; decide) ?_
      walk_at "go"
      refine ite2 (fun _ => ?_) (fun _ => ?_)
      · walk_at "go"
        refine rd_at (hsq hT3) (by decide) (by rw [ht.1]; decide) ?_
        generalize ts.getD (2 : Int).toNat 0 = r2
        obtain ⟨c, ec, hc⟩ := modN r2 (show 0 < 13 by decide)
        walk_at "go"
        intro M nM
        refine lc_nw (G := fun i X y => ∃ b x, y = .ref b ∧ DtAt X x b ∧ Ok x ∧ wt x ≤ mxw 2 ∧ dp x ≤ 3 ∧ Vs ps x) (n := c) (fun i X Y y s h => ?_) hT3.slf nM (by omega) (fun k J' hk => ?_) (fun J' => ?_) (fun k J1 x J2 hk h => ?_) (fun x => rfl) (fun k x J1 Q1 hk h hT4 q1 => ?_) (fun J1 ys hT4 eM ly hG => ?_)
        · obtain ⟨b, x, h1, h2, h3⟩ := h
          exact ⟨b, x, h1, h2.mono s, h3⟩
        · show k < (r2 % 13).toNat
          omega
        · show (r2 % 13).toNat ≤ c
          omega
        · exact h.1
        · walk_at "go"
          refine ⟨D, p, 60, 2, ds, ps, MRK, rfl, hT4.slf, pm, by omega, fun y x H' hT5 hx okx hwx hdx ux => q1 _ _ hT5 ⟨y, x, rfl, hx, okx, hwx, hdx, ux⟩⟩
        · obtain ⟨l', bs, rfl, h1, h2, h3, h4, h5, h6⟩ := drawn_l ys hG
          rw [ly] at h3 h5
          have h3' := Nat.mul_le_mul_right (mxw 2) (Nat.le_of_lt_succ hc)
          obtain ⟨as, hL, hD⟩ := hl3.monoD (hT4.smD hT3.pl)
          have hD2 := h1.mono nwD_same _ _
          have la := DtsAt.len _ _ hD
          have lb := DtsAt.len _ _ hD2
          walk_at "go"
          refine ⟨L, M, _, _, rfl, rfl, hL, eM, szl3 (by rw [List.length_map, List.length_map]; omega), fun R nR => ?_⟩
          have s5 := same_new (o := .lst (as.map V.ref ++ bs.map V.ref)) nR
          have eR : (upd J1 R (.lst (as.map V.ref ++ bs.map V.ref))) R = some (.lst ((as ++ bs).map V.ref)) := by rw [upd_same, List.map_append]
          generalize upd J1 R (.lst (as.map V.ref ++ bs.map V.ref)) = H6 at s5 eR ⊢
          walk_at "go"
          exact ⟨R, l ++ l', _, (hT3.tr hT4).more s5, ⟨as ++ bs, eR, dtsAt_app _ _ _ _ (hD.mono s5 _ _) (hD2.mono s5 _ _)⟩, ⟨okL_iff.mpr fun q hq => (List.mem_append.mp hq).elim (okL_iff.mp g3.ok q) (okL_iff.mp h2 q), by have := g3.wt; rw [wtL_app]; omega, by have := g3.dp; rw [dpL_app]; omega, vsL_iff.mpr fun q hq => (List.mem_append.mp hq).elim (vsL_iff.mp g3.vs q) (vsL_iff.mp h6 q)⟩, rfl⟩
      · exact ⟨L, l, none, hT3, hl3, g3.wk (by decide) (Nat.le_refl _), rfl⟩
    clear hT3 hl3 g3 ll
    rintro σ J ⟨L, l, v, hT3, hl3, g3, rfl⟩
    walk_at "go"
    refine ⟨L, l, 100, rfl, hl3, g3.ok, Nat.le_trans g3.wt (by decide), Nat.succ_le_succ g3.dp, fun L2 l2 bs H4 s4 n4 e4 hb ok2 w2 d2 len2 mem2 => ?_⟩
    have g4 := (g3.of (w := 100000) (Nat.le_trans w2 (by decide)) mem2)
    have hT4 := hT3.more s4
    have hb4 := hb.mono s4 _ _
    have lb4 := DtsAt.len _ _ hb4
    have g4 : Pg ps l2 100 4 400 := ⟨g4.ok, w2, g4.dp, vsL_us _ g4.vs, by have := vsL_fp _ g4.vs; omega⟩
    have l100 : bs.length ≤ 100 := by
      have := len_wt l2
      have := g4.wt
      omega
    clear hT3 hl3 g3 s4 hb w2 d2 mem2
    walk_at "go"
    refine rd_at (hsq hT4) (by decide) (by rw [ht.1]; decide) ?_
    generalize ts.getD (2 : Int).toNat 0 = r2
    walk_at "go"
    refine ⟨L2, _, rfl, .inl (SqL.of e4), ?_⟩
    rw [List.length_map]
    walk_at "go"
    obtain ⟨c, ec, hc⟩ := modN r2 (show 0 < bs.length + 1 by omega)
    rw [show (fun i j : Int => V.int (i % j)) r2 ((bs.length : Int) + 1) = V.int (c : Int) from congrArg V.int ec]
    have hc := Nat.le_of_lt_succ hc
    walk_at "go"
    refine ⟨fun σ J => ∃ (L : Addr) (l : List Pt) (bs : List Addr) (v u9 : Option V), Same H J ∧ J L = some (.lst (bs.map V.ref)) ∧ DtsAt J l bs ∧ c ≤ bs.length ∧ bs.length ≤ 101 ∧ Pg ps l 301 4 3601 ∧ σ = [some (.ref a), some (.ref t), some (.str (S ps)), some (.ref D), some (.ref p), some (.int (e : Int)), some (.ref L), v, some (.int (c : Int)), u9, none], ?_, ?_⟩
    · walk_at "go"
      refine rd_at (hsq hT4) (by decide) (by rw [ht.1]; decide) ?_
      walk_at "go"
      refine ite2 (fun _ => ?_) (fun _ => ?_)
      · walk_at "go"
        refine ⟨D, p, 60, 1, ds, ps, MRK, rfl, hT4.slf, pm, by omega, fun M m H5 hT5 hm okm hwm hdm lm um => ?_⟩
        have hm := hm.mono nw_same
        have mx1 : mxw 1 = 19 := by decide
        walk_at "go"
        refine ⟨M, m, 2, rfl, hm, okm, by omega, by omega, fun M2 m2 bs2 H6 s6 n6 e6 hb6 ok6 w6 d6 len6 mem6 => ?_⟩
        have hT6 := (hT4.tr hT5).more s6
        have sD := (hT5.smD hT4.pl).trans (smD_of s6)
        have e46 := sD.l e4
        have hb46 := hb4.monoD sD
        have hm6 := hb6.mono s6 _ _
        have v6 : VsL ps m2 := vsL_iff.mpr fun q hq => vsL_iff.mp um q (mem6 q hq)
        have f6 : fpL m2 ≤ 31 := by have := vsL_fp _ v6; omega
        have u6 : UsL ps m2 := vsL_us _ v6
        have nP6 : H6 p ≠ none := by obtain ⟨mm, em⟩ := hT6.pl; rw [em]; exact nofun
        walk_at "go"
        refine ⟨fun σ J => ∃ (M : Addr) (m : List Pt) (bs2 : List Addr), Same H6 J ∧ J M = some (.lst (bs2.map V.ref)) ∧ DtsAt J m bs2 ∧ OkL m ∧ wtL m ≤ 2 ∧ dpL m ≤ 3 ∧ UsL ps m ∧ fpL m ≤ 31 ∧ σ = [some (.ref a), some (.ref t), some (.str (S ps)), some (.ref D), some (.ref p), some (.int (e : Int)), some (.ref L2), v, some (.int (c : Int)), some (.ref M), none], ?_, ?_⟩
        · walk_at "go"
          refine rd_at (hsq hT6) (by decide) (by rw [ht.1]; decide) ?_
          walk_at "go"
          refine ite2 (fun _ => ?_) (fun _ => ?_)
          · walk_at "go"
            refine rd_at (hsq hT6) (by decide) (by rw [ht.1]; decide) ?_
            generalize ts.getD (3 : Int).toNat 0 = r5
            obtain ⟨y, ey, hy⟩ := modN (r5 / 404) (show 0 < 31 by decide)
            walk_at "go"
            rw [show (fun i j : Int => V.int (i % j)) (r5 / 404) 31 = V.int (y : Int) from congrArg V.int ey]
            walk_at "go"
            intro Lz nLz
            generalize eH_ : upd H6 Lz _ = Ha
            have sa : Same H6 Ha := by rw [← eH_]; exact same_new nLz
            have eLz : Ha Lz = some (.lst []) := by rw [← eH_]; exact upd_same
            clear eH_
            walk_at "go"
            intro Tz nTz
            generalize eH_ : upd Ha Tz _ = Hb
            have sb : Same Ha Hb := by rw [← eH_]; exact same_new nTz
            have eTz : Hb Tz = some (.tup [.str "times", .int (y : Int), .ref Lz]) := by rw [← eH_]; exact upd_same
            clear eH_
            walk_at "go"
            intro Mz nMz
            generalize eH_ : upd Hb Mz _ = Hc
            have sc : Same Hb Hc := by rw [← eH_]; exact same_new nMz
            have eMz : Hc Mz = some (.lst [.ref Tz]) := by rw [← eH_]; exact upd_same
            clear eH_
            walk_at "go"
            have hz : DtAt Hc (.ti y []) Tz := by
              rw [DtAt]
              exact ⟨Lz, [], sc _ _ eTz, sc _ _ (sb _ _ eLz), by rw [DtsAt]⟩
            refine ⟨Mz, [.ti y []], [Tz], (sa.trans sb).trans sc, eMz, dtsAt_one hz, ?_, ?_, ?_, ?_, ?_, rfl⟩
            · rw [OkL]
              exact ⟨by rw [Ok]; exact ⟨by omega, by rw [OkL]; trivial⟩, by rw [OkL]; trivial⟩
            · rw [wtL, wt, wtL]
              simp [wtL]
            · rw [dpL, dp, dpL]
              decide
            · rw [UsL]
              exact ⟨by rw [Us, UsL]; trivial, by rw [UsL]; trivial⟩
            · rw [fpL, fp, fpL]
              simp [fpL]
              omega
          · exact ⟨M2, m2, bs2, Same.refl _, e6, hm6, ok6, w6, by omega, u6, f6, rfl⟩
        clear hm6 e6 ok6 w6 d6 len6 mem6 um u6 v6 f6 hb6 n6
        rintro σ J ⟨M2, m2, bs2, s6J, e6, hm6, ok6, w6, d6, u6, f6, rfl⟩
        have hT6 := hT6.more s6J
        have e46 := s6J _ _ e46
        have hb46 := hb46.mono s6J _ _
        clear s6 s6J
        rename Hp => H6
        walk_at "go"
        refine ⟨L2, _, rfl, SqL.of e46, ?_⟩
        rw [cutV_lo V.ref hc]
        intro R1 nR1
        generalize eH_ : upd H6 R1 _ = H7
        have s7 : Same H6 H7 := by rw [← eH_]; exact same_new nR1
        have eR1 : H7 R1 = some (.lst ((bs.take c).map V.ref)) := by rw [← eH_]; exact upd_same
        clear eH_
        walk_at "go"
        refine rd_at (SqL.of (s7 _ _ ((hT6.sb) _ _ (ne_of_none (s1 _ _ hT) np) (s12 _ _ hT)))) (by decide) (by rw [ht.1]; decide) ?_
        generalize ts.getD (3 : Int).toNat 0 = r3
        obtain ⟨z, ez, hz⟩ := modN r3 (show 0 < 101 by decide)
        walk_at "go"
        rw [show (fun i j : Int => V.int (i % j)) r3 101 = V.int (z : Int) from congrArg V.int ez]
        intro T nT
        generalize eH_ : upd H7 T _ = H8
        have s8 : Same H7 H8 := by rw [← eH_]; exact same_new nT
        have eT : H8 T = some (.tup [.str "times", .int (z : Int), .ref M2]) := by rw [← eH_]; exact upd_same
        clear eH_
        walk_at "go"
        intro R2 nR2
        generalize eH_ : upd H8 R2 _ = H9
        have s9 : Same H8 H9 := by rw [← eH_]; exact same_new nR2
        have eR2 : H9 R2 = some (.lst [.ref T]) := by rw [← eH_]; exact upd_same
        clear eH_
        walk_at "go"
        refine ⟨R1, R2, _, _, rfl, rfl, ((s8.trans s9) _ _ eR1), eR2, szl3 (by simp only [List.length_map, List.length_append, List.length_take, List.length_drop, List.length_cons, List.length_nil]; omega), ?_⟩
        intro R3 nR3
        generalize eH_ : upd H9 R3 _ = HA
        have sA : Same H9 HA := by rw [← eH_]; exact same_new nR3
        have eR3 : HA R3 = some (.lst ((bs.take c).map V.ref ++ [V.ref T])) := by rw [← eH_]; exact upd_same
        clear eH_
        walk_at "go"
        refine ⟨L2, _, rfl, SqL.of ((((s7.trans s8).trans s9).trans sA) _ _ e46), ?_⟩
        rw [cutV_hi V.ref hc]
        intro R4 nR4
        generalize eH_ : upd HA R4 _ = HB
        have sB : Same HA HB := by rw [← eH_]; exact same_new nR4
        have eR4 : HB R4 = some (.lst ((bs.drop c).map V.ref)) := by rw [← eH_]; exact upd_same
        clear eH_
        walk_at "go"
        refine ⟨R3, R4, _, _, rfl, rfl, (sB _ _ eR3), eR4, szl3 (by simp only [List.length_map, List.length_append, List.length_take, List.length_drop, List.length_cons, List.length_nil]; omega), ?_⟩
        intro R5 nR5
        generalize eH_ : upd HB R5 _ = HC
        have sC : Same HB HC := by rw [← eH_]; exact same_new nR5
        have eR5 : HC R5 = some (.lst (((bs.take c).map V.ref ++ [V.ref T]) ++ (bs.drop c).map V.ref)) := by rw [← eH_]; exact upd_same
        clear eH_
        walk_at "go"
        have s6C := ((((s7.trans s8).trans s9).trans sA).trans sB).trans sC
        have hbC := hb46.mono s6C _ _
        obtain ⟨hb1, hb2⟩ := DtsAt.cut c _ _ hbC
        have hz2 : wtL m2 * (if z < 1 then 1 else z) ≤ 2 * 100 := Nat.mul_le_mul w6 (by split <;> omega)
        have hT' : DtAt HC (.ti z m2) T := by
          rw [DtAt]
          exact ⟨M2, bs2, ((s9.trans sA).trans (sB.trans sC)) _ _ eT, s6C _ _ e6, hm6.mono s6C _ _⟩
        refine ⟨R5, l2.take c ++ [.ti z m2] ++ l2.drop c, bs.take c ++ [T] ++ bs.drop c, _, _, (SB.same ((Z.Same.sb s12).trans hT6.sb) nP).trans s6C, by rw [eR5, List.map_append, List.map_append]; rfl, dtsAt_app _ _ _ _ (dtsAt_app _ _ _ _ hb1 (dtsAt_one hT')) hb2, by simp only [List.length_append, List.length_take, List.length_drop, List.length_cons, List.length_nil]; omega, by simp only [List.length_append, List.length_take, List.length_drop, List.length_cons, List.length_nil]; omega, ?_, rfl⟩
        have fz : z * (1 + fpL m2) ≤ 100 * 32 := Nat.mul_le_mul (by omega) (by omega)
        exact g4.mid c (.ti z m2) (by rw [Ok]; exact ⟨by omega, ok6⟩) (w := 201) (g := 3201) (by rw [wt]; omega) (by rw [dp]; omega) (by rw [Us]; exact u6) (by rw [fp]; omega)
      · exact ⟨L2, l2, bs, _, none, (SB.same ((Z.Same.sb s12).trans hT4.sb) nP), e4, hb4, hc, by omega, g4.wk (by decide) (Nat.le_refl _) (by decide), rfl⟩
    clear hT4 g4 hb4 e4 lb4 l100 hc ec
    rintro σ J ⟨L, l, bs, v, u9, sJ, eL, hb, hc, l101, g, rfl⟩
    walk_at "go"
    refine rd_at (SqL.of (sJ _ _ hT)) (by decide) (by rw [ht.1]; decide) ?_
    generalize ts.getD (3 : Int).toNat 0 = r3
    walk_at "go"
    have sps : (S ps).length ≤ sizeLine := by rw [S_len]; exact szl (by have := pm.l6; omega)
    refine ⟨sps, ?_⟩
    rw [S_len]
    obtain ⟨jo, eo, ho⟩ := modN r3 (show 0 < ps.length by have := pm.l2; omega)
    walk_at "go"
    rw [show (fun i j : Int => V.int (i % j)) r3 (ps.length : Int) = V.int (jo : Int) from congrArg V.int eo]
    refine ⟨S ps, (jo : Int), ps[jo], rfl, rfl, sps, at_S ho, ?_⟩
    have po := pm.par _ (List.getElem_mem ho)
    have uo := List.getElem_mem ho
    generalize ps[jo] = o at po uo ⊢
    walk_at "go"
    refine ⟨fun σ J => ∃ (L : Addr) (l : List Pt) (bs : List Addr) (v u9 : Option V), Same H J ∧ J L = some (.lst (bs.map V.ref)) ∧ DtsAt J l bs ∧ c ≤ bs.length ∧ bs.length ≤ 102 ∧ Pg ps l 302 5 3603 ∧ σ = [some (.ref a), some (.ref t), some (.str (S ps)), some (.ref D), some (.ref p), some (.int (e : Int)), some (.ref L), v, some (.int (c : Int)), u9, some (.str (S [o]))], ?_, ?_⟩
    · walk_at "go"
      refine rd_at (SqL.of (sJ _ _ hT)) (by decide) (by rw [ht.1]; decide) ?_
      walk_at "go"
      refine ite2 (fun _ => ?_) (fun _ => ?_)
      · walk_at "go"
        refine ⟨L, _, rfl, SqL.of eL, ?_⟩
        rw [cutV_lo V.ref hc]
        intro R1 nR1
        generalize eH_ : upd J R1 _ = H7
        have s7 : Same J H7 := by rw [← eH_]; exact same_new nR1
        have eR1 : H7 R1 = some (.lst ((bs.take c).map V.ref)) := by rw [← eH_]; exact upd_same
        clear eH_
        walk_at "go"
        refine ⟨L, _, rfl, SqL.of (s7 _ _ eL), ?_⟩
        rw [cutV_hi V.ref hc]
        intro R2 nR2
        generalize eH_ : upd H7 R2 _ = H8
        have s8 : Same H7 H8 := by rw [← eH_]; exact same_new nR2
        have eR2 : H8 R2 = some (.lst ((bs.drop c).map V.ref)) := by rw [← eH_]; exact upd_same
        clear eH_
        walk_at "go"
        intro T nT
        generalize eH_ : upd H8 T _ = H9
        have s9 : Same H8 H9 := by rw [← eH_]; exact same_new nT
        have eT : H9 T = some (.tup [.str "rounds", .str (S [o]), .ref R2]) := by rw [← eH_]; exact upd_same
        clear eH_
        walk_at "go"
        intro R3 nR3
        generalize eH_ : upd H9 R3 _ = HA
        have sA : Same H9 HA := by rw [← eH_]; exact same_new nR3
        have eR3 : HA R3 = some (.lst [.ref T]) := by rw [← eH_]; exact upd_same
        clear eH_
        walk_at "go"
        refine ⟨R1, R3, _, _, rfl, rfl, (((s8.trans s9).trans sA) _ _ eR1), eR3, szl3 (by simp only [List.length_map, List.length_append, List.length_take, List.length_drop, List.length_cons, List.length_nil]; omega), ?_⟩
        intro R5 nR5
        generalize eH_ : upd HA R5 _ = HC
        have sC : Same HA HC := by rw [← eH_]; exact same_new nR5
        have eR5 : HC R5 = some (.lst ((bs.take c).map V.ref ++ [V.ref T])) := by rw [← eH_]; exact upd_same
        clear eH_
        walk_at "go"
        have s6C := (((s7.trans s8).trans s9).trans sA).trans sC
        have hbC := hb.mono s6C _ _
        obtain ⟨hb1, hb2⟩ := DtsAt.cut c _ _ hbC
        have hT' : DtAt HC (.rd o (l.drop c)) T := by
          rw [DtAt]
          exact ⟨R2, bs.drop c, (sA.trans sC) _ _ eT, ((s9.trans sA).trans sC) _ _ eR2, hb2⟩
        refine ⟨R5, l.take c ++ [.rd o (l.drop c)], bs.take c ++ [T], _, _, sJ.trans s6C, by rw [eR5, List.map_append]; rfl, dtsAt_app _ _ _ _ hb1 (dtsAt_one hT'), by simp only [List.length_append, List.length_take, List.length_drop, List.length_cons, List.length_nil]; omega, by simp only [List.length_append, List.length_take, List.length_drop, List.length_cons, List.length_nil]; omega, ?_, rfl⟩
        have gd := g.drp c
        exact (g.tke c (.rd o (l.drop c)) (by rw [Ok]; exact ⟨po, gd.ok⟩) (w := 1) (by rw [wt]; omega) (by rw [dp]; have := gd.dp; omega) (by rw [Us]; exact ⟨uo, gd.us⟩) (by rw [fp]; omega))
      · exact ⟨L, l, bs, _, _, sJ, eL, hb, hc, by omega, g.wk (by decide) (by decide) (by decide), rfl⟩
    clear sJ eL hb hc l101 g
    rintro σ J ⟨L, l, bs, v, u9, sJ, eL, hb, hc, l101, g, rfl⟩
    walk_at "go"
    refine ⟨fun σ J => ∃ (L : Addr) (l : List Pt) (v u9 : Option V), Same H J ∧ DaAt J l L ∧ Pg ps l 400 6 3605 ∧ σ = [some (.ref a), some (.ref t), some (.str (S ps)), some (.ref D), some (.ref p), some (.int (e : Int)), some (.ref L), v, some (.int (c : Int)), u9, some (.str (S [o]))], ?_, ?_⟩
    · walk_at "go"
      refine rd_at (SqL.of (sJ _ _ hT)) (by decide) (by rw [ht.1]; decide) ?_
      walk_at "go"
      refine ite2 (fun _ => ?_) (fun _ => ?_)
      · walk_at "go"
        refine ⟨L, _, rfl, SqL.of eL, ?_⟩
        rw [cutV_lo V.ref hc]
        intro R1 nR1
        generalize eH_ : upd J R1 _ = H7
        have s7 : Same J H7 := by rw [← eH_]; exact same_new nR1
        have eR1 : H7 R1 = some (.lst ((bs.take c).map V.ref)) := by rw [← eH_]; exact upd_same
        clear eH_
        walk_at "go"
        intro T1 nT1
        generalize eH_ : upd H7 T1 _ = H8
        have s8 : Same H7 H8 := by rw [← eH_]; exact same_new nT1
        have eT1 : H8 T1 = some (.tup [.str "event", .str (S [81])]) := by rw [← eH_]; exact upd_same
        clear eH_
        walk_at "go"
        intro L1 nL1
        generalize eH_ : upd H8 L1 _ = H9
        have s9 : Same H8 H9 := by rw [← eH_]; exact same_new nL1
        have eL1 : H9 L1 = some (.lst [.ref T1]) := by rw [← eH_]; exact upd_same
        clear eH_
        walk_at "go"
        refine ⟨L, _, rfl, SqL.of (((s7.trans s8).trans s9) _ _ eL), ?_⟩
        rw [cutV_hi V.ref hc]
        intro R2 nR2
        generalize eH_ : upd H9 R2 _ = HA
        have sA : Same H9 HA := by rw [← eH_]; exact same_new nR2
        have eR2 : HA R2 = some (.lst ((bs.drop c).map V.ref)) := by rw [← eH_]; exact upd_same
        clear eH_
        walk_at "go"
        intro L3 nL3
        generalize eH_ : upd HA L3 _ = HB
        have sB : Same HA HB := by rw [← eH_]; exact same_new nL3
        have eL3 : HB L3 = some (.lst [.ref L1, .ref R2]) := by rw [← eH_]; exact upd_same
        clear eH_
        walk_at "go"
        intro T2 nT2
        generalize eH_ : upd HB T2 _ = HC
        have sC : Same HB HC := by rw [← eH_]; exact same_new nT2
        have eT2 : HC T2 = some (.tup [.str "choice", .str (S [o]), .ref L3]) := by rw [← eH_]; exact upd_same
        clear eH_
        walk_at "go"
        intro L4 nL4
        generalize eH_ : upd HC L4 _ = HD
        have sD : Same HC HD := by rw [← eH_]; exact same_new nL4
        have eL4 : HD L4 = some (.lst [.ref T2]) := by rw [← eH_]; exact upd_same
        clear eH_
        walk_at "go"
        refine ⟨R1, L4, _, _, rfl, rfl, ((((((s8.trans s9).trans sA).trans sB).trans sC).trans sD) _ _ eR1), eL4, szl3 (by simp only [List.length_map, List.length_append, List.length_take, List.length_drop, List.length_cons, List.length_nil]; omega), ?_⟩
        intro R5 nR5
        generalize eH_ : upd HD R5 _ = HE
        have sE : Same HD HE := by rw [← eH_]; exact same_new nR5
        have eR5 : HE R5 = some (.lst ((bs.take c).map V.ref ++ [V.ref T2])) := by rw [← eH_]; exact upd_same
        clear eH_
        walk_at "go"
        have sBE := ((sB.trans sC).trans sD).trans sE
        have s9E := (s9.trans sA).trans sBE
        have s6E := (s7.trans s8).trans s9E
        have hbC := hb.mono s6E _ _
        obtain ⟨hb1, hb2⟩ := DtsAt.cut c _ _ hbC
        have hT1 : DtAt HE (.ev 81) T1 := by
          rw [DtAt]
          exact s9E _ _ eT1
        have hT' : DtAt HE (.ch o [[.ev 81], l.drop c]) T2 := by
          rw [DtAt]
          refine ⟨L3, [L1, R2], (sD.trans sE) _ _ eT2, ((sC.trans sD).trans sE) _ _ eL3, ?_⟩
          rw [DasAt]
          refine ⟨L1, [R2], rfl, ⟨[T1], (sA.trans sBE) _ _ eL1, dtsAt_one hT1⟩, ?_⟩
          rw [DasAt]
          exact ⟨R2, [], rfl, ⟨bs.drop c, sBE _ _ eR2, hb2⟩, by rw [DasAt]⟩
        refine ⟨R5, l.take c ++ [.ch o [[.ev 81], l.drop c]], _, _, sJ.trans s6E, ⟨bs.take c ++ [T2], by rw [eR5, List.map_append]; rfl, dtsAt_app _ _ _ _ hb1 (dtsAt_one hT')⟩, ?_, rfl⟩
        have gd := g.drp c
        refine (g.tke c (.ch o [[.ev 81], l.drop c]) ?_ (w := 3) ?_ ?_ ?_ ?_).wk (by decide) (by decide) (by decide)
        · rw [Ok]
          exact ⟨po, Nat.le_refl 2, (show 2 ≤ 6 by decide), okLL_iff.mpr fun b hb => by
            rcases List.mem_cons.mp hb with hb | hb
            · rw [hb, OkL, Ok, OkL]
              exact ⟨by decide, trivial⟩
            · rw [List.mem_singleton.mp hb]
              exact gd.ok⟩
        · rw [wt, wtLL, wtLL, wtLL, wtL, wtL, wt]
          omega
        · rw [dp, dpLL, dpLL, dpLL, dpL, dpL, dp]
          have := gd.dp
          omega
        · rw [Us, UsLL, UsLL, UsLL, UsL, UsL, Us]
          exact ⟨uo, ⟨trivial, trivial⟩, gd.us, trivial⟩
        · rw [fp, fpLL, fpLL, fpLL, fpL, fpL, fp]
          omega
      · exact ⟨L, l, _, _, sJ, ⟨bs, eL, hb⟩, g.wk (by decide) (by decide) (by decide), rfl⟩
    rintro σ J ⟨L2, l2, v2, u2, sJ2, hL2, g2, rfl⟩
    walk_at "go"
    exact q L2 l2 J sJ2 hL2 g2
end
end Z
set_option linter.all false
set_option maxRecDepth 100000
namespace Pk
/-! ### the transfers and events in a pact -/
def isLf : Pt → Bool
  | .tr _ _ _ => true
  | .ev _ => true
  | _ => false
mutual
def lvP : Pt → List Pt
  | .tr p q m => [.tr p q m]
  | .ev c => [.ev c]
  | .ch _ os => lvLL os
  | .rd _ b => lvL b
  | .en b => lvL b
  | .ti _ b => lvL b
def lvL : List Pt → List Pt
  | [] => []
  | p :: l => lvP p ++ lvL l
def lvLL : List (List Pt) → List Pt
  | [] => []
  | b :: l => lvL b ++ lvLL l
end
/-- the pacts within a part -/
def bod : Pt → List (List Pt)
  | .ch _ os => os
  | .rd _ b => [b]
  | .en b => [b]
  | .ti _ b => [b]
  | _ => []
theorem lvLL_app : ∀ a b : List (List Pt), lvLL (a ++ b) = lvLL a ++ lvLL b
  | [], b => by rw [List.nil_append, lvLL, List.nil_append]
  | x :: a, b => by rw [List.cons_append, lvLL, lvLL, lvLL_app a b, List.append_assoc]
theorem lvL_app : ∀ a b : List Pt, lvL (a ++ b) = lvL a ++ lvL b
  | [], b => by rw [List.nil_append, lvL, List.nil_append]
  | x :: a, b => by rw [List.cons_append, lvL, lvL, lvL_app a b, List.append_assoc]
theorem lvP_bod (p : Pt) : lvP p = (if isLf p = true then [p] else []) ++ lvLL (bod p) := by
  cases p with
  | tr p q m =>
    rw [lvP, show bod (.tr p q m) = [] from rfl, lvLL]
    rfl
  | ev c =>
    rw [lvP, show bod (.ev c) = [] from rfl, lvLL]
    rfl
  | ch o os => rw [lvP, bod]; rfl
  | rd o b => rw [lvP, bod, lvLL, lvLL, List.append_nil]; rfl
  | en b => rw [lvP, bod, lvLL, lvLL, List.append_nil]; rfl
  | ti c b => rw [lvP, bod, lvLL, lvLL, List.append_nil]; rfl
mutual
theorem lvP_len : ∀ p : Pt, (lvP p).length ≤ wt p
  | .tr p q m => by rw [lvP, wt]; exact Nat.le_refl _
  | .ev c => by rw [lvP, wt]; exact Nat.le_refl _
  | .ch o os => by rw [lvP, wt]; exact Nat.le_trans (lvLL_len os) (by omega)
  | .rd o b => by rw [lvP, wt]; exact Nat.le_trans (lvL_len b) (by omega)
  | .en b => by rw [lvP, wt]; exact Nat.le_trans (lvL_len b) (by omega)
  | .ti c b => by
    rw [lvP, wt]
    have h4 : wtL b ≤ wtL b * (if c < 1 then 1 else c) := Nat.le_mul_of_pos_right _ (by split <;> omega)
    exact Nat.le_trans (lvL_len b) (by omega)
theorem lvL_len : ∀ l : List Pt, (lvL l).length ≤ wtL l
  | [] => by rw [lvL]; exact Nat.zero_le _
  | p :: l => by
    rw [lvL, wtL, List.length_append]
    exact Nat.add_le_add (lvP_len p) (lvL_len l)
theorem lvLL_len : ∀ l : List (List Pt), (lvLL l).length ≤ wtLL l
  | [] => by rw [lvLL]; exact Nat.zero_le _
  | p :: l => by
    rw [lvLL, wtLL, List.length_append]
    exact Nat.add_le_add (lvL_len p) (lvLL_len l)
end
mutual
theorem lvP_leaf : ∀ (p : Pt), ∀ x ∈ lvP p, isLf x = true
  | .tr p q m, x, h => by rw [lvP] at h; rw [List.mem_singleton.mp h]; rfl
  | .ev c, x, h => by rw [lvP] at h; rw [List.mem_singleton.mp h]; rfl
  | .ch o os, x, h => by rw [lvP] at h; exact lvLL_leaf os x h
  | .rd o b, x, h => by rw [lvP] at h; exact lvL_leaf b x h
  | .en b, x, h => by rw [lvP] at h; exact lvL_leaf b x h
  | .ti c b, x, h => by rw [lvP] at h; exact lvL_leaf b x h
theorem lvL_leaf : ∀ (l : List Pt), ∀ x ∈ lvL l, isLf x = true
  | [], x, h => by rw [lvL] at h; exact absurd h List.not_mem_nil
  | p :: l, x, h => by
    rw [lvL] at h
    exact (List.mem_append.mp h).elim (lvP_leaf p x) (lvL_leaf l x)
theorem lvLL_leaf : ∀ (l : List (List Pt)), ∀ x ∈ lvLL l, isLf x = true
  | [], x, h => by rw [lvLL] at h; exact absurd h List.not_mem_nil
  | p :: l, x, h => by
    rw [lvLL] at h
    exact (List.mem_append.mp h).elim (lvL_leaf p x) (lvLL_leaf l x)
end
theorem lvL_mem {p x : Pt} : ∀ {l : List Pt}, p ∈ l → x ∈ lvP p → x ∈ lvL l
  | q :: l, h, hx => by
    rw [lvL]
    rcases List.mem_cons.mp h with h | h
    · exact List.mem_append.mpr (.inl (h ▸ hx))
    · exact List.mem_append.mpr (.inr (lvL_mem h hx))
theorem lvLL_mem {b : List Pt} {x : Pt} : ∀ {l : List (List Pt)}, b ∈ l → x ∈ lvL b → x ∈ lvLL l
  | q :: l, h, hx => by
    rw [lvLL]
    rcases List.mem_cons.mp h with h | h
    · exact List.mem_append.mpr (.inl (h ▸ hx))
    · exact List.mem_append.mpr (.inr (lvLL_mem h hx))
theorem bod_lt {p : Pt} {b : List Pt} (h : b ∈ bod p) : wtL b + 1 ≤ wt p ∧ dpL b + 1 ≤ dp p := by
  cases p with
  | tr p q m => exact absurd h List.not_mem_nil
  | ev c => exact absurd h List.not_mem_nil
  | ch o os =>
    have h : b ∈ os := h
    have h1 := wtLL_mem h
    have h2 := dpLL_mem h
    rw [wt, dp]
    omega
  | rd o b =>
    rw [List.mem_singleton.mp h, wt, dp]
    omega
  | en b =>
    rw [List.mem_singleton.mp h, wt, dp]
    omega
  | ti c b =>
    rw [List.mem_singleton.mp h, wt, dp]
    have h4 : wtL b ≤ wtL b * (if c < 1 then 1 else c) := Nat.le_mul_of_pos_right _ (by split <;> omega)
    omega
theorem wtLL_app : ∀ a b : List (List Pt), wtLL (a ++ b) = wtLL a + wtLL b
  | [], b => by rw [List.nil_append, wtLL, Nat.zero_add]
  | x :: a, b => by rw [List.cons_append, wtLL, wtLL, wtLL_app a b, Nat.add_assoc]
theorem wtLL_take (l : List (List Pt)) (n : Nat) : wtLL (l.take n) ≤ wtLL l := by
  have : wtLL l = wtLL (l.take n) + wtLL (l.drop n) := by rw [← wtLL_app, List.take_append_drop]
  omega
theorem wtLL_bod (p : Pt) : wtLL (bod p) ≤ wt p := by
  cases p with
  | tr p q m => rw [show bod (.tr p q m) = [] from rfl, wtLL]; exact Nat.zero_le _
  | ev c => rw [show bod (.ev c) = [] from rfl, wtLL]; exact Nat.zero_le _
  | ch o os => rw [bod, wt]; omega
  | rd o b => rw [bod, wtLL, wtLL, wt]; omega
  | en b => rw [bod, wtLL, wtLL, wt]; omega
  | ti c b =>
    rw [bod, wtLL, wtLL, wt]
    have h4 : wtL b ≤ wtL b * (if c < 1 then 1 else c) := Nat.le_mul_of_pos_right _ (by split <;> omega)
    omega
theorem dig_inj {m n : Nat} (h : dig m = dig n) : m = n := by
  have := congrArg PySem.NumText.digitsVal h
  unfold dig at this
  rw [PySem.W.KIN.val_back, PySem.W.KIN.val_back] at this
  exact this
theorem dig_ne (m : Nat) : 1 ≤ (dig m).length := by
  unfold dig
  rw [List.length_map]
  exact List.length_pos_iff.mpr Nat.toDigits_ne_nil
/-- the texts of transfers and events tell them apart -/
theorem tx_leaf {p q : Pt} (hp : isLf p = true) (hq : isLf q = true) (e : tx p = tx q) : p = q := by
  cases p with
  | tr a b m =>
    cases q with
    | tr c d n =>
      rw [tx, tx] at e
      injection e with e1 e
      injection e with e2 e
      rw [e1, e2, dig_inj e]
    | ev c =>
      rw [tx, tx] at e
      have := congrArg List.length e
      have := dig_ne m
      simp at *
    | _ => cases hq
  | ev c =>
    cases q with
    | tr c d n =>
      rw [tx, tx] at e
      have := congrArg List.length e
      have := dig_ne n
      simp at *
    | ev d =>
      rw [tx, tx] at e
      injection e with e
      rw [e]
    | _ => cases hq
  | _ => cases hp
end Pk
set_option Elab.async false
set_option linter.all false
set_option maxRecDepth 100000
namespace Z
open PySem PySem.Spec PyProof.Rows L2
/-! ### lists and tuples of texts compared -/
theorem dpa_ss {K : PySem.W.Frag} {H : Hp} : ∀ ss : List Str, DpAll K H (ss.map V.str) (ss.map PyData.str)
  | [] => .nil
  | x :: ss => .cons (.str _) (dpa_ss ss)
theorem strOk_S {l : List Nat} (h : ∀ c ∈ l, c < 1000) : PyData.strOk (SX.S l) = true := by
  show (SX.S l).cps.all (· < 0x110000) = true
  rw [Array.all_eq_true']
  intro c hc
  have := h c (by simpa using hc)
  simp
  omega
theorem lay_ss : ∀ ss : List Str, (∀ s ∈ ss, PyData.strOk s = true) → PyData.canLayAll0 (ss.map PyData.str) = true
  | [], _ => rfl
  | x :: r, h => by
    rw [List.map_cons, PyData.canLayAll0, lay_ss r fun s hs => h s (List.mem_cons_of_mem _ hs), PyData.canLay0, h x List.mem_cons_self]
    rfl
theorem dep_ss : ∀ ss : List Str, PyData.depthAll (ss.map PyData.str) = 0
  | [] => rfl
  | x :: r => by
    rw [List.map_cons, PyData.depthAll, dep_ss r]
    rfl
theorem shaped_ssL {ss : List Str} (h : ∀ s ∈ ss, PyData.strOk s = true) : SeqAt.shaped (.list (ss.map PyData.str)) = true := by
  unfold SeqAt.shaped
  show (PyData.canLayAll0 (ss.map PyData.str) && decide (PyData.depthAll (ss.map PyData.str) + 1 ≤ 64)) = true
  rw [lay_ss _ h, dep_ss]
  rfl
theorem shaped_ssT {ss : List Str} (h : ∀ s ∈ ss, PyData.strOk s = true) : SeqAt.shaped (.tuple (ss.map PyData.str)) = true := by
  unfold SeqAt.shaped
  show (PyData.canLayAll0 (ss.map PyData.str) && decide (PyData.depthAll (ss.map PyData.str) + 1 ≤ 64)) = true
  rw [lay_ss _ h, dep_ss]
  rfl
theorem eqv_ssL {ss : List Str} (h : ∀ s ∈ ss, PyData.strOk s = true) : PyData.eqv (.list (ss.map PyData.str)) (.list (ss.map PyData.str)) = true := SeqAt.eqv_refl _ (SeqAt.canLay_of_shaped (shaped_ssL h))
theorem eqv_ssT {ss : List Str} (h : ∀ s ∈ ss, PyData.strOk s = true) : PyData.eqv (.tuple (ss.map PyData.str)) (.tuple (ss.map PyData.str)) = true := SeqAt.eqv_refl _ (SeqAt.canLay_of_shaped (shaped_ssT h))
theorem ne_ssL {K : PySem.W.Frag} {H : Hp} {a b : Addr} {ss : List Str} {Q : VK} (h1 : SqL K H a (ss.map V.str)) (h2 : SqL K H b (ss.map V.str)) (h : ∀ s ∈ ss, PyData.strOk s = true) (q : Q (.bl false) H) : rNeD K (.ref a) (.ref b) H Q := ⟨_, _, .lst h1 (dpa_ss ss), .lst h2 (dpa_ss ss), shaped_ssL h, shaped_ssL h, by rw [eqv_ssL h]; exact q⟩
theorem ne_ssT {K : PySem.W.Frag} {H : Hp} {a b : Addr} {ss : List Str} {Q : VK} (h1 : SqT K H a (ss.map V.str)) (h2 : SqT K H b (ss.map V.str)) (h : ∀ s ∈ ss, PyData.strOk s = true) (q : Q (.bl false) H) : rNeD K (.ref a) (.ref b) H Q := ⟨_, _, .tup h1 (dpa_ss ss), .tup h2 (dpa_ss ss), shaped_ssT h, shaped_ssT h, by rw [eqv_ssT h]; exact q⟩
end Z
set_option linter.all false
set_option maxRecDepth 100000
namespace Pk
/-! ### what holds in every play -/
def payT (pu : Pu) (a b m : Nat) : Option Pu := match cn pu a with
  | none => none
  | some n => if m ≤ n then (match cn (sc pu a (n - m)) b with
    | none => none
    | some n' => some (sc (sc pu a (n - m)) b (n' + m)))
    else none
/-- the happenings are paid in turn -/
def pay : Pu → List Pt → Option Pu
  | pu, [] => some pu
  | pu, p :: r => match p with
    | .tr a b m => match payT pu a b m with
      | none => none
      | some pu' => pay pu' r
    | .ev _ => pay pu r
    | _ => none
theorem pay_app : ∀ (h : List Pt) (pu : Pu) (g : List Pt), pay pu (h ++ g) = match pay pu h with
    | none => none
    | some pu' => pay pu' g
  | [], pu, g => rfl
  | p :: h, pu, g => by
    rw [List.cons_append]
    cases p with
    | tr a b m =>
      rw [pay, pay]
      cases payT pu a b m with
      | none => rfl
      | some pu' => exact pay_app h pu' g
    | ev c =>
      rw [pay, pay]
      exact pay_app h pu g
    | _ => rfl
theorem payT_some {pu : Pu} {a b m n n' : Nat} (h1 : cn pu a = some n) (h2 : m ≤ n) (h3 : cn (sc pu a (n - m)) b = some n') : payT pu a b m = some (sc (sc pu a (n - m)) b (n' + m)) := by
  unfold payT
  rw [h1]
  show (if m ≤ n then _ else _) = _
  rw [if_pos h2, h3]
theorem payT_of {pu pu' : Pu} {a b m : Nat} (h : payT pu a b m = some pu') : ∃ n n', cn pu a = some n ∧ m ≤ n ∧ cn (sc pu a (n - m)) b = some n' ∧ pu' = sc (sc pu a (n - m)) b (n' + m) := by
  unfold payT at h
  cases e1 : cn pu a with
  | none => rw [e1] at h; cases h
  | some n =>
    rw [e1] at h
    have h : (if m ≤ n then (match cn (sc pu a (n - m)) b with
    | none => none
    | some n' => some (sc (sc pu a (n - m)) b (n' + m)))
    else none) = some pu' := h
    by_cases c : m ≤ n
    · rw [if_pos c] at h
      cases e2 : cn (sc pu a (n - m)) b with
      | none => rw [e2] at h; cases h
      | some n' =>
        rw [e2] at h
        exact ⟨n, n', rfl, c, e2, (Option.some.inj h).symm⟩
    · rw [if_neg c] at h
      cases h
def tot (pu : Pu) : Nat := (pu.map (·.2)).sum
theorem tot_cons (x : Nat × Nat) (pu : Pu) : tot (x :: pu) = x.2 + tot pu := by
  unfold tot
  rw [List.map_cons, List.sum_cons]
theorem sc_none : ∀ {pu : Pu} {c n : Nat}, c ∉ pu.map (·.1) → sc pu c n = pu
  | [], c, n, _ => rfl
  | x :: pu, c, n, h => by
    rw [List.map_cons, List.mem_cons, not_or] at h
    show (if x.1 = c then (x.1, n) else x) :: sc pu c n = _
    rw [if_neg (Ne.symm h.1), sc_none h.2]
theorem tot_sc : ∀ {pu : Pu} {c n k : Nat}, (pu.map (·.1)).Nodup → cn pu c = some n → tot (sc pu c k) + n = tot pu + k
  | [], c, n, k, _, h => by cases h
  | x :: pu, c, n, k, nd, h => by
    rw [List.map_cons, List.nodup_cons] at nd
    show tot ((if x.1 = c then (x.1, k) else x) :: sc pu c k) + n = _
    by_cases e : x.1 = c
    · rw [if_pos e, tot_cons, tot_cons]
      have h2 : cn (x :: pu) c = some x.2 := by
        unfold cn
        rw [List.find?_cons_of_pos (by simp [e])]
        rfl
      rw [h2] at h
      have h := Option.some.inj h
      rw [sc_none (by rw [← e]; exact nd.1)]
      show k + tot pu + n = _
      omega
    · rw [if_neg e, tot_cons, tot_cons]
      have h2 : cn (x :: pu) c = cn pu c := by
        unfold cn
        rw [List.find?_cons_of_neg (by simp [e])]
      rw [h2] at h
      have := tot_sc (k := k) nd.2 h
      omega
theorem pay_tot : ∀ {h : List Pt} {pu pu' : Pu}, (pu.map (·.1)).Nodup → pay pu h = some pu' → tot pu' = tot pu ∧ pu'.map (·.1) = pu.map (·.1)
  | [], pu, pu', nd, e => by
    have e : some pu = some pu' := e
    rw [Option.some.inj e]
    exact ⟨rfl, rfl⟩
  | p :: h, pu, pu', nd, e => by
    cases p with
    | tr a b m =>
      rw [pay] at e
      cases e1 : payT pu a b m with
      | none => rw [e1] at e; cases e
      | some pu1 =>
        rw [e1] at e
        obtain ⟨n, n', h1, h2, h3, rfl⟩ := payT_of e1
        have nd1 : ((sc pu a (n - m)).map (·.1)).Nodup := by rw [sc_ky]; exact nd
        obtain ⟨g1, g2⟩ := pay_tot (by rw [sc_ky, sc_ky]; exact nd) e
        have t1 := tot_sc (k := n - m) nd h1
        have t2 := tot_sc (k := n' + m) nd1 h3
        rw [sc_ky, sc_ky] at g2
        exact ⟨by omega, g2⟩
    | ev c =>
      rw [pay] at e
      exact pay_tot nd e
    | _ => cases e
/-- what a play keeps -/
structure Iv (pu0 : Pu) (lf : List Pt) (st : Pst) : Prop where
  py : pay pu0 st.hap = some st.pu
  hp : ∀ x ∈ st.hap, x ∈ lf
  rw : ∀ m ∈ st.row, ∀ x ∈ lvP m.1, x ∈ lf
def EndS (st : Pst) : Ou → Prop
  | .go => ∃ p l r, st.row = (p, l) :: r ∧ (mover p).isSome = true
  | .done => st.row = []
  | .cut => ∃ b l r, st.row = (.en b, l) :: r
  | .fail c => ∃ q m l r n, st.row = (.tr c q m, l) :: r ∧ cn st.pu c = some n ∧ n < m
theorem mbs_lv {l : List Pt} {m : Mb} (h : m ∈ mbs l) {x : Pt} (hx : x ∈ lvP m.1) : x ∈ lvL l := by
  obtain ⟨p, hp, rfl⟩ := List.mem_map.mp h
  exact lvL_mem hp hx
theorem opn_lv {c : Nat} {b : List Pt} {m : Mb} (h : m ∈ opn (.ti c b)) {x : Pt} (hx : x ∈ lvP m.1) : x ∈ lvP (.ti c b) := by
  rw [lvP]
  match c with
  | 0 => rw [opn] at h; exact absurd h List.not_mem_nil
  | 1 => rw [opn] at h; exact mbs_lv h hx
  | c + 2 =>
    rw [opn] at h
    rcases List.mem_append.mp h with h | h
    · exact mbs_lv h hx
    · rw [List.mem_singleton.mp h] at hx
      have hx : x ∈ lvP (.ti (c + 1) b) := hx
      rw [lvP] at hx
      exact hx
theorem chs_lv {p : Pt} {n : Nat} {m : Mb} (h : m ∈ chs p n) {x : Pt} (hx : x ∈ lvP m.1) : x ∈ lvP p := by
  cases p with
  | tr a b c => cases n <;> exact absurd h List.not_mem_nil
  | ev c => cases n <;> exact absurd h List.not_mem_nil
  | ti c b => cases n <;> exact absurd h List.not_mem_nil
  | ch o os =>
    rw [chs] at h
    rw [lvP]
    by_cases hn : n < os.length
    · rw [List.getD_eq_getElem?_getD, List.getElem?_eq_getElem hn] at h
      exact lvLL_mem (List.getElem_mem hn) (mbs_lv h hx)
    · rw [List.getD_eq_getElem?_getD, List.getElem?_eq_none (by omega)] at h
      exact absurd h List.not_mem_nil
  | rd o b =>
    cases n with
    | zero => exact absurd h List.not_mem_nil
    | succ n =>
      rw [chs] at h
      rcases List.mem_append.mp h with h | h
      · rw [lvP]
        exact mbs_lv h hx
      · rw [List.mem_singleton.mp h] at hx
        exact hx
  | en b =>
    cases n with
    | zero => exact absurd h List.not_mem_nil
    | succ n =>
      rw [chs] at h
      rcases List.mem_append.mp h with h | h
      · rw [lvP]
        exact mbs_lv h hx
      · rw [List.mem_singleton.mp h] at hx
        exact hx
theorem stl_iv {pu0 : Pu} {lf : List Pt} {st st' : Pst} {o : Ou} (h : Stl st st' o) : Iv pu0 lf st → Iv pu0 lf st' ∧ (∃ t, st'.hap = st.hap ++ t) ∧ EndS st' o := by
  induction h with
  | done => exact fun i => ⟨i, ⟨[], (List.append_nil _).symm⟩, rfl⟩
  | cut => exact fun i => ⟨i, ⟨[], (List.append_nil _).symm⟩, _, _, _, rfl⟩
  | last e _ ih => exact fun i => ih ⟨i.py, i.hp, fun m hm => i.rw m (List.mem_cons_of_mem _ hm)⟩
  | wait h _ => exact fun i => ⟨i, ⟨[], (List.append_nil _).symm⟩, _, _, _, rfl, h⟩
  | fail _ h1 h2 => exact fun i => ⟨i, ⟨[], (List.append_nil _).symm⟩, _, _, _, _, _, rfl, h1, h2⟩
  | tr hl h1 h2 h3 _ ih =>
    intro i
    have hx := i.rw _ List.mem_cons_self
    obtain ⟨a, ⟨t, b⟩, c⟩ := ih ⟨by
      have z := i.py
      dsimp only at z ⊢
      rw [pay_app, z]
      show pay _ [_] = _
      rw [pay, payT_some h1 h2 h3]
      rfl, fun x hm => by
      rcases List.mem_append.mp hm with hm | hm
      · exact i.hp x hm
      · exact hx x (by rw [lvP]; exact hm), fun m hm => i.rw m (List.mem_cons_of_mem _ hm)⟩
    exact ⟨a, ⟨_ :: t, by rw [b, List.append_assoc]; rfl⟩, c⟩
  | ev hl _ ih =>
    intro i
    have hx := i.rw _ List.mem_cons_self
    obtain ⟨a, ⟨t, b⟩, c⟩ := ih ⟨by
      have z := i.py
      dsimp only at z ⊢
      rw [pay_app, z]
      rfl, fun x hm => by
      rcases List.mem_append.mp hm with hm | hm
      · exact i.hp x hm
      · exact hx x (by rw [lvP]; exact hm), fun m hm => i.rw m (List.mem_cons_of_mem _ hm)⟩
    exact ⟨a, ⟨_ :: t, by rw [b, List.append_assoc]; rfl⟩, c⟩
  | ti hl _ ih =>
    intro i
    have hx := i.rw _ List.mem_cons_self
    exact ih ⟨i.py, i.hp, fun m hm => by
      rcases List.mem_append.mp hm with hm | hm
      · exact fun x hxx => hx x (opn_lv hm hxx)
      · exact i.rw m (List.mem_cons_of_mem _ hm)⟩
theorem mvd_iv {pu0 : Pu} {lf : List Pt} {pu : Pu} {h : List Pt} {p : Pt} {l : Option Nat} {r : List Mb} {n : Nat} (i : Iv pu0 lf ⟨pu, (p, l) :: r, h⟩) : Iv pu0 lf (mvd pu h p l r n).1 ∧ (mvd pu h p l r n).1.hap = h ∧ ((mvd pu h p l r n).2 ≠ .go → EndS (mvd pu h p l r n).1 (mvd pu h p l r n).2) := by
  unfold mvd
  split
  · unfold erO
    split
    · rename_i c
      refine ⟨i, rfl, fun _ => ?_⟩
      cases p with
      | en b => exact ⟨b, l, r, rfl⟩
      | _ => cases c
    · exact ⟨⟨i.py, i.hp, fun m hm => i.rw m (List.mem_cons_of_mem _ hm)⟩, rfl, fun z => absurd rfl z⟩
  · refine ⟨⟨i.py, i.hp, fun m hm => ?_⟩, rfl, fun z => absurd rfl z⟩
    rcases List.mem_append.mp hm with hm | hm
    · exact fun x hx => i.rw _ List.mem_cons_self x (chs_lv hm hx)
    · exact i.rw m (List.mem_cons_of_mem _ hm)
/-- the first row -/
theorem iv_first {pu : Pu} {l : List Pt} : Iv pu (lvL l) ⟨pu, mbs l, []⟩ := ⟨rfl, fun x h => absurd h List.not_mem_nil, fun m hm x hx => mbs_lv hm hx⟩
theorem GSt.up {ks : List Nat} {N M : Nat} {st : Pst} (h : GSt ks N st) (g : N ≤ M) : GSt ks M st := ⟨h.rok, h.nm, Nat.le_trans h.sz g, h.ky⟩
/-- all of a play -/
structure Pi (pu0 : Pu) (lf : List Pt) (ks : List Nat) (n : Nat) (st : Pst) (o : Ou) (past : List ((PySem.Str × Nat) × Pst)) : Prop where
  iv : Iv pu0 lf st
  gs : GSt ks (41000 * n) st
  en : EndS st o
  ps : ∀ x ∈ past, Iv pu0 lf x.2 ∧ GSt ks (41000 * n) x.2 ∧ EndS x.2 .go
  ln : past.length ≤ n
theorem Pi.up {pu0 : Pu} {lf : List Pt} {ks : List Nat} {n m : Nat} {st : Pst} {o : Ou} {past : List ((PySem.Str × Nat) × Pst)} (h : Pi pu0 lf ks n st o past) (g : n ≤ m) : Pi pu0 lf ks m st o past := ⟨h.iv, h.gs.up (Nat.mul_le_mul_left _ g), h.en, fun x hx => ⟨(h.ps x hx).1, (h.ps x hx).2.1.up (Nat.mul_le_mul_left _ g), (h.ps x hx).2.2⟩, Nat.le_trans h.ln g⟩
end Pk
set_option Elab.async false
set_option linter.all false
set_option maxRecDepth 100000
set_option maxHeartbeats 4000000
namespace L2
open PySem PySem.Spec PyProof.Rows
/-! ### l[:] = b -/
section
variable {prog : Program} {w : World} {A : Around} {E : Value → Shared → Prop} {s : Shared}
theorem bounds_all (n : Nat) : sliceBounds none none none n = ((0 : Int), (n : Int), 1) := by
  simp only [sliceBounds, Option.getD_none]
  rfl
theorem setItem_all {l b sl : Addr} {items new : Array Value} {n n2 : Nat} {vl vu : Value} {Q : Unit → Shared → Prop}
    (e : s.heap.get? l = some { cls := .type "list", data := .seq items n }) (e2 : s.heap.get? b = some { cls := .type "list", data := .seq new n2 }) (hne : l ≠ b)
    (hs : s.heap.IsSliceOf sl vl vu .none) (pl : IsPart vl none) (pu : IsPart vu none)
    (hsz : items.size + new.size ≤ sizeLine) (h : Q () { s with heap := s.heap.update l (Obj.mapSeq fun xs => xs.extract 0 0 ++ new ++ xs.extract items.size xs.size) }) :
    wpAny (model prog w) A (setItem (.ref l) (.ref sl) (.ref b)) Q E s := by
  have hl : s.heap.IsList l items := PySem.IsL.isList e
  have hb : s.heap.IsList b new := PySem.IsL.isList e2
  obtain ⟨os, hos, hcs, hds⟩ := id hs
  have hTs : s.TypeIs (.ref sl) "slice" := ⟨os, hos, hcs⟩
  have hstep : ¬ ((rawPart none == rawInt 0) = true) := Bool.false_ne_true
  have hsame : Builtin.List.listSameRef (.ref l) (.ref b) = false := by
    unfold Builtin.List.listSameRef
    exact beq_eq_false_iff_ne.mpr hne
  have hz' : ((fun xs : Array Value => xs.extract 0 0 ++ new ++ xs.extract items.size xs.size) items).size ≤ sizeLine + 1 := by
    simp only [Array.size_append, Array.size_extract]
    omega
  unfold setItem
  try with_reducible refine wpAny_holding ?_
  first | refine wpAny_bind (wpAny_pure ?_) | skip
  refine wpAny_bind (wpAny_sequenceKey hl.typeIs (by decide) ?_)
  refine wpAny_bind (wpAny_callSpecial?_slot (name := Str.ofString "__setitem__") hl.typeIs slot_list_setitem
    (wpAny_call_entry slot_list_setitem hl.typeIs entry_list_setitem ?_ (args_list_setitem _ _ _)))
  show wpAny _ _ (Builtin.List.listSubscript? (.ref sl) >>= _) _ _ s
  refine wpAny_bind ?_
  unfold Builtin.List.listSubscript?
  refine wpAny_bind (wpAny_specialOf hTs slice_no_index ?_)
  simp only [Option.isNone_none, if_true]
  refine wpAny_pure ?_
  show wpAny _ _ (typeOf (.ref sl) >>= _) _ _ s
  refine wpAny_bind (wpAny_typeOf hTs ?_)
  first
    | rw [if_neg (by decide)]
    | refine PySem.W.KFB.if_not (by decide) ?_
  rw [listSliceParts_eq]
  refine wpAny_bind (wpAny_bind (wpAny_field hos hds (x := .none) rfl (wpAny_bind (wpAny_listPart .none ?_))))
  rw [if_neg hstep]
  refine wpAny_bind (wpAny_field hos hds (x := vl) rfl (wpAny_bind (wpAny_listPart pl ?_)))
  refine wpAny_bind (wpAny_field hos hds (x := vu) rfl (wpAny_bind (wpAny_listPart pu (wpAny_pure ?_))))
  first
    | simp only [hsame, Bool.false_eq_true, if_false]
    | refine PySem.W.KFB.if_not hsame ?_
    | (dsimp only
       rw [if_neg (by rw [hsame]; exact Bool.false_ne_true)])
  refine wpAny_bind (m := Builtin.List.listAllItems (.ref b) "must assign iterable to extended slice") ?_
  unfold Builtin.List.listAllItems
  refine wpAny_bind (wpAny_typeOf hb.typeIs ?_)
  first
    | refine PySem.W.KFB.if_so (by decide) ?_
    | rw [if_pos (by decide)]
    | simp only [beq_self_eq_true, Bool.true_or, if_true]
  unfold Builtin.List.listItems
  refine wpAny_bind (wpAny_seqItems e2 rfl (wpAny_pure ?_))
  refine wpAny_bind (wpAny_bind (wpAny_seqItems e rfl (wpAny_pure ?_)))
  refine wpAny_bind (wpAny_of_eq ((sliceIndices_raw none none none items.size (by simp)).trans (congrArg (pure : Int × Int × Int → Sem (Int × Int × Int)) (bounds_all items.size))) ?_)
  show wpAny _ _ (if ((1 : Int) == 1) = true then _ else _) _ _ s
  rw [if_pos (by decide)]
  refine wpAny_bind (wpAny_rule ?_)
  first
    | simp only [notLongL hsz, Bool.false_eq_true, if_false]
    | refine PySem.W.KFB.if_not (notLongL hsz) ?_
  first | refine wpAny_bind (wpAny_pure ?_) | skip
  show wpAny _ _ (updateSeq l (fun xs => xs.extract 0 ((0 : Int)).toNat ++ new ++ xs.extract (max (0 : Int) ((items.size : Nat) : Int)).toNat xs.size) >>= _) _ _ s
  rw [show (max (0 : Int) ((items.size : Nat) : Int)).toNat = items.size by omega, show ((0 : Int)).toNat = 0 from rfl]
  refine wpAny_bind (wpAny_updateSeq (hz := Nat.le_trans (Nat.le_add_right _ _) hsz) (_hz' := hz') e rfl ?_)
  refine wpAny_bind (wpAny_letGo ?_)
  first
    | exact wpAny_bind (wpAny_pure (wpAny_pure ⟨.none, rfl, wpAny_pure h⟩))
    | exact wpAny_pure ⟨.none, rfl, wpAny_pure h⟩
end
section
variable {X : Cx}
theorem set_all {pins : List (Addr × Obj)} {s : Shared} {σ : St} {H : Hp} {l b sl : Addr} {xs ys : List V} {vl vu : Value} {Q : Unit → Shared → Prop} (I : Inv X pins σ H s)
    (hH : H l = some (.lst xs)) (hB : H b = some (.lst ys)) (hne : l ≠ b) (hs : s.heap.IsSliceOf sl vl vu .none) (pl : IsPart vl none) (pu : IsPart vu none)
    (hz : xs.length + ys.length ≤ sizeLine) (h : ∀ s', Inv X pins σ (upd H l (.lst ys)) s' → Q () s') :
    wpAny (model X.prog X.w) X.A (setItem (.ref l) (.ref sl) (.ref b)) Q X.xe s := by
  obtain ⟨z, its, n, r, hl, e⟩ := I.lstM hH
  obtain ⟨z2, its2, n2, r2, hl2, e2⟩ := I.lstM hB
  refine setItem_all e e2 hne hs pl pu (by rw [List.size_toArray, List.size_toArray]; omega) (h _ ?_)
  refine I.lset (its' := its2) (t' := s.toks) hH e ?_ r2 (by omega)
  show its.toArray.extract 0 0 ++ its2.toArray ++ its.toArray.extract its.toArray.size its.toArray.size = its2.toArray
  simp
/-- o[:] = .. -/
def gAll (to : TE) : TG := fun v σ H Q => to σ H fun o H1 => ∃ (l b : Addr) (xs ys : List V), o = .ref l ∧ v = .ref b ∧ H1 l = some (.lst xs) ∧ H1 b = some (.lst ys) ∧ l ≠ b ∧ xs.length + ys.length ≤ sizeLine ∧ Q σ (upd H1 l (.lst ys))
theorem pg_all {o : Expr} {to : TE} {pos p2 : Pos} (ho : PE X o to)
    (ha : ∀ v, assign (.Subscript o (.Slice none none none p2) pos) X.env v = (do
      let ov ← holding [v] (eval o X.env)
      let iv ← holding [v, ov] (eval (.Slice none none none p2) X.env)
      standAt pos
      holding [v, ov, iv] (setItem ov iv v)
      release [iv, v, ov] []) := by intro _; rfl) : PG X (.Subscript o (.Slice none none none p2) pos) (gAll to) := by
  refine ⟨fun pins s σ H v u Q I r h => ?_⟩
  rw [ha]
  refine wpAny_bind (wpAny_holding (thn (ho.run pins s σ H _ I h) fun ov s1 ⟨x, H1, I1, r1, l, b, xs, ys, ex, ev, hl, hb, hne, hz, q⟩ => ?_))
  subst ex
  subst ev
  cases r1
  cases r
  refine wpAny_bind (wpAny_holding (wpAny_Slice ?_))
  rw [evalPart_none]
  refine wpAny_pure (wpAny_pure (wpAny_pure ?_))
  have I4 : Inv X pins σ H1 { s1 with heap := s1.heap.push { cls := .type "slice", data := .fields #[.none, .none, .none] } } := I1.kept (t' := s1.toks) fun b ob q => Heap.get?_push_of_some _ q
  refine wpAny_bind (wpAny_standAt (wpAny_bind (wpAny_holding (set_all I4 hl hb hne (Heap.IsSliceOf.new ..) .none .none hz fun s' I5 => ?_))))
  exact wpAny_release ⟨σ, _, I5, q⟩
end
end L2
set_option Elab.async false
set_option linter.all false
set_option maxRecDepth 100000
namespace Z
open PySem PySem.Spec PyProof.Rows L2
/-! ### many things locked at once: what a call cannot reach -/
def tLocks : Nat → TS → TS
  | 0, t => t
  | n + 1, t => tLock (tLocks n t)
theorem ps_locks {X : Cx} {st : Stmt} {t : TS} (h : PS X st t) : ∀ n, PS X st (tLocks n t)
  | 0 => h
  | n + 1 => ps_lock (ps_locks h n)
def tLockD (t : TS) : TS := fun D σ H => ∃ n, tLocks n t D σ H
theorem ps_lockD {X : Cx} {st : Stmt} {t : TS} (h : PS X st t) : PS X st (tLockD t) := ⟨fun pins s σ H D I ⟨n, hw⟩ => (ps_locks h n).run pins s σ H D I hw⟩
def Frzd (ds : List Addr) (H H2 : Hp) : Prop := (∀ a, a ∉ ds → H2 a = H a) ∧ ∀ d ∈ ds, ∃ od u, H d = some u ∧ H2 d = some (.frz od u)
open Classical in
noncomputable def rest (ds : List Addr) (H H' : Hp) : Hp := fun a => if a ∈ ds then H a else H' a
noncomputable def lkE (ds : List Addr) (H H2 : Hp) (D : Ends) : Ends := ⟨fun σ H' => (∀ d ∈ ds, H' d = H2 d) ∧ D.nx σ (rest ds H H'), fun v H' => (∀ d ∈ ds, H' d = H2 d) ∧ D.rt v (rest ds H H'), fun σ H' => (∀ d ∈ ds, H' d = H2 d) ∧ D.bk σ (rest ds H H'), fun σ H' => (∀ d ∈ ds, H' d = H2 d) ∧ D.ct σ (rest ds H H')⟩
theorem rest_cons {d : Addr} {r : List Addr} {H H' : Hp} {od : Obj} {u : HO} (hd : H d = some u) (nd : d ∉ r) : upd (rest r (upd H d (.frz od u)) H') d u = rest (d :: r) H H' := by
  funext a
  unfold rest
  by_cases e : a = d
  · subst e
    rw [upd_same, if_pos List.mem_cons_self, hd]
  · rw [upd_ne e]
    by_cases m : a ∈ r
    · rw [if_pos m, if_pos (List.mem_cons_of_mem _ m), upd_ne e]
    · rw [if_neg m, if_neg (fun z => (List.mem_cons.mp z).elim e m)]
theorem lk_prop {d : Addr} {r : List Addr} {H H2 H' : Hp} {od : Obj} {u : HO} {R : Hp → Prop} (hd : H d = some u) (nd : d ∉ r) (h2 : Frzd r (upd H d (.frz od u)) H2) : ((∀ e ∈ r, H' e = H2 e) ∧ (rest r (upd H d (.frz od u)) H') d = some (.frz od u) ∧ R (upd (rest r (upd H d (.frz od u)) H') d u)) = ((∀ e ∈ d :: r, H' e = H2 e) ∧ R (rest (d :: r) H H')) := by
  have e2 : H2 d = some (.frz od u) := by rw [h2.1 d nd, upd_same]
  have e1 : (rest r (upd H d (.frz od u)) H') d = H' d := by
    unfold rest
    rw [if_neg nd]
  rw [rest_cons hd nd, e1]
  refine propext ⟨fun ⟨a, b, c⟩ => ⟨fun e he => ?_, c⟩, fun ⟨a, c⟩ => ⟨fun e he => a e (List.mem_cons_of_mem _ he), ?_, c⟩⟩
  · rcases List.mem_cons.mp he with he | he
    · rw [he, b, e2]
    · exact a e he
  · rw [a d List.mem_cons_self, e2]
theorem locks_of {t : TS} : ∀ (ds : List Addr) {D : Ends} {σ : L2.St} {H : Hp}, ds.Nodup → (∀ d ∈ ds, ∃ u, H d = some u ∧ Mut (some u)) → (∀ H2, Frzd ds H H2 → t (lkE ds H H2 D) σ H2) → tLocks ds.length t D σ H
  | [], D, σ, H, _, _, h => by
    have z := h H ⟨fun a _ => rfl, fun d hd => absurd hd List.not_mem_nil⟩
    have e : lkE [] H H D = D := by
      unfold lkE
      have er : ∀ H', rest [] H H' = H' := fun H' => by
        funext a
        unfold rest
        rw [if_neg List.not_mem_nil]
      simp only [er]
      cases D
      simp
    rw [e] at z
    exact z
  | d :: r, D, σ, H, nd, hm, h => by
    obtain ⟨u, hd, mu⟩ := hm d List.mem_cons_self
    have nd' := List.nodup_cons.mp nd
    refine ⟨d, u, hd, mu, fun od => ?_⟩
    refine locks_of r nd'.2 (fun e he => ?_) (fun H2 h2 => ?_)
    · obtain ⟨v, hv, mv⟩ := hm e (List.mem_cons_of_mem _ he)
      have : e ≠ d := fun z => nd'.1 (z ▸ he)
      exact ⟨v, by rw [upd_ne this]; exact hv, mv⟩
    · have z := h H2 ⟨fun a ha => ?_, fun e he => ?_⟩
      · have e : lkE (d :: r) H H2 D = lkE r (upd H d (.frz od u)) H2 ⟨fun σ' H' => H' d = some (.frz od u) ∧ D.nx σ' (upd H' d u), fun v H' => H' d = some (.frz od u) ∧ D.rt v (upd H' d u), fun σ' H' => H' d = some (.frz od u) ∧ D.bk σ' (upd H' d u), fun σ' H' => H' d = some (.frz od u) ∧ D.ct σ' (upd H' d u)⟩ := by
          unfold lkE
          congr 1 <;> funext a H' <;> exact (lk_prop hd nd'.1 h2).symm
        rw [e] at z
        exact z
      · rw [List.mem_cons, not_or] at ha
        rw [h2.1 a ha.2, upd_ne ha.1]
      · rcases List.mem_cons.mp he with he | he
        · rw [he]
          exact ⟨od, u, hd, by rw [h2.1 d nd'.1, upd_same]⟩
        · obtain ⟨od', v, e1, e2⟩ := h2.2 e he
          have : e ≠ d := fun z => nd'.1 (z ▸ he)
          rw [upd_ne this] at e1
          exact ⟨od', v, e1, e2⟩
/-- things that the statement cannot change are locked around it -/
theorem lockD_of {t : TS} (ds : List Addr) {D : Ends} {σ : L2.St} {H : Hp} (nd : ds.Nodup) (hm : ∀ d ∈ ds, ∃ u, H d = some u ∧ Mut (some u)) (h : ∀ H2, Frzd ds H H2 → t (lkE ds H H2 D) σ H2) : tLockD t D σ H := ⟨ds.length, locks_of ds nd hm h⟩
end Z
set_option pp.maxSteps 700
set_option Elab.async false
set_option linter.all false
set_option maxRecDepth 100000
set_option maxHeartbeats 4000000
open SX (S S_inj S_len S_cat)
namespace Z
open Pk NdefX
open PySem PySem.Spec PyProof.Rows L2
open C8 (pss_cut tCut)
local macro_rules | `(tactic| walk_at "num") => `(tactic| first | rfl | omega | decide | exact Nat.le_of_lt (small1000 (by simp)) | exact ⟨by omega, by omega⟩ | exact ⟨by omega, by omega, by omega⟩ | exact ⟨by decide, by decide, by decide⟩ | exact Or.inl ⟨by omega, by omega⟩ | exact Or.inr ⟨by omega, by omega⟩)
local macro_rules | `(tactic| walk_at "go") => `(tactic| repeat (first | refine ⟨_, rfl, ?_⟩ | refine ⟨_, _, rfl, rfl, ?_⟩ | refine ⟨_, _, rfl, ?_⟩ | (refine ⟨_, _, rfl, rfl, ?_, ?_⟩; focus walk_at "num") | refine Or.inl ⟨_, rfl, ?_⟩ | refine ⟨_, _, _, _, rfl, rfl, (by assumption), (by rfl), ?_⟩ | refine ⟨_, _, _, _, _, rfl, (by assumption), (by assumption), (by assumption), (by rfl), ?_⟩ | refine ⟨rfl, ?_⟩ | (refine And.intro ?_ ?_; focus walk_at "num")))
abbrev s_members : Stmt := topS 63
abbrev N_members : List Str := ["_law_pact_here", "_law_part_here"]
abbrev P_members : List Str := ["_law_pact_here"]
theorem sc_members : FnScope N_members P_members (defScope s_members) := ⟨rfl, rfl, rfl, by decide +kernel, rfl, by decide +kernel, by decide +kernel⟩
/-! ### the law's own rows -/
def LmAt (H : Hp) : List Mb → List Addr → Prop
  | [], ts => ts = []
  | (p, o) :: r, ts => ∃ t a ss, ts = t :: ss ∧ H t = some (.lst [.ref a, limV o]) ∧ DtAt H p a ∧ LmAt H r ss
section
variable {H H' : Hp}
theorem LmAt.mono (s : Same H H') : ∀ (r : List Mb) (ts : List Addr), LmAt H r ts → LmAt H' r ts
  | [], ts, h => h
  | (p, o) :: r, ts, h => by
    obtain ⟨t, a, ss, h1, h2, h3, h4⟩ := h
    exact ⟨t, a, ss, h1, s _ _ h2, h3.mono s _ _, LmAt.mono s r ss h4⟩
theorem LmAt.len : ∀ (r : List Mb) (ts : List Addr), LmAt H r ts → ts.length = r.length
  | [], ts, h => by
    have h : ts = [] := h
    rw [h]; rfl
  | (p, o) :: r, ts, h => by
    obtain ⟨t, a, ss, rfl, h2, h3, h4⟩ := h
    rw [List.length_cons, List.length_cons, LmAt.len r ss h4]
theorem LmAt.app : ∀ (r s : List Mb) (ts us : List Addr), LmAt H r ts → LmAt H s us → LmAt H (r ++ s) (ts ++ us)
  | [], s, ts, us, h, g => by
    have h : ts = [] := h
    rw [h]
    exact g
  | (p, o) :: r, s, ts, us, h, g => by
    obtain ⟨t, a, ss, rfl, h2, h3, h4⟩ := h
    exact ⟨t, a, ss ++ us, rfl, h2, h3, LmAt.app r s ss us h4 g⟩
theorem lmAt_of : ∀ (l : List Pt) (as ts : List Addr), DtsAt H l as → ts.length = as.length → (∀ (i : Nat) (t a : Addr), ts[i]? = some t → as[i]? = some a → H t = some (.lst [.ref a, .non])) → LmAt H (mbs l) ts
  | [], as, ts, h, e, g => by
    rw [DtsAt] at h
    rw [h] at e
    exact List.length_eq_zero_iff.mp e
  | p :: l, as, ts, h, e, g => by
    rw [DtsAt] at h
    obtain ⟨a, r, rfl, h1, h2⟩ := h
    cases ts with
    | nil => cases e
    | cons t ts => exact ⟨t, a, ts, rfl, g 0 t a rfl rfl, h1, lmAt_of l r ts h2 (by rw [List.length_cons, List.length_cons] at e; omega) fun i => g (i + 1)⟩
end
section
variable {P : Program} {w : World} {K : PySem.W.Frag} {mg : Str → Option Value} {base : Heap} {f C CP : Addr} {k : Cs} {fd : FuncData}
theorem lc_lm {a D : Addr} {as : List Addr} {H0 : Hp} {i : Nat} {te : TE} {vs : List Nat} {σ : L2.St} {Qd : Hp → Prop} (hS : SqL K H0 a (as.map V.ref)) (hn : as.length ≤ 1000000) (nD : H0 D = none)
    (hw : ∀ x : V, wipe ((wipe σ vs).set i (some x)) vs = wipe σ vs)
    (ht : ∀ (x : Addr) J1 (Q : VK), Same H0 J1 → (∀ T, J1 T = none → Q (.ref T) (upd J1 T (.lst [.ref x, .non]))) → te ((wipe σ vs).set i (some (.ref x))) J1 Q)
    (hd : ∀ J1 (ts : List Addr), Same H0 J1 → J1 D = some (.lst (ts.map V.ref)) → ts.length = as.length → (∀ (i : Nat) (t x : Addr), ts[i]? = some t → as[i]? = some x → H0 t = none ∧ J1 t = some (.lst [.ref x, .non])) → Qd J1) : lcW (Itl K a) (gName i) tYes te vs σ D Qd H0 := by
  refine lc_gen (n := as.length) (fun k J1 => Same H0 J1 ∧ ∃ ts : List Addr, J1 D = some (.lst (ts.map V.ref)) ∧ ts.length = k ∧ (∀ t ∈ ts, t ≠ D) ∧ ∀ (i : Nat) (t x : Addr), ts[i]? = some t → as[i]? = some x → H0 t = none ∧ J1 t = some (.lst [.ref x, .non])) ⟨same_new nD, [], upd_same, rfl, (fun t ht => absurd ht List.not_mem_nil), fun i t x h => by cases h⟩ (fun k J1 hk h => ⟨_, _, h.1.seq hS, by rw [List.getElem?_map, List.getElem?_eq_getElem hk]; rfl⟩) (fun J1 h => ⟨_, h.1.seq hS, by rw [List.length_map]; exact Nat.le_refl _⟩) (fun k J1 x J2 hk ⟨s1, ts, eD, lt, hne, hG⟩ y => ?_) (fun J1 ⟨s1, ts, eD, lt, hne, hG⟩ => hd J1 ts s1 eD lt hG)
  obtain ⟨rfl, ex⟩ := y
  have ex := ex _ (s1.seq hS)
  rw [List.getElem?_map, List.getElem?_eq_getElem hk] at ex
  cases ex
  refine ⟨hw _, ?_⟩
  show te ((wipe σ vs).set i (some (.ref as[k]))) J2 _
  refine ht as[k] J2 _ s1 fun T nT => ?_
  have sT : Same J2 (upd J2 T (.lst [.ref as[k], .non])) := same_new nT
  have tD : T ≠ D := (ne_of_none eD nT).symm
  refine ⟨_, sT _ _ eD, Nat.lt_of_le_of_lt (show (ts.map V.ref).length ≤ 1000000 by rw [List.length_map]; omega) (by decide), Z.Same.mut (s1.trans sT) nD, ts ++ [T], ?_, by rw [List.length_append, lt]; rfl, fun t ht => ?_, fun i t x h1 h2 => ?_⟩
  · rw [upd_same, List.map_append]
    rfl
  · rcases List.mem_append.mp ht with ht | ht
    · exact hne t ht
    · rw [List.mem_singleton.mp ht]
      exact tD
  · by_cases c : i < ts.length
    · rw [List.getElem?_append_left c] at h1
      obtain ⟨g1, g2⟩ := hG i t x h1 h2
      have pD : t ≠ D := hne t (List.mem_of_getElem? h1)
      exact ⟨g1, by rw [upd_ne pD]; exact sT _ _ g2⟩
    · rw [List.getElem?_append_right (by omega)] at h1
      have h3 : i - ts.length = 0 := by
        have := (List.getElem?_eq_some_iff.mp h1).1
        simp at this
        omega
      rw [h3] at h1
      obtain rfl : T = t := Option.some.inj h1
      have h4 : i = k := by omega
      subst h4
      rw [List.getElem?_eq_getElem hk] at h2
      obtain rfl := Option.some.inj h2
      exact ⟨Same.back s1 nT, by rw [upd_ne tD, upd_same]⟩
/-- members: a new list of new pairs -/
def spLm : Sp := fun vs H Q _ => ∃ (L : Addr) (as : List Addr), vs = [.ref L] ∧ H L = some (.lst (as.map V.ref)) ∧ as.length ≤ 1000000 ∧ ∀ (R : Addr) (ts : List Addr) H', Same H H' → H R = none → H' R = some (.lst (ts.map V.ref)) → ts.length = as.length → (∀ (i : Nat) (t x : Addr), ts[i]? = some t → as[i]? = some x → H t = none ∧ H' t = some (.lst [.ref x, .non])) → Q (.ref R) H'
theorem ok_lmembers (F : FnP K "_law_members" s_members f fd) : FnOk P w K mg base CX0 1 f fd P_members spLm := by
  refine F.ok sc_members (fun vs H Q E h => ?_) (fun cdv A outer s H vs Q E hr h => ?_)
  · obtain ⟨L, as, rfl, _⟩ := h
    rfl
  · obtain ⟨L, as, rfl, hL, la, q⟩ := h
    refine ⟨_, PSs.nox (pss_one (ps_ret (pe_lc (own := [("_law_part_here", 1)]) (g := (gName 1)) (tt := tYes) (by rfl) sc_members.nd (pi_list (pv 0)) (blkOk_by (own := [("_law_part_here", 1)]) (N := N_members) (sc := defScope s_members) (by decide +kernel)) (fun _ _ _ _ _ => (pg_name (i := 1) sc_members.nd rfl (by first | exact .inl rfl | exact .inr rfl))) (fun _ _ _ _ _ => pts_nil) (fun _ _ _ _ _ => (pe_lst (pa_cons (pv 1) (pa_cons pe_non pa_nil))))))), ?_⟩
    walk_at "go"
    refine ⟨⟨_, SqL.of hL⟩, ?_⟩
    intro D nD
    refine lc_lm (SqL.of hL) la nD (fun x => rfl) (fun x J1 Q1 s1 q1 => ?_) (fun J1 ts s1 eD lt hG => q D ts J1 s1 nD eD lt hG)
    walk_at "go"
    exact q1
end
end Z
set_option pp.maxSteps 700
set_option Elab.async false
set_option linter.all false
set_option maxRecDepth 100000
set_option maxHeartbeats 4000000
open SX (S S_inj S_len S_cat)
namespace Z
open Pk NdefX
open PySem PySem.Spec PyProof.Rows L2
open C8 (pss_cut tCut)
local macro_rules | `(tactic| walk_at "num") => `(tactic| first | rfl | omega | decide | exact Nat.le_of_lt (small1000 (by simp)) | exact ⟨by omega, by omega⟩ | exact ⟨by omega, by omega, by omega⟩ | exact ⟨by decide, by decide, by decide⟩ | exact Or.inl ⟨by omega, by omega⟩ | exact Or.inr ⟨by omega, by omega⟩)
local macro_rules | `(tactic| walk_at "go") => `(tactic| repeat (first | refine ⟨_, rfl, ?_⟩ | refine ⟨_, _, rfl, rfl, ?_⟩ | refine ⟨_, _, rfl, ?_⟩ | (refine ⟨_, _, rfl, rfl, ?_, ?_⟩; focus walk_at "num") | refine Or.inl ⟨_, rfl, ?_⟩ | refine ⟨_, _, _, _, rfl, rfl, (by assumption), (by rfl), ?_⟩ | refine ⟨_, _, _, _, _, rfl, (by assumption), (by assumption), (by assumption), (by rfl), ?_⟩ | refine ⟨rfl, ?_⟩ | (refine And.intro ?_ ?_; focus walk_at "num")))
abbrev s_over : Stmt := topS 69
abbrev N_over : List Str := ["_law_state"]
abbrev P_over : List Str := ["_law_state"]
theorem sc_over : FnScope N_over P_over (defScope s_over) := ⟨rfl, rfl, rfl, by decide +kernel, rfl, by decide +kernel, by decide +kernel⟩
/-- the law's word for how a play stands -/
def WdOk (st : Pst) (o : Ou) (z : Str) : Prop := match o with
  | .done => z = "done"
  | .cut => z = "cut"
  | .fail _ => z = "failed"
  | .go => ∃ p l r, st.row = (p, l) :: r ∧ mvV p = .str z
theorem nsg (o : Nat) {t : Str} (h : t.length ≠ 1) : decide (V.str (S [o]) = V.str t) = false := decide_eq_false fun z => by
  injection z with z
  have := congrArg Str.length z
  rw [S_len] at this
  exact h this.symm
theorem mv_word {p : Pt} {z : Str} (h : mvV p = .str z) : decide (V.str z = V.str "done") = false ∧ decide (V.str z = V.str "cut") = false ∧ decide (V.str z = V.str "failed") = false := by
  cases p with
  | ch o os =>
    injection h with h
    subst h
    exact ⟨nsg o (by decide +kernel), nsg o (by decide +kernel), nsg o (by decide +kernel)⟩
  | rd o b =>
    injection h with h
    subst h
    exact ⟨nsg o (by decide +kernel), nsg o (by decide +kernel), nsg o (by decide +kernel)⟩
  | en b =>
    injection h with h
    subst h
    exact ⟨by decide +kernel, by decide +kernel, by decide +kernel⟩
  | _ => cases h
section
variable {P : Program} {w : World} {K : PySem.W.Frag} {mg : Str → Option Value} {base : Heap} {f C CP : Addr} {k : Cs} {fd : FuncData}
def isOv : Ou → Bool
  | .go => false
  | _ => true
def spOv : Sp := fun vs H Q _ => ∃ (z : Str) (st : Pst) (o : Ou), vs = [.str z] ∧ WdOk st o z ∧ Q (.bl (isOv o)) H
theorem ok_over (F : FnP K "_law_over" s_over f fd) : FnOk P w K mg base CX0 1 f fd P_over spOv := by
  refine F.ok sc_over (fun vs H Q E h => ?_) (fun cdv A outer s H vs Q E hr h => ?_)
  · obtain ⟨z, st, o, rfl, _⟩ := h
    rfl
  · obtain ⟨z, st, o, rfl, hz, q⟩ := h
    refine ⟨_, PSs.nox (pss_one (ps_ret (pe_or (pe_cmpR op_eq (pv 0) pe_str (nomark _)) (pe_or (pe_cmpR op_eq (pv 0) pe_str (nomark _)) (pe_one (pe_cmpR op_eq (pv 0) pe_str (nomark _))))))), ?_⟩
    cases o with
    | done =>
      have hz : z = "done" := hz
      subst hz
      walk_at "go"
      exact q
    | cut =>
      have hz : z = "cut" := hz
      subst hz
      walk_at "go"
      exact q
    | fail c =>
      have hz : z = "failed" := hz
      subst hz
      walk_at "go"
      exact q
    | go =>
      obtain ⟨p, l, r, _, em⟩ := hz
      obtain ⟨h1, h2, h3⟩ := mv_word em
      walk_at "go"
      rw [h1]
      walk_at "go"
      rw [h2]
      walk_at "go"
      rw [h3]
      exact q
end
end Z
set_option pp.maxSteps 700
set_option Elab.async false
set_option linter.all false
set_option maxRecDepth 100000
set_option maxHeartbeats 4000000
open SX (S S_inj S_len S_cat)
namespace Z
open Pk NdefX
open PySem PySem.Spec PyProof.Rows L2
open C8 (pss_cut tCut)
local macro_rules | `(tactic| walk_at "num") => `(tactic| first | rfl | omega | decide | exact Nat.le_of_lt (small1000 (by simp)) | exact ⟨by omega, by omega⟩ | exact ⟨by omega, by omega, by omega⟩ | exact ⟨by decide, by decide, by decide⟩ | exact Or.inl ⟨by omega, by omega⟩ | exact Or.inr ⟨by omega, by omega⟩)
local macro_rules | `(tactic| walk_at "go") => `(tactic| repeat (first | refine ⟨_, rfl, ?_⟩ | refine ⟨_, _, rfl, rfl, ?_⟩ | refine ⟨_, _, rfl, ?_⟩ | (refine ⟨_, _, rfl, rfl, ?_, ?_⟩; focus walk_at "num") | refine Or.inl ⟨_, rfl, ?_⟩ | refine ⟨_, _, _, _, rfl, rfl, (by assumption), (by rfl), ?_⟩ | refine ⟨_, _, _, _, _, rfl, (by assumption), (by assumption), (by assumption), (by rfl), ?_⟩ | refine ⟨rfl, ?_⟩ | (refine And.intro ?_ ?_; focus walk_at "num")))
abbrev s_move : Stmt := topS 68
abbrev N_move : List Str := ["_law_row_here", "_law_number_here"]
abbrev P_move : List Str := ["_law_row_here", "_law_number_here"]
theorem sc_move : FnScope N_move P_move (defScope s_move) := ⟨rfl, rfl, rfl, by decide +kernel, rfl, by decide +kernel, by decide +kernel⟩
abbrev s_number : Stmt := topS 67
abbrev N_number : List Str := ["_law_row_here", "_law_draw", "_law_part_here", "_law_limit"]
abbrev P_number : List Str := ["_law_row_here", "_law_draw"]
theorem sc_number : FnScope N_number P_number (defScope s_number) := ⟨rfl, rfl, rfl, by decide +kernel, rfl, by decide +kernel, by decide +kernel⟩
theorem dt_kind {H : Hp} {p : Pt} {a : Addr} (h : DtAt H p a) : ∃ xs, H a = some (.tup (.str (kdS p) :: xs)) := by
  cases p with
  | tr p q m => rw [DtAt] at h; exact ⟨_, h⟩
  | ev c => rw [DtAt] at h; exact ⟨_, h⟩
  | ch o os => rw [DtAt] at h; obtain ⟨L, as, h, _⟩ := h; exact ⟨_, h⟩
  | rd o b => rw [DtAt] at h; obtain ⟨L, as, h, _⟩ := h; exact ⟨_, h⟩
  | en b => rw [DtAt] at h; obtain ⟨L, as, h, _⟩ := h; exact ⟨_, h⟩
  | ti c b => rw [DtAt] at h; obtain ⟨L, as, h, _⟩ := h; exact ⟨_, h⟩
/-- a row of the law at R -/
def RwAt (H : Hp) (R : Addr) (r : List Mb) : Prop := ∃ ts : List Addr, H R = some (.lst (ts.map V.ref)) ∧ LmAt H r ts
section
variable {P : Program} {w : World} {K : PySem.W.Frag} {mg : Str → Option Value} {base : Heap} {f C CP : Addr} {k : Cs} {fd : FuncData}
def spLmv : Sp := fun vs H Q _ => ∃ (R : Addr) (p : Pt) (l : Option Nat) (r : List Mb) (n : Int), vs = [.ref R, .int n] ∧ RwAt H R ((p, l) :: r) ∧ ∀ T, H T = none → Q (.ref T) (upd H T (.tup [.str (mvS p), .int n]))
theorem ok_lmove (F : FnP K "_law_move" s_move f fd) : FnOk P w K mg base CX0 1 f fd P_move spLmv := by
  refine F.ok sc_move (fun vs H Q E h => ?_) (fun cdv A outer s H vs Q E hr h => ?_)
  · obtain ⟨R, p, l, r, n, rfl, _⟩ := h
    rfl
  · obtain ⟨R, p, l, r, n, rfl, ⟨ts, hR, t, a, ss, rfl, ht, ha, hs⟩, q⟩ := h
    refine ⟨_, PSs.nox (pss_cons (ps_if (pt_cmpR op_eq (pe_ix ix_tup (pe_ix ix_list (pe_ix ix_list (pv 0) pe_int (fun _ _ => rfl)) pe_int (fun _ _ => rfl)) pe_int (fun _ _ => rfl)) pe_str (nomark _)) (pss_one (ps_ret (pe_tup (pa_cons pe_str (pa_cons (pv 1) pa_nil))))) pss_nil)
      (pss_one (ps_ret (pe_tup (pa_cons pe_str (pa_cons (pv 1) pa_nil)))))), ?_⟩
    obtain ⟨xs, hx⟩ := dt_kind ha
    walk_at "go"
    refine ⟨R, _, _, _, rfl, rfl, SqL.of hR, at_0, ?_⟩
    walk_at "go"
    refine ⟨t, _, _, _, rfl, rfl, SqL.of ht, at_0, ?_⟩
    walk_at "go"
    refine ⟨a, _, _, _, rfl, rfl, SqT.of hx, at_0, ?_⟩
    cases p <;> walk_at "go" <;> exact fun T nT => q T nT
/-- number: a number that the law may move by -/
def spLnu : Sp := fun vs H Q _ => ∃ (R : Addr) (p : Pt) (l : Option Nat) (r : List Mb) (d : Int), vs = [.ref R, .int d] ∧ RwAt H R ((p, l) :: r) ∧ (mover p).isSome = true ∧ Ok p ∧ ∀ n : Nat, NOk p l n → Q (.int (n : Int)) H
theorem ok_lnumber (F : FnP K "_law_number" s_number f fd) (m_int : mg "int" = none) (m_len : mg "len" = none) : FnOk P w K mg base CX0 1 f fd P_number spLnu := by
  refine F.ok sc_number (fun vs H Q E h => ?_) (fun cdv A outer s H vs Q E hr h => ?_)
  · obtain ⟨R, p, l, r, n, rfl, _⟩ := h
    rfl
  · obtain ⟨R, p, l, r, d, rfl, ⟨ts, hR, t, a, ss, rfl, ht, ha, hs⟩, hm, ok, q⟩ := h
    refine ⟨_, PSs.nox (pss_cons (ps_set (i := 2) sc_number.nd rfl (by first | exact .inl rfl | exact .inr rfl) (pe_ix ix_list (pe_ix ix_list (pv 0) pe_int (fun _ _ => rfl)) pe_int (fun _ _ => rfl)))
      (pss_cons (ps_set (i := 3) sc_number.nd rfl (by first | exact .inl rfl | exact .inr rfl) (pe_ix ix_list (pe_ix ix_list (pv 0) pe_int (fun _ _ => rfl)) pe_int (fun _ _ => rfl)))
      (pss_cons (ps_if (pt_cmpR op_eq (pe_ix ix_tup (pv 2) pe_int (fun _ _ => rfl)) pe_str (nomark _)) (pss_one (ps_ret (pe_op op_mod (pe_callTy call_int1 (by rfl) m_int (by decide +kernel) (pa_cons (pv 1) pa_nil)) (pe_callB call_len_seq (by rfl) m_len PySem.boot_len (pa_cons (pe_ix ix_tup (pv 2) pe_int (fun _ _ => rfl)) pa_nil))))) pss_nil)
      (pss_cons (ps_if (pt_cmpR op_notN (pv 3) pe_non (nomark _)) (pss_one (ps_ret (pe_op op_mod (pe_callTy call_int1 (by rfl) m_int (by decide +kernel) (pa_cons (pv 1) pa_nil)) (pe_op op_add (pv 3) pe_int)))) pss_nil)
      (pss_cons (ps_if (pt_cmpR op_eq (pe_op op_mod (pe_callTy call_int1 (by rfl) m_int (by decide +kernel) (pa_cons (pe_op op_fdiv (pe_callTy call_int1 (by rfl) m_int (by decide +kernel) (pa_cons (pv 1) pa_nil)) pe_int) pa_nil)) pe_int) pe_int (nomark _)) (pss_one (ps_ret (pe_op op_mod (pe_callTy call_int1 (by rfl) m_int (by decide +kernel) (pa_cons (pv 1) pa_nil)) (pe_op op_powW (pe_op op_pow pe_int pe_int) pe_int)))) pss_nil)
      (pss_one (ps_ret (pe_op op_mod (pe_callTy call_int1 (by rfl) m_int (by decide +kernel) (pa_cons (pv 1) pa_nil)) pe_int)))))))), ?_⟩
    obtain ⟨xs, hx⟩ := dt_kind ha
    walk_at "go"
    refine ⟨R, _, _, _, rfl, rfl, SqL.of hR, at_0, ?_⟩
    walk_at "go"
    refine ⟨t, _, _, _, rfl, rfl, SqL.of ht, at_0, ?_⟩
    walk_at "go"
    refine ⟨R, _, _, _, rfl, rfl, SqL.of hR, at_0, ?_⟩
    walk_at "go"
    refine ⟨t, _, _, _, rfl, rfl, SqL.of ht, at_1, ?_⟩
    walk_at "go"
    refine ⟨a, _, _, _, rfl, rfl, SqT.of hx, at_0, ?_⟩
    have rdn : ∀ L : Nat, l = some L → (∀ o os, p ≠ .ch o os) → ∀ n : Nat, n < L + 1 → NOk p l n := fun L e hp n hn => ⟨fun o os z => absurd z (hp o os), fun _ L' e' => by rw [e] at e'; cases e'; omega⟩
    cases p with
    | ch o os =>
      rw [DtAt] at ha
      obtain ⟨L, as, h1, h2, h3⟩ := ha
      have la := DasAt.len _ _ h3
      have hT : SqT K H a _ := SqT.of h1
      have hos : 0 < os.length := by
        rw [Ok] at ok
        omega
      obtain ⟨n, en, hn⟩ := modN d hos
      walk_at "go"
      refine ⟨L, _, rfl, .inl (SqL.of h2), ?_⟩
      rw [List.length_map, la]
      walk_at "go"
      rw [show (fun i j : Int => V.int (i % j)) d (os.length : Int) = V.int (n : Int) from congrArg V.int en]
      exact q n ⟨fun o os' e => by cases e; exact hn, fun z => absurd rfl (z _ _)⟩
    | rd o b =>
      cases l with
      | none =>
        have hb1 : CPow 10 50 := ⟨by decide, by decide, by decide⟩
        have hb2 : CPowW (10 ^ (50 : Int).toNat) 5 := ⟨by decide, by decide +kernel⟩
        have hb3 : (0 : Int) < (10 ^ (50 : Int).toNat) ^ (5 : Int).toNat := by decide +kernel
        have any : ∀ z : Int, 0 ≤ z → Q (.int z) H := fun z hz => by
          have u := q z.toNat ⟨nofun, fun _ L e => by cases e⟩
          rw [Int.toNat_of_nonneg hz] at u
          exact u
        walk_at "go"
        refine ite2 (fun _ => ?_) (fun _ => ?_)
        · walk_at "go"
          exact any _ (Int.emod_nonneg d (Int.ne_of_gt hb3))
        · walk_at "go"
          exact any _ (Int.emod_nonneg d (by decide))
      | some L =>
        obtain ⟨n, en, hn⟩ := modN d (show 0 < L + 1 by omega)
        have hz0 : (0 : Int) < (L : Int) + 1 := by omega
        walk_at "go"
        rw [show (fun i j : Int => V.int (i % j)) d ((L : Int) + 1) = V.int (n : Int) from congrArg V.int en]
        exact q n (rdn L rfl nofun n hn)
    | en b =>
      cases l with
      | none =>
        have hb1 : CPow 10 50 := ⟨by decide, by decide, by decide⟩
        have hb2 : CPowW (10 ^ (50 : Int).toNat) 5 := ⟨by decide, by decide +kernel⟩
        have hb3 : (0 : Int) < (10 ^ (50 : Int).toNat) ^ (5 : Int).toNat := by decide +kernel
        have any : ∀ z : Int, 0 ≤ z → Q (.int z) H := fun z hz => by
          have u := q z.toNat ⟨nofun, fun _ L e => by cases e⟩
          rw [Int.toNat_of_nonneg hz] at u
          exact u
        walk_at "go"
        refine ite2 (fun _ => ?_) (fun _ => ?_)
        · walk_at "go"
          exact any _ (Int.emod_nonneg d (Int.ne_of_gt hb3))
        · walk_at "go"
          exact any _ (Int.emod_nonneg d (by decide))
      | some L =>
        obtain ⟨n, en, hn⟩ := modN d (show 0 < L + 1 by omega)
        have hz0 : (0 : Int) < (L : Int) + 1 := by omega
        walk_at "go"
        rw [show (fun i j : Int => V.int (i % j)) d ((L : Int) + 1) = V.int (n : Int) from congrArg V.int en]
        exact q n (rdn L rfl nofun n hn)
    | _ => cases hm
end
end Z
set_option pp.maxSteps 700
set_option Elab.async false
set_option linter.all false
set_option maxRecDepth 100000
set_option maxHeartbeats 4000000
open SX (S S_inj S_len S_cat)
namespace Z
open Pk NdefX
open PySem PySem.Spec PyProof.Rows L2
open C8 (pss_cut tCut)
local macro_rules | `(tactic| walk_at "num") => `(tactic| first | rfl | omega | decide | exact Nat.le_of_lt (small1000 (by simp)) | exact ⟨by omega, by omega⟩ | exact ⟨by omega, by omega, by omega⟩ | exact ⟨by decide, by decide, by decide⟩ | exact Or.inl ⟨by omega, by omega⟩ | exact Or.inr ⟨by omega, by omega⟩)
local macro_rules | `(tactic| walk_at "go") => `(tactic| repeat (first | refine ⟨_, rfl, ?_⟩ | refine ⟨_, _, rfl, rfl, ?_⟩ | refine ⟨_, _, rfl, ?_⟩ | (refine ⟨_, _, rfl, rfl, ?_, ?_⟩; focus walk_at "num") | refine Or.inl ⟨_, rfl, ?_⟩ | refine ⟨_, _, _, _, rfl, rfl, (by assumption), (by rfl), ?_⟩ | refine ⟨_, _, _, _, _, rfl, (by assumption), (by assumption), (by assumption), (by rfl), ?_⟩ | refine ⟨rfl, ?_⟩ | (refine And.intro ?_ ?_; focus walk_at "num")))
/-! ### the heap without some things -/
def cutL (H : Hp) (S : List Addr) : Hp := fun a => if a ∈ S then none else H a
section
variable {H H' : Hp} {S : List Addr} {a : Addr} {o : HO}
theorem cutL_some (h : cutL H S a = some o) : a ∉ S ∧ H a = some o := by
  unfold cutL at h
  split at h
  · cases h
  · exact ⟨by assumption, h⟩
theorem cutL_of (h1 : a ∉ S) (h : H a = some o) : cutL H S a = some o := by
  unfold cutL
  rw [if_neg h1, h]
theorem cutL_same : Same (cutL H S) H := fun _ _ h => (cutL_some h).2
theorem cutL_mono (s : Same H H') : Same (cutL H S) (cutL H' S) := fun _ _ h => cutL_of (cutL_some h).1 (s _ _ (cutL_some h).2)
theorem cutL_upd (h : a ∈ S) : cutL (upd H a o) S = cutL H S := by
  funext b
  unfold cutL
  by_cases c : b ∈ S
  · rw [if_pos c, if_pos c]
  · rw [if_neg c, if_neg c, upd_ne (show b ≠ a from fun e => c (e ▸ h))]
def Lvs (H : Hp) (S : List Addr) : Prop := ∀ s ∈ S, ∃ u, H s = some u ∧ Mut (some u)
theorem Lvs.mono (h : Lvs H S) (s : Same H H') : Lvs H' S := fun a m => by
  obtain ⟨u, e, mu⟩ := h a m
  exact ⟨u, s _ _ e, mu⟩
theorem Lvs.new (h : Lvs H S) (n : H a = none) : a ∉ S := fun m => by
  obtain ⟨u, e, _⟩ := h a m
  rw [e] at n
  cases n
theorem Lvs.upd (h : Lvs H S) (mu : Mut (some o)) : Lvs (upd H a o) S := fun b m => by
  by_cases c : b = a
  · exact ⟨o, by rw [c, upd_same], mu⟩
  · obtain ⟨u, e, mu⟩ := h b m
    exact ⟨u, by rw [upd_ne c, e], mu⟩
theorem cutL_new (lv : Lvs H S) (n : H a = none) (h : H' a = some o) : cutL H' S a = some o := cutL_of (lv.new n) h
end
/-- all but some things of S stands as before -/
structure FrS (S ex : List Addr) (H H' : Hp) : Prop where
  c : Same (cutL H S) (cutL H' S)
  k : ∀ s ∈ S, s ∉ ex → H' s = H s
  l : Lvs H' S
theorem frS_of {S ex : List Addr} {H H' : Hp} (lv : Lvs H S) (s : Same H H') : FrS S ex H H' := ⟨cutL_mono s, fun a m _ => by
  obtain ⟨u, e, _⟩ := lv a m
  rw [e, s _ _ e], lv.mono s⟩
theorem FrS.trans {S ex : List Addr} {H H1 H2 : Hp} (h : FrS S ex H H1) (g : FrS S ex H1 H2) : FrS S ex H H2 := ⟨Same.trans h.c g.c, fun a m n => by rw [g.k a m n, h.k a m n], g.l⟩
theorem FrS.wk {S ex ex' : List Addr} {H H1 : Hp} (h : FrS S ex H H1) (s : ∀ a ∈ ex, a ∈ ex') : FrS S ex' H H1 := ⟨h.c, fun a m n => h.k a m (fun z => n (s a z)), h.l⟩
theorem frS_upd {S ex : List Addr} {H : Hp} {a : Addr} {o : HO} (lv : Lvs H S) (h : a ∈ S) (g : a ∈ ex) (mu : Mut (some o) := by exact True.intro) : FrS S ex H (upd H a o) := ⟨by rw [cutL_upd h]; exact Same.refl _, fun b m n => by rw [upd_ne (show b ≠ a from fun e => n (e ▸ g))], lv.upd mu⟩
/-! ### what is not locked stays -/
def SmX (H H' : Hp) : Prop := ∀ a o, H a = some o → (∀ od u, o = .frz od u → ∃ xs, u = .tup xs) → H' a = some o
section
variable {k : Cs} {K : PySem.W.Frag} {H H' : Hp} {CY : Addr}
theorem SmX.r (s : SmX H H') : SmR k K H H' where
  ins := fun _ h => s _ _ h fun _ _ e => by cases e
  tup := fun h => by
    rcases h with (h | ⟨o, h⟩) | h
    · exact .inl (.inl (s _ _ h fun _ _ e => by cases e))
    · exact .inl (.inr ⟨o, s _ _ h fun _ _ e => by cases e; exact ⟨_, rfl⟩⟩)
    · exact .inr h
theorem MbsAt.monoX (s : SmX H H') (r : List Mb) (ts : List Addr) (h : MbsAt k K H r ts) : MbsAt k K H' r ts := MbsAt.cut s.r (fun t o e ⟨xs, z⟩ => s _ _ e fun _ _ z2 => by rw [z] at z2; cases z2) r ts h
theorem StAt.monoX (s : SmX H H') {st : Pst} {D R L : Addr} (h : StAt k K H st D R L) : StAt k K H' st D R L := by
  obtain ⟨h1, ⟨ts, h2, h3⟩, h4⟩ := h
  exact ⟨s _ _ h1 fun _ _ e => (by cases e), ⟨ts, s _ _ h2 fun _ _ e => (by cases e), MbsAt.monoX s _ _ h3⟩, s _ _ h4 fun _ _ e => by cases e⟩
theorem PastAt.monoX (s : SmX H H') : ∀ (r : List (Mv × Pst)) (ts : List Addr), PastAt k K H r ts → PastAt k K H' r ts
  | [], ts, h => h
  | (m, st) :: r, ts, h => by
    obtain ⟨t, a, D, R, L, ss, h1, h2, h3, h4, h5⟩ := h
    exact ⟨t, a, D, R, L, ss, h1, s _ _ h2 fun _ _ e => (by cases e), s _ _ h3 fun _ _ e => (by cases e), StAt.monoX s h4, PastAt.monoX s r ss h5⟩
/-- a play whose parts stand outside of S -/
def PlS (CY : Addr) (k : Cs) (K : PySem.W.Frag) (H : Hp) (S : List Addr) (x q : Addr) (st : Pst) (past : List (Mv × Pst)) (o : Ou) : Prop := ∃ dy D R L ps, H x = some (.ins CY dy (plF D R L q o)) ∧ H q = some (.lst (ps.map V.ref)) ∧ StAt k K (cutL H S) st D R L ∧ PastAt k K (cutL H S) past ps
theorem PlS.at {S : List Addr} {x q : Addr} {st : Pst} {past : List (Mv × Pst)} {o : Ou} (hx : x ∈ S) (hq : q ∈ S) (h : PlS CY k K H S x q st past o) : PlAt CY k K H x q st past o := by
  obtain ⟨dy, D, R, L, ps, h1, h2, h3, h4⟩ := h
  have s : Same (cutL H S) (cut2 H x q) := fun a o e => by
    obtain ⟨e1, e2⟩ := cutL_some e
    exact cut2_of (fun z => e1 (z ▸ hx)) (fun z => e1 (z ▸ hq)) e2
  exact ⟨dy, D, R, L, ps, h1, h2, h3.mono s, h4.mono s _ _⟩
theorem PlS.mono {S ex : List Addr} {x q : Addr} {st : Pst} {past : List (Mv × Pst)} {o : Ou} (f : FrS S ex H H') (hx : x ∈ S) (hq : q ∈ S) (nx : x ∉ ex) (nq : q ∉ ex) (h : PlS CY k K H S x q st past o) : PlS CY k K H' S x q st past o := by
  obtain ⟨dy, D, R, L, ps, h1, h2, h3, h4⟩ := h
  exact ⟨dy, D, R, L, ps, by rw [f.k x hx nx, h1], by rw [f.k q hq nq, h2], h3.mono f.c, h4.mono f.c _ _⟩
/-- the things of S but some -/
def less (S ex : List Addr) : List Addr := S.filter fun a => decide (a ∉ ex)
theorem mem_less {S ex : List Addr} {a : Addr} : a ∈ less S ex ↔ a ∈ S ∧ a ∉ ex := by
  unfold less
  rw [List.mem_filter, decide_eq_true_eq]
theorem PlS.fz {S : List Addr} {H2 : Hp} {x q : Addr} {st : Pst} {past : List (Mv × Pst)} {o : Ou} (hx : x ∈ S) (hq : q ∈ S) (fz : Frzd (less S [x, q]) H H2) (h : PlS CY k K H S x q st past o) : PlAt CY k K H2 x q st past o := by
  obtain ⟨dy, D, R, L, ps, h1, h2, h3, h4⟩ := h
  have nx : x ∉ less S [x, q] := fun m => (mem_less.mp m).2 List.mem_cons_self
  have nq : q ∉ less S [x, q] := fun m => (mem_less.mp m).2 (List.mem_cons_of_mem _ List.mem_cons_self)
  have s : Same (cutL H S) (cut2 H2 x q) := fun a o e => by
    obtain ⟨e1, e2⟩ := cutL_some e
    exact cut2_of (fun z => e1 (z ▸ hx)) (fun z => e1 (z ▸ hq)) (by rw [fz.1 a (fun z => e1 (mem_less.mp z).1), e2])
  exact ⟨dy, D, R, L, ps, by rw [fz.1 x nx, h1], by rw [fz.1 q nq, h2], h3.mono s, h4.mono s _ _⟩
/-- behind a call of a play's method while all else was locked -/
theorem lk_play {S : List Addr} {H2 H3 : Hp} {x q : Addr} {st st' : Pst} {past past' : List (Mv × Pst)} {o o' : Ou} (lv : Lvs H S) (hx : x ∈ S) (hq : q ∈ S) (fz : Frzd (less S [x, q]) H H2) (tw : Tw x q H2 H3) (pl : PlAt CY k K H3 x q st' past' o') :
    (∀ d ∈ less S [x, q], H3 d = H2 d) ∧ PlS CY k K (rest (less S [x, q]) H H3) S x q st' past' o' ∧ FrS S [x, q] H (rest (less S [x, q]) H H3) := by
  obtain ⟨dy, D, R, L, ps, h1, h2, h3, h4⟩ := pl
  have nx : x ∉ less S [x, q] := fun m => (mem_less.mp m).2 List.mem_cons_self
  have nq : q ∉ less S [x, q] := fun m => (mem_less.mp m).2 (List.mem_cons_of_mem _ List.mem_cons_self)
  have k1 : ∀ d ∈ less S [x, q], H3 d = H2 d := fun d hd => by
    obtain ⟨od, u, e1, e2⟩ := fz.2 d hd
    have m := (mem_less.mp hd).2
    have z := tw d _ (cut2_of (fun e => m (e ▸ List.mem_cons_self)) (fun e => m (e ▸ List.mem_cons_of_mem _ List.mem_cons_self)) e2)
    rw [e2]
    exact (cut2_some z).2.2
  have rs : ∀ a, a ∉ less S [x, q] → rest (less S [x, q]) H H3 a = H3 a := fun a ha => by
    unfold rest
    rw [if_neg ha]
  have rs2 : ∀ a, a ∈ less S [x, q] → rest (less S [x, q]) H H3 a = H a := fun a ha => by
    unfold rest
    rw [if_pos ha]
  have sx : SmX (cut2 H3 x q) (cutL (rest (less S [x, q]) H H3) S) := fun a u e nz => by
    obtain ⟨e1, e2, e3⟩ := cut2_some e
    have na : a ∉ S := fun m => by
      have ma : a ∈ less S [x, q] := mem_less.mpr ⟨m, fun z => by
        rcases List.mem_cons.mp z with z | z
        · exact e1 z
        · exact e2 (List.mem_singleton.mp z)⟩
      obtain ⟨od, v, g1, g2⟩ := fz.2 a ma
      rw [k1 a ma, g2] at e3
      cases e3
      obtain ⟨xs, ev⟩ := nz od v rfl
      obtain ⟨w, e5, mu⟩ := lv a m
      rw [g1, ev] at e5
      cases e5
      cases mu
    exact cutL_of na (by rw [rs a fun z => na (mem_less.mp z).1, e3])
  refine ⟨k1, ⟨dy, D, R, L, ps, by rw [rs x nx, h1], by rw [rs q nq, h2], StAt.monoX sx h3, PastAt.monoX sx _ _ h4⟩, fun a u e => ?_, fun s m n => rs2 s (mem_less.mpr ⟨m, n⟩), fun s m => ?_⟩
  · obtain ⟨na, e⟩ := cutL_some e
    have nl : a ∉ less S [x, q] := fun z => na (mem_less.mp z).1
    have z := tw a u (cut2_of (fun e => na (e ▸ hx)) (fun e => na (e ▸ hq)) (by rw [fz.1 a nl, e]))
    exact cutL_of na (by rw [rs a nl]; exact (cut2_some z).2.2)
  · by_cases c : s ∈ less S [x, q]
    · rw [rs2 s c]
      exact lv s m
    · rw [rs s c]
      by_cases e : s = x
      · rw [e, h1]; exact ⟨_, rfl, True.intro⟩
      · by_cases e2 : s = q
        · rw [e2, h2]; exact ⟨_, rfl, True.intro⟩
        · exact absurd (mem_less.mpr ⟨m, fun z => by
            rcases List.mem_cons.mp z with z | z
            · exact e z
            · exact e2 (List.mem_singleton.mp z)⟩) c
/-- members in a new list: outside of S -/
theorem lm_new {S : List Addr} {l : List Pt} {as ts : List Addr} (lv : Lvs H S) (s : Same H H') (hD : DtsAt (cutL H S) l as) (lt : ts.length = as.length) (hG : ∀ (i : Nat) (t x : Addr), ts[i]? = some t → as[i]? = some x → H t = none ∧ H' t = some (.lst [.ref x, .non])) : LmAt (cutL H' S) (mbs l) ts := lmAt_of l as ts (hD.mono (cutL_mono s) _ _) lt fun i t a h1 h2 => cutL_new lv (hG i t a h1 h2).1 (hG i t a h1 h2).2
/-- the law's own state -/
structure LwS (H : Hp) (S : List Addr) (R D E : Addr) (st : Pst) : Prop where
  r : ∃ ts : List Addr, H R = some (.lst (ts.map V.ref)) ∧ LmAt (cutL H S) st.row ts
  d : H D = some (.dK (pk st.pu))
  e : H E = some (.lst (hapV st.hap))
theorem LwS.mono {S ex : List Addr} {R D E : Addr} {st : Pst} (h : LwS H S R D E st) (f : FrS S ex H H') (mR : R ∈ S) (mD : D ∈ S) (mE : E ∈ S) (nR : R ∉ ex) (nD : D ∉ ex) (nE : E ∉ ex) : LwS H' S R D E st := by
  obtain ⟨⟨ts, h1, h2⟩, h3, h4⟩ := h
  exact ⟨⟨ts, by rw [f.k R mR nR, h1], h2.mono f.c _ _⟩, by rw [f.k D mD nD, h3], by rw [f.k E mE nE, h4]⟩
/-- three different things of S -/
structure In3 (S : List Addr) (R D E : Addr) : Prop where
  r : R ∈ S
  d : D ∈ S
  e : E ∈ S
  rd : R ≠ D
  re : R ≠ E
  de : D ≠ E
end
end Z
set_option pp.maxSteps 700
set_option Elab.async false
set_option linter.all false
set_option maxRecDepth 100000
set_option maxHeartbeats 4000000
open SX (S S_inj S_len S_cat)
namespace Z
open Pk NdefX
open PySem PySem.Spec PyProof.Rows L2
open C8 (pss_cut tCut)
local macro_rules | `(tactic| walk_at "num") => `(tactic| first | rfl | omega | decide | exact Nat.le_of_lt (small1000 (by simp)) | exact ⟨by omega, by omega⟩ | exact ⟨by omega, by omega, by omega⟩ | exact ⟨by decide, by decide, by decide⟩ | exact Or.inl ⟨by omega, by omega⟩ | exact Or.inr ⟨by omega, by omega⟩)
local macro_rules | `(tactic| walk_at "go") => `(tactic| repeat (first | refine ⟨_, rfl, ?_⟩ | refine ⟨_, _, rfl, rfl, ?_⟩ | refine ⟨_, _, rfl, ?_⟩ | (refine ⟨_, _, rfl, rfl, ?_, ?_⟩; focus walk_at "num") | refine Or.inl ⟨_, rfl, ?_⟩ | refine ⟨_, _, _, _, rfl, rfl, (by assumption), (by rfl), ?_⟩ | refine ⟨_, _, _, _, _, rfl, (by assumption), (by assumption), (by assumption), (by rfl), ?_⟩ | refine ⟨rfl, ?_⟩ | (refine And.intro ?_ ?_; focus walk_at "num")))
abbrev s_text : Stmt := topS 57
abbrev N_text : List Str := ["_law_pact_here", "_law_part_here"]
abbrev P_text : List Str := ["_law_pact_here"]
theorem sc_text : FnScope N_text P_text (defScope s_text) := ⟨rfl, rfl, rfl, by decide +kernel, rfl, by decide +kernel, by decide +kernel⟩
abbrev s_part_text : Stmt := topS 58
abbrev N_part_text : List Str := ["_law_part_here", "_law_option"]
abbrev P_part_text : List Str := ["_law_part_here"]
theorem sc_part_text : FnScope N_part_text P_part_text (defScope s_part_text) := ⟨rfl, rfl, rfl, by decide +kernel, rfl, by decide +kernel, by decide +kernel⟩
section
variable {P : Program} {w : World} {K : PySem.W.Frag} {mg : Str → Option Value} {base : Heap} {f f2 C CP CY : Addr} {k : Cs} {fd fd2 : FuncData}
def spTl (d : Nat) : Sp := fun vs H Q _ => ∃ (L : Addr) (l : List Pt), vs = [.ref L] ∧ DaAt H l L ∧ OkL l ∧ wtL l ≤ 1000 ∧ dpL l + 1 ≤ d ∧ ∀ H', Same H H' → Q (.str (S (txB l))) H'
def spTp (d : Nat) : Sp := fun vs H Q _ => ∃ (a : Addr) (p : Pt), vs = [.ref a] ∧ DtAt H p a ∧ Ok p ∧ wt p ≤ 1000 ∧ dp p ≤ d ∧ ∀ H', Same H H' → Q (.str (S (tx p))) H'
theorem ok_text {d : Nat} (F : FnP K "_law_text" s_text f fd) (m_len : mg "len" = none) (c_part_text : Cal P w K mg base (2 * d + 7) "_law_part_text" (spTp d)) : FnOk P w K mg base CX0 (2 * d + 8) f fd P_text (spTl (d + 1)) := by
  refine F.ok sc_text (fun vs H Q E h => ?_) (fun cdv A outer s H vs Q E hr h => ?_)
  · obtain ⟨L, l, rfl, _⟩ := h
    rfl
  · obtain ⟨L, l, rfl, ⟨bs, hL, hD⟩, ok, hw, hd, qq⟩ := h
    refine ⟨_, PSs.nox (pss_cons (ps_if (pt_cmpR op_eq (pe_callB call_len_seq (by rfl) m_len PySem.boot_len (pa_cons (pv 0) pa_nil)) pe_int (nomark _)) (pss_one (ps_ret pe_str)) pss_nil)
      (pss_one (ps_ret (pe_join pe_str (pe_lc (own := [("_law_part_here", 1)]) (g := (gName 1)) (tt := tYes) (by rfl) sc_text.nd (pi_list (pv 0)) (blkOk_by (own := [("_law_part_here", 1)]) (N := N_text) (sc := defScope s_text) (by decide +kernel)) (fun _ _ _ _ _ => (pg_name (i := 1) sc_text.nd rfl (by first | exact .inl rfl | exact .inr rfl))) (fun _ _ _ _ _ => pts_nil) (fun _ _ _ _ _ => (pe_cl c_part_text hr (by omega) (by rfl) (pa_cons (pv 1) pa_nil)))))))), ?_⟩
    have lw := len_wt l
    have lb := DtsAt.len _ _ hD
    walk_at "go"
    refine ⟨L, _, rfl, .inl (SqL.of hL), ?_⟩
    rw [List.length_map, lb]
    cases l with
    | nil =>
      walk_at "go"
      rw [txB] at qq
      exact qq _ (Same.refl _)
    | cons p0 l0 =>
      walk_at "go"
      refine ite2 (fun e => absurd e (by rw [List.length_cons]; exact fun z => (by injection z))) (fun _ => ?_)
      walk_at "go"
      refine ⟨⟨_, rfl⟩, ?_⟩
      walk_at "go"
      refine ⟨⟨_, SqL.of hL⟩, ?_⟩
      intro D nD
      refine lc_vsL (SqL.of hL) ((p0 :: l0).map fun p => .str (S (tx p))) (by rw [List.length_map, List.length_map, lb]) (by rw [List.length_map]; omega) nD (fun x => rfl) (fun i x y J Q4 ex ey s4 q4 => ?_) (fun J s4 eD => ?_)
      · obtain ⟨y2, p, rfl, ep, hp⟩ := DtsAt.gets _ _ hD i x ex
        rw [List.getElem?_map, ep] at ey
        cases ey
        have pm := List.mem_of_getElem? ep
        have := wtL_mem pm
        have := dpL_mem pm
        walk_at "go"
        exact ⟨y2, p, rfl, hp.mono s4, okL_iff.mp ok p pm, by omega, by omega, fun J2 s2 => q4 _ s2⟩
      have lt := txs_len (p0 :: l0) ok
      walk_at "go"
      refine ⟨S [44, 32], D, (txs (p0 :: l0)).map S, rfl, rfl, .inl (SqL.of (by rw [txs_map, List.map_map, List.map_map]; exact eD)), ?_, ?_⟩
      · rw [show (S [44, 32]).length = 2 from S_len _, len2]
        omega
      rw [SX.join_S, jn_eq, ← txB_cons]
      exact qq _ s4
theorem ok_part_text {d : Nat} (F : FnP K "_law_part_text" s_part_text f fd) (m_str : mg "str" = none) (c_text : Cal P w K mg base (2 * d + 6) "_law_text" (spTl d)) : FnOk P w K mg base CX0 (2 * d + 7) f fd P_part_text (spTp d) := by
  refine F.ok sc_part_text (fun vs H Q E h => ?_) (fun cdv A outer s H vs Q E hr h => ?_)
  · obtain ⟨a, p, rfl, _⟩ := h
    rfl
  · obtain ⟨a, p, rfl, hD, ok, hw, hd, q⟩ := h
    refine ⟨_, PSs.nox (pss_cons (ps_if (pt_cmpR op_eq (pe_ix ix_tup (pv 0) pe_int (fun _ _ => rfl)) pe_str (nomark _)) (pss_one (ps_ret (pe_op op_add_str (pe_op op_add_str (pe_ix ix_tup (pv 0) pe_int (fun _ _ => rfl)) (pe_ix ix_tup (pv 0) pe_int (fun _ _ => rfl))) (pe_callTy call_str_int (by rfl) m_str (by decide +kernel) (pa_cons (pe_ix ix_tup (pv 0) pe_int (fun _ _ => rfl)) pa_nil))))) pss_nil)
      (pss_cons (ps_if (pt_cmpR op_eq (pe_ix ix_tup (pv 0) pe_int (fun _ _ => rfl)) pe_str (nomark _)) (pss_one (ps_ret (pe_ix ix_tup (pv 0) pe_int (fun _ _ => rfl)))) pss_nil)
      (pss_cons (ps_if (pt_cmpR op_eq (pe_ix ix_tup (pv 0) pe_int (fun _ _ => rfl)) pe_str (nomark _)) (pss_one (ps_ret (pe_op op_add_str (pe_op op_add_str (pe_op op_add_str (pe_ix ix_tup (pv 0) pe_int (fun _ _ => rfl)) pe_str) (pe_join pe_str (pe_lc (own := [("_law_option", 1)]) (g := (gName 1)) (tt := tYes) (by rfl) sc_part_text.nd (pi_list (pe_ix ix_tup (pv 0) pe_int (fun _ _ => rfl))) (blkOk_by (own := [("_law_option", 1)]) (N := N_part_text) (sc := defScope s_part_text) (by decide +kernel)) (fun _ _ _ _ _ => (pg_name (i := 1) sc_part_text.nd rfl (by first | exact .inl rfl | exact .inr rfl))) (fun _ _ _ _ _ => pts_nil) (fun _ _ _ _ _ => (pe_cl c_text hr (by omega) (by rfl) (pa_cons (pv 1) pa_nil)))))) pe_str))) pss_nil)
      (pss_cons (ps_if (pt_cmpR op_eq (pe_ix ix_tup (pv 0) pe_int (fun _ _ => rfl)) pe_str (nomark _)) (pss_one (ps_ret (pe_op op_add_str (pe_op op_add_str (pe_op op_add_str (pe_ix ix_tup (pv 0) pe_int (fun _ _ => rfl)) pe_str) (pe_cl c_text hr (by omega) (by rfl) (pa_cons (pe_ix ix_tup (pv 0) pe_int (fun _ _ => rfl)) pa_nil))) pe_str))) pss_nil)
      (pss_cons (ps_if (pt_cmpR op_eq (pe_ix ix_tup (pv 0) pe_int (fun _ _ => rfl)) pe_str (nomark _)) (pss_one (ps_ret (pe_op op_add_str (pe_op op_add_str pe_str (pe_cl c_text hr (by omega) (by rfl) (pa_cons (pe_ix ix_tup (pv 0) pe_int (fun _ _ => rfl)) pa_nil))) pe_str))) pss_nil)
      (pss_one (ps_ret (pe_op op_add_str (pe_op op_add_str (pe_op op_add_str (pe_callTy call_str_int (by rfl) m_str (by decide +kernel) (pa_cons (pe_ix ix_tup (pv 0) pe_int (fun _ _ => rfl)) pa_nil)) pe_str) (pe_cl c_text hr (by omega) (by rfl) (pa_cons (pe_ix ix_tup (pv 0) pe_int (fun _ _ => rfl)) pa_nil))) pe_str)))))))), ?_⟩
    have tl := tx_len p ok
    match p, hD, ok, hw, hd, q, tl with
    | .tr b c m, hD, ok, hw, hd, q, tl =>
      rw [DtAt] at hD
      have hT : SqT K H a _ := SqT.of hD
      rw [Ok] at ok
      have hm := ok.2.2.2
      have ld := dig_len hm
      walk_at "go"
      refine ⟨by rw [S_len, S_len]; exact szl (show 1 + 1 ≤ 100000 by decide), ?_⟩
      rw [S_cat]
      walk_at "go"
      refine ⟨lg60 hm, ?_⟩
      rw [str_dig]
      refine ⟨_, _, rfl, rfl, by rw [S_len, S_len]; exact szl (show 2 + (dig m).length ≤ 100000 by omega), ?_⟩
      rw [S_cat]
      rw [tx] at q
      exact q _ (Same.refl _)
    | .ev c, hD, ok, hw, hd, q, tl =>
      rw [DtAt] at hD
      have hT : SqT K H a _ := SqT.of hD
      walk_at "go"
      exact q _ (Same.refl _)
    | .ch o os, hD, ok, hw, hd, q, tl =>
      rw [DtAt] at hD
      obtain ⟨L, as, hD, hL, hA⟩ := hD
      have hT : SqT K H a _ := SqT.of hD
      rw [wt] at hw
      rw [dp] at hd
      have la := DasAt.len _ _ hA
      rw [Ok] at ok
      have hjl := txLL_len os ok.2.2.2
      have ljn2 := jn_len [32, 124, 32] (txLL os)
      walk_at "go"
      refine ⟨by rw [show Str.ofString "(" = S [40] from rfl, S_len, S_len]; exact szl (show 1 + 1 ≤ 100000 by decide), ?_⟩
      rw [show Str.ofString "(" = S [40] from rfl, S_cat]
      walk_at "go"
      refine ⟨⟨_, rfl⟩, ?_⟩
      walk_at "go"
      refine ⟨⟨_, SqL.of hL⟩, ?_⟩
      intro D nD
      refine lc_vsL (SqL.of hL) (os.map fun p => .str (S (txB p))) (by rw [List.length_map, List.length_map, la]) (by rw [List.length_map]; omega) nD (fun x => rfl) (fun i x y J Q4 ex ey s4 q4 => ?_) (fun J s4 eD => ?_)
      · obtain ⟨y2, p, rfl, ep, hp⟩ := DasAt.gets _ _ hA i x ex
        rw [List.getElem?_map, ep] at ey
        cases ey
        have pm := List.mem_of_getElem? ep
        have := wtLL_mem pm
        have := dpLL_mem pm
        walk_at "go"
        exact ⟨y2, p, rfl, hp.mono s4, okLL_iff.mp ok.2.2.2 p pm, by omega, by omega, fun J2 s2 => q4 _ s2⟩
      walk_at "go"
      refine ⟨S [32, 124, 32], D, (txLL os).map S, rfl, rfl, .inl (SqL.of (by rw [txLL_map, List.map_map, List.map_map]; exact eD)), ?_, ?_⟩
      · rw [show (S [32, 124, 32]).length = 3 from S_len _, len3]
        omega
      rw [SX.join_S, jn_eq]
      have ljn3 : (jn [32, 124, 32] (txLL os)).length ≤ ((txLL os).map fun t => t.length + 3).sum := ljn2
      rw [tx] at q
      generalize jn [32, 124, 32] (txLL os) = inner at ljn3 q ⊢
      refine ⟨_, _, rfl, rfl, by rw [S_len, S_len]; exact szl (by simp only [List.length_append, List.length_cons, List.length_nil]; omega), ?_⟩
      rw [S_cat]
      refine ⟨_, _, rfl, rfl, by rw [show Str.ofString ")" = S [41] from rfl, S_len, S_len]; exact szl (by simp only [List.length_append, List.length_cons, List.length_nil]; omega), ?_⟩
      rw [show Str.ofString ")" = S [41] from rfl, S_cat]
      exact q _ s4
    | .rd o b, hD, ok, hw, hd, q, tl =>
      rw [DtAt] at hD
      obtain ⟨L, as, hD, hL, hA⟩ := hD
      have hT : SqT K H a _ := SqT.of hD
      rw [wt] at hw
      rw [dp] at hd
      rw [Ok] at ok
      rw [tx] at q tl
      walk_at "go"
      refine ⟨by rw [show Str.ofString "[" = S [91] from rfl, S_len, S_len]; exact szl (show 1 + 1 ≤ 100000 by decide), ?_⟩
      rw [show Str.ofString "[" = S [91] from rfl, S_cat]
      walk_at "go"
      refine ⟨L, b, rfl, ⟨as, hL, hA⟩, ok.2, by omega, by omega, fun H1 s1 => ?_⟩
      have lb := txB_len b ok.2
      refine ⟨_, _, rfl, rfl, by rw [S_len, S_len]; exact szl (by simp only [List.length_append, List.length_cons, List.length_nil]; omega), ?_⟩
      rw [S_cat]
      refine ⟨_, _, rfl, rfl, by rw [show Str.ofString "]" = S [93] from rfl, S_len, S_len]; exact szl (by simp only [List.length_append, List.length_cons, List.length_nil]; omega), ?_⟩
      rw [show Str.ofString "]" = S [93] from rfl, S_cat]
      exact q _ s1
    | .en b, hD, ok, hw, hd, q, tl =>
      rw [DtAt] at hD
      obtain ⟨L, as, hD, hL, hA⟩ := hD
      have hT : SqT K H a _ := SqT.of hD
      rw [wt] at hw
      rw [dp] at hd
      rw [Ok] at ok
      rw [tx] at q tl
      walk_at "go"
      refine ⟨L, b, rfl, ⟨as, hL, hA⟩, ok, by omega, by omega, fun H1 s1 => ?_⟩
      have lb := txB_len b ok
      rw [show Str.ofString "[" = S [91] from rfl]
      refine ⟨_, _, rfl, rfl, by rw [S_len, S_len]; exact szl (by simp only [List.length_append, List.length_cons, List.length_nil]; omega), ?_⟩
      rw [S_cat]
      refine ⟨_, _, rfl, rfl, by rw [show Str.ofString "]" = S [93] from rfl, S_len, S_len]; exact szl (by simp only [List.length_append, List.length_cons, List.length_nil]; omega), ?_⟩
      rw [show Str.ofString "]" = S [93] from rfl, S_cat]
      exact q _ s1
    | .ti c b, hD, ok, hw, hd, q, tl =>
      rw [DtAt] at hD
      obtain ⟨L, as, hD, hL, hA⟩ := hD
      have hT : SqT K H a _ := SqT.of hD
      rw [wt] at hw
      rw [dp] at hd
      rw [Ok] at ok
      have h4 : wtL b ≤ wtL b * (if c < 1 then 1 else c) := Nat.le_mul_of_pos_right _ (by split <;> omega)
      rw [tx] at q tl
      walk_at "go"
      refine ⟨lg60 (show c ≤ 10 ^ 60 by have := ok.1; omega), ?_⟩
      rw [str_dig]
      have ld := dig_len3 ok.1
      refine ⟨_, _, rfl, rfl, by rw [show Str.ofString "(" = S [40] from rfl, S_len, S_len]; exact szl (by simp only [List.length_append, List.length_cons, List.length_nil]; omega), ?_⟩
      rw [show Str.ofString "(" = S [40] from rfl, S_cat]
      walk_at "go"
      refine ⟨L, b, rfl, ⟨as, hL, hA⟩, ok.2, by omega, by omega, fun H1 s1 => ?_⟩
      have lb := txB_len b ok.2
      refine ⟨_, _, rfl, rfl, by rw [S_len, S_len]; exact szl (by simp only [List.length_append, List.length_cons, List.length_nil]; omega), ?_⟩
      rw [S_cat]
      refine ⟨_, _, rfl, rfl, by rw [show Str.ofString ")" = S [41] from rfl, S_len, S_len]; exact szl (by simp only [List.length_append, List.length_cons, List.length_nil]; omega), ?_⟩
      rw [show Str.ofString ")" = S [41] from rfl, S_cat]
      exact q _ s1
/-- the texts of all parts -/
theorem all_text (F : FnP K "_law_text" s_text f fd) (g : mg "_law_text" = some (.ref f)) (b : Binds K fd P_text []) (F2 : FnP K "_law_part_text" s_part_text f2 fd2) (g2 : mg "_law_part_text" = some (.ref f2)) (b2 : Binds K fd2 P_part_text []) (m_len : mg "len" = none) (m_str : mg "str" = none) : ∀ d, Cal P w K mg base (2 * d + 6) "_law_text" (spTl d)
  | 0 => cal_of F g b (no_fn fun vs H Q E h => by obtain ⟨L, l, _, _, _, _, z, _⟩ := h; omega)
  | d + 1 => by
    have c_text := all_text F g b F2 g2 b2 m_len m_str d
    have c_part := cal_of F2 g2 b2 (ok_part_text F2 m_str c_text)
    rw [show 2 * (d + 1) + 6 = 2 * d + 8 by omega]
    exact cal_of F g b (ok_text F m_len c_part)
end
end Z
set_option pp.maxSteps 700
set_option Elab.async false
set_option linter.all false
set_option maxRecDepth 100000
set_option maxHeartbeats 4000000
open SX (S S_inj S_len S_cat)
namespace Z
open Pk NdefX
open PySem PySem.Spec PyProof.Rows L2
open C8 (pss_cut tCut)
local macro_rules | `(tactic| walk_at "num") => `(tactic| first | rfl | omega | decide | exact Nat.le_of_lt (small1000 (by simp)) | exact ⟨by omega, by omega⟩ | exact ⟨by omega, by omega, by omega⟩ | exact ⟨by decide, by decide, by decide⟩ | exact Or.inl ⟨by omega, by omega⟩ | exact Or.inr ⟨by omega, by omega⟩)
local macro_rules | `(tactic| walk_at "go") => `(tactic| repeat (first | refine ⟨_, rfl, ?_⟩ | refine ⟨_, _, rfl, rfl, ?_⟩ | refine ⟨_, _, rfl, ?_⟩ | (refine ⟨_, _, rfl, rfl, ?_, ?_⟩; focus walk_at "num") | refine Or.inl ⟨_, rfl, ?_⟩ | refine ⟨_, _, _, _, rfl, rfl, (by assumption), (by rfl), ?_⟩ | refine ⟨_, _, _, _, _, rfl, (by assumption), (by assumption), (by assumption), (by rfl), ?_⟩ | refine ⟨rfl, ?_⟩ | (refine And.intro ?_ ?_; focus walk_at "num")))
abbrev s_settled : Stmt := topS 64
abbrev N_settled : List Str := ["_law_row_here", "_law_purses_here", "_law_happened", "_law_turn", "_law_part_here", "_law_limit", "_law_rest", "_law_more"]
abbrev P_settled : List Str := ["_law_row_here", "_law_purses_here", "_law_happened"]
theorem sc_settled : FnScope N_settled P_settled (defScope s_settled) := ⟨rfl, rfl, rfl, by decide +kernel, rfl, by decide +kernel, by decide +kernel⟩
section
variable {P : Program} {w : World} {K : PySem.W.Frag} {mg : Str → Option Value} {base : Heap} {f C CP : Addr} {k : Cs} {fd : FuncData}
theorem GSt.car_go {ks : List Nat} {N : Nat} {pu : Pu} {h : List Pt} {p : Pt} {l : Option Nat} {r : List Mb} {st1 : Pst} (g : GSt ks N ⟨pu, (p, l) :: r, h⟩) (hm : mover p = none) (hl : l ≠ some 0) (e : car pu h p l r = (st1, .go)) : GSt ks N st1 ∧ mu st1.row < mu ((p, l) :: r) ∧ ∀ s o, Stl st1 s o → Stl ⟨pu, (p, l) :: r, h⟩ s o := by
  rcases car_stl g hm hl with ⟨z1, z2, z3, z4⟩ | ⟨z1, _⟩
  · rw [e] at z2 z3 z4
    exact ⟨z2, z3, z4⟩
  · rw [e] at z1
    exact absurd rfl z1
theorem setR {Sx : List Addr} {R D E : Addr} {pu : Pu} {row : List Mb} {hh : List Pt} {J : Hp} {ts : List Addr} (i3 : In3 Sx R D E) (hM : LmAt (cutL J Sx) row ts) (hD : J D = some (.dK (pk pu))) (hE : J E = some (.lst (hapV hh))) : LwS (upd J R (.lst (ts.map V.ref))) Sx R D E ⟨pu, row, hh⟩ := ⟨⟨ts, upd_same, by rw [cutL_upd i3.r]; exact hM⟩, by rw [upd_ne i3.rd.symm]; exact hD, by rw [upd_ne i3.re.symm]; exact hE⟩
theorem upd_keep {H : Hp} {a b : Addr} {o u : HO} (h : a ≠ b) (e : H a = some u) : upd H b o a = some u := by rw [upd_ne h]; exact e
theorem nref_non {us : List Addr} {x : Addr} (h : some (HO.lst (us.map V.ref)) = some (.lst [.ref x, .non])) : False := by
  injection h with h
  injection h with h
  match us, h with
  | [u, v], h =>
    injection h with _ h
    injection h with h _
    cases h
def spSe : Sp := fun vs H Q _ => ∃ (R D E : Addr) (Sx : List Addr) (ks : List Nat) (N : Nat) (st : Pst), vs = [.ref R, .ref D, .ref E] ∧ In3 Sx R D E ∧ Lvs H Sx ∧ LwS H Sx R D E st ∧ GSt ks N st ∧ ks.length ≤ 1000 ∧ N ≤ 9900000 ∧ mu st.row ≤ 8999 ∧ ∀ H' st' o z, FrS Sx [R, D, E] H H' → LwS H' Sx R D E st' → GSt ks N st' → Stl st st' o → WdOk st' o z → Q (.str z) H'
theorem ok_settled (F : FnP K "_law_settled" s_settled f fd) (m_range : mg "range" = none) (m_len : mg "len" = none) (c_members : Cal P w K mg base 1 "_law_members" spLm) (c_part_text : Cal P w K mg base 9 "_law_part_text" (spTp 1)) : FnOk P w K mg base CX0 10 f fd P_settled spSe := by
  refine F.ok sc_settled (fun vs H Q E h => ?_) (fun cdv A outer s H vs Q E hr h => ?_)
  · obtain ⟨R, D, E, Sx, ks, N, st, rfl, _⟩ := h
    rfl
  · obtain ⟨R, D, E, Sx, ks, N, st, rfl, i3, lv, lw, gs, hks, hN, hmu, qq⟩ := h
    refine ⟨_, PSs.nox (pss_cons (ps_for PassesOwn.never rfl (pi_range1 (by rfl) m_range (pa_cons pe_int pa_nil)) (pg_name (i := 3) sc_settled.nd rfl (by first | exact .inl rfl | exact .inr rfl))
        (pss_cons (ps_if (pt_cmpR op_eq (pe_callB call_len_seq (by rfl) m_len PySem.boot_len (pa_cons (pv 0) pa_nil)) pe_int (nomark _)) (pss_one (ps_ret pe_str)) pss_nil)
      (pss_cons (ps_set (i := 4) sc_settled.nd rfl (by first | exact .inl rfl | exact .inr rfl) (pe_ix ix_list (pe_ix ix_list (pv 0) pe_int (fun _ _ => rfl)) pe_int (fun _ _ => rfl)))
      (pss_cons (ps_set (i := 5) sc_settled.nd rfl (by first | exact .inl rfl | exact .inr rfl) (pe_ix ix_list (pe_ix ix_list (pv 0) pe_int (fun _ _ => rfl)) pe_int (fun _ _ => rfl)))
      (pss_cons (ps_if (pt_cmpR op_eq (pe_ix ix_tup (pv 4) pe_int (fun _ _ => rfl)) pe_str (nomark _)) (pss_cons (ps_if (pt_cmpR op_eq (pv 5) pe_int (nomark _)) (pss_one (ps_ret pe_str)) pss_nil)
      (pss_one (ps_ret pe_str))) pss_nil)
      (pss_cons (ps_if (PW.pt (pw_or (pt_cmpR op_eq (pe_ix ix_tup (pv 4) pe_int (fun _ _ => rfl)) pe_str (nomark _)) (pw_or1 (PW.pt (pw_and (pt_cmpR op_eq (pe_ix ix_tup (pv 4) pe_int (fun _ _ => rfl)) pe_str (nomark _)) (pw_and1 (pt_cmpR op_ne (pv 5) pe_int (nomark _)))))))) (pss_one (ps_ret (pe_ix ix_tup (pv 4) pe_int (fun _ _ => rfl)))) pss_nil)
      (pss_cons (ps_set (i := 6) sc_settled.nd rfl (by first | exact .inl rfl | exact .inr rfl) (pe_slice sl_list (pv 0) (po_some pe_int) po_none))
      (pss_cons (ps_if (PW.pt (pw_and (pt_cmpR op_eq (pe_ix ix_tup (pv 4) pe_int (fun _ _ => rfl)) pe_str (nomark _)) (pw_and1 (pt_cmpR op_gt (pe_ix ix_tup (pv 4) pe_int (fun _ _ => rfl)) pe_int (nomark _))))) (pss_cons (ps_set (i := 7) sc_settled.nd rfl (by first | exact .inl rfl | exact .inr rfl) (pe_cl c_members hr (by decide) (by rfl) (pa_cons (pe_ix ix_tup (pv 4) pe_int (fun _ _ => rfl)) pa_nil)))
      (pss_cons (ps_if (pt_cmpR op_gt (pe_ix ix_tup (pv 4) pe_int (fun _ _ => rfl)) pe_int (nomark _)) (pss_one (ps_expr (pe_bm PySem.F.plainAttrs_list PySem.F.slot_list_append PySem.F.type_list_append mt_append (pv 7) (pa_cons (pe_lst (pa_cons (pe_tup (pa_cons pe_str (pa_cons (pe_op op_sub (pe_ix ix_tup (pv 4) pe_int (fun _ _ => rfl)) pe_int) (pa_cons (pe_ix ix_tup (pv 4) pe_int (fun _ _ => rfl)) pa_nil)))) (pa_cons pe_non pa_nil))) pa_nil)))) pss_nil)
      (pss_one (ps_set (i := 6) sc_settled.nd rfl (by first | exact .inl rfl | exact .inr rfl) (pe_op op_cat (pv 7) (pv 6)))))) pss_nil)
      (pss_cons (ps_if (pt_cmpR op_eq (pe_ix ix_tup (pv 4) pe_int (fun _ _ => rfl)) pe_str (nomark _)) (pss_cons (ps_if (pt_cmpR op_lt (pe_dget (hu_of hr) (pv 1) (pe_ix ix_tup (pv 4) pe_int (fun _ _ => rfl)) (fun _ _ => rfl)) (pe_ix ix_tup (pv 4) pe_int (fun _ _ => rfl)) (nomark _)) (pss_one (ps_ret pe_str)) pss_nil)
      (pss_cons (ps_dput (hu_of hr) (pv 1) (pe_ix ix_tup (pv 4) pe_int (fun _ _ => rfl)) (pe_op op_sub (pe_dget (hu_of hr) (pv 1) (pe_ix ix_tup (pv 4) pe_int (fun _ _ => rfl)) (fun _ _ => rfl)) (pe_ix ix_tup (pv 4) pe_int (fun _ _ => rfl))) rfl)
      (pss_cons (ps_dput (hu_of hr) (pv 1) (pe_ix ix_tup (pv 4) pe_int (fun _ _ => rfl)) (pe_op op_add (pe_dget (hu_of hr) (pv 1) (pe_ix ix_tup (pv 4) pe_int (fun _ _ => rfl)) (fun _ _ => rfl)) (pe_ix ix_tup (pv 4) pe_int (fun _ _ => rfl))) rfl)
      (pss_one (ps_expr (pe_bm PySem.F.plainAttrs_list PySem.F.slot_list_append PySem.F.type_list_append mt_append (pv 2) (pa_cons (pe_cl c_part_text hr (by decide) (by rfl) (pa_cons (pv 4) pa_nil)) pa_nil))))))) pss_nil)
      (pss_cons (ps_if (pt_cmpR op_eq (pe_ix ix_tup (pv 4) pe_int (fun _ _ => rfl)) pe_str (nomark _)) (pss_one (ps_expr (pe_bm PySem.F.plainAttrs_list PySem.F.slot_list_append PySem.F.type_list_append mt_append (pv 2) (pa_cons (pe_ix ix_tup (pv 4) pe_int (fun _ _ => rfl)) pa_nil)))) pss_nil)
      (pss_one (ps_asg (pv 6) (pg_all (pv 0))))))))))))))
      (pss_one (ps_ret pe_str))), ?_⟩
    walk_at "go"
    refine for_gen (n := 9000) (fun i σ J => ∃ (st1 : Pst) (v3 v4 v5 v6 v7 : Option V), FrS Sx [R, D, E] H J ∧ LwS J Sx R D E st1 ∧ GSt ks N st1 ∧ mu st1.row + i ≤ mu st.row ∧ (∀ s o, Stl st1 s o → Stl st s o) ∧ σ = [some (.ref R), some (.ref D), some (.ref E), v3, v4, v5, v6, v7]) ⟨st, none, none, none, none, none, frS_of lv (Same.refl _), lw, gs, by omega, fun _ _ h => h, rfl⟩ ?_ ?_ ?_ ?_
    · rintro i σ J hi _
      exact hi
    · rintro σ J _
      exact Nat.le_refl _
    · rintro i σ J z J' hi ⟨st1, v3, v4, v5, v6, v7, fr, ⟨⟨ts, hR, hM⟩, hD, hE⟩, gs, hmi, back, rfl⟩ ⟨rfl, rfl⟩
      have lt := LmAt.len _ _ hM
      obtain ⟨pu, row, hh⟩ := st1
      have hsz := gs.sz
      have sG := cutL_same (H := J') (S := Sx)
      cases row with
      | nil =>
        have ts0 : ts = [] := hM
        subst ts0
        walk_at "go"
        refine ⟨R, _, rfl, .inl (SqL.of hR), ?_⟩
        rw [show (List.map V.ref ([] : List Addr)).length = 0 from rfl]
        walk_at "go"
        exact qq J' _ .done _ fr ⟨⟨[], hR, hM⟩, hD, hE⟩ gs (back _ _ .done) rfl
      | cons mb r =>
        obtain ⟨p, l⟩ := mb
        have lw1 : LwS J' Sx R D E ⟨pu, (p, l) :: r, hh⟩ := ⟨⟨ts, hR, hM⟩, hD, hE⟩
        obtain ⟨t, a, ss, rfl, ht, ha, hs⟩ := hM
        have ht' := sG _ _ ht
        have ha' := ha.mono sG _ _
        have hml := mu_len r
        have emu : mu ((p, l) :: r) = ms p + mu r := by rw [mu]
        have hpos := ms_pos p
        have hsz : ms p + mu r + hh.length ≤ N := by rw [← emu]; exact hsz
        have hmi : ms p + mu r + i ≤ mu st.row := by rw [← emu]; exact hmi
        have lss := LmAt.len _ _ hs
        obtain ⟨xs, hx⟩ := dt_kind ha'
        obtain ⟨okp, wtp, dpp, hlim⟩ := rok_hd gs.rok
        dsimp only at okp wtp dpp hlim
        walk_at "go"
        refine ⟨R, _, rfl, .inl (SqL.of hR), ?_⟩
        rw [List.length_map]
        walk_at "go"
        refine ⟨R, _, _, _, rfl, rfl, SqL.of hR, at_0, ?_⟩
        walk_at "go"
        refine ⟨t, _, _, _, rfl, rfl, SqL.of ht', at_0, ?_⟩
        walk_at "go"
        refine ⟨R, _, _, _, rfl, rfl, SqL.of hR, at_0, ?_⟩
        walk_at "go"
        refine ⟨t, _, _, _, rfl, rfl, SqL.of ht', at_1, ?_⟩
        dsimp only [List.set]
        walk_at "go"
        refine ⟨a, _, _, _, rfl, rfl, SqT.of hx, at_0, ?_⟩
        have lim0 : (mover p).isSome = false → l = none := fun z => by
          match l, hlim with
          | none, _ => rfl
          | some n, hlim =>
            have := (hlim n rfl).1
            rw [z] at this
            cases this
        have hsl : ss.length ≤ 9999999 := by
          have := mu_len r
          omega
        cases p with
        | en b =>
          match l, hlim with
          | none, _ =>
            walk_at "go"
            exact qq J' ⟨pu, (.en b, none) :: r, hh⟩ .go _ fr lw1 gs (back _ _ (.wait rfl (by simp))) ⟨_, _, _, rfl, rfl⟩
          | some 0, _ =>
            walk_at "go"
            exact qq J' ⟨pu, (.en b, some 0) :: r, hh⟩ .cut _ fr lw1 gs (back _ _ .cut) rfl
          | some (n + 1), _ =>
            walk_at "go"
            exact qq J' ⟨pu, (.en b, some (n + 1)) :: r, hh⟩ .go _ fr lw1 gs (back _ _ (.wait rfl (by simp))) ⟨_, _, _, rfl, rfl⟩
        | ch o os =>
          match l, hlim with
          | some n, hlim => exact absurd rfl ((hlim n rfl).2 o os)
          | none, _ =>
            rw [DtAt] at ha'
            obtain ⟨L, as, h1, h2, h3⟩ := ha'
            have hT : SqT K J' a _ := SqT.of h1
            walk_at "go"
            exact qq J' ⟨pu, (.ch o os, none) :: r, hh⟩ .go _ fr lw1 gs (back _ _ (.wait rfl (by simp))) ⟨_, _, _, rfl, rfl⟩
        | rd o b =>
          have ha2 := ha'
          rw [DtAt] at ha2
          obtain ⟨L, as, h1, h2, h3⟩ := ha2
          have hT : SqT K J' a _ := SqT.of h1
          match l, hlim with
          | none, _ =>
            walk_at "go"
            exact qq J' ⟨pu, (.rd o b, none) :: r, hh⟩ .go _ fr lw1 gs (back _ _ (.wait rfl (by simp))) ⟨_, _, _, rfl, rfl⟩
          | some (n + 1), _ =>
            walk_at "go"
            exact qq J' ⟨pu, (.rd o b, some (n + 1)) :: r, hh⟩ .go _ fr lw1 gs (back _ _ (.wait rfl (by simp))) ⟨_, _, _, rfl, rfl⟩
          | some 0, _ =>
            walk_at "go"
            refine ⟨R, _, rfl, SqL.of hR, ?_⟩
            rw [cutV_tlm]
            intro T nT
            generalize eH_ : upd J' T _ = J1
            have s1 : Same J' J1 := by rw [← eH_]; exact same_new nT
            have eT : J1 T = some (.lst (ss.map V.ref)) := by rw [← eH_]; exact upd_same
            clear eH_
            have hT1 : SqT K J1 a _ := SqT.of (s1 _ _ h1)
            have f1 := fr.trans (frS_of (ex := [R, D, E]) fr.l s1)
            dsimp only [List.set]
            walk_at "go"
            refine ⟨R, T, _, _, rfl, rfl, s1 _ _ hR, eT, (fun e => by rw [← e, hR] at nT; cases nT), szl3 (by rw [List.length_map, List.length_map, List.length_cons]; omega), ?_⟩
            refine ⟨⟨pu, r, hh⟩, _, _, _, _, _, f1.trans (frS_upd f1.l i3.r List.mem_cons_self), setR i3 (hs.mono (cutL_mono s1) _ _) (s1 _ _ hD) (s1 _ _ hE), ⟨rok_tl gs.rok, fun m hm => gs.nm m (List.mem_cons_of_mem _ hm), by show mu r + hh.length ≤ N; omega, gs.ky⟩, by show mu r + (i + 1) ≤ _; omega, fun s o z => back _ _ (.last rfl z), rfl⟩
        | tr p' q' m =>
          obtain rfl := lim0 rfl
          have nm := gs.nm _ List.mem_cons_self
          dsimp only at nm
          rw [NmP] at nm
          obtain ⟨n, ec⟩ := Option.isSome_iff_exists.mp (cn_ky (pu := pu) (c := p') (by rw [gs.ky]; exact nm.1))
          obtain ⟨n', ec'⟩ := Option.isSome_iff_exists.mp (cn_ky (pu := sc pu p' (n - m)) (c := q') (by rw [sc_ky, gs.ky]; exact nm.2))
          have hpu : pu.length ≤ 1000 := by
            have := congrArg List.length gs.ky
            rw [List.length_map] at this
            dsimp only at this
            omega
          have hae := ha
          have hap := ha'
          rw [DtAt] at ha ha'
          have na := (cutL_some ha).1
          have hT : SqT K J' a _ := SqT.of ha'
          walk_at "go"
          refine ⟨R, _, rfl, SqL.of hR, ?_⟩
          rw [cutV_tlm]
          intro T nT
          generalize eH_ : upd J' T _ = J1
          have s1 : Same J' J1 := by rw [← eH_]; exact same_new nT
          have eT : J1 T = some (.lst (ss.map V.ref)) := by rw [← eH_]; exact upd_same
          clear eH_
          have a1 := s1 _ _ ha'
          have hT1 : SqT K J1 a _ := SqT.of a1
          have f1 := fr.trans (frS_of (ex := [R, D, E]) fr.l s1)
          have D1 := s1 _ _ hD
          have E1 := s1 _ _ hE
          have R1 := s1 _ _ hR
          have M1 := hs.mono (cutL_mono s1) _ _
          have p1 := hap.mono s1 _ _
          have q1 := hae.mono (cutL_mono s1) _ _
          dsimp only [List.set]
          walk_at "go"
          have dg : DGet J1 D (.str (S [p'])) (some (.int (n : Int))) := by
            have z := DGet.k (k := .inr (S [p'])) D1
            rw [valV_pk, ec] at z
            exact z
          refine ⟨D, _, rfl, dg, ?_⟩
          walk_at "go"
          refine ite2 (fun e => ?_) (fun e => ?_)
          · have lt : n < m := by have := of_decide_eq_true e; omega
            walk_at "go"
            exact qq J1 ⟨pu, (.tr p' q' m, none) :: r, hh⟩ (.fail p') _ f1 ⟨⟨t :: ss, R1, t, a, ss, rfl, (cutL_mono s1) _ _ ht, q1, M1⟩, D1, E1⟩ gs (back _ _ (.fail nofun ec lt)) rfl
          · have ge : m ≤ n := by
              have : ¬ (n : Int) < (m : Int) := fun z => e (decide_eq_true z)
              omega
            obtain ⟨g1, g2, g3⟩ := GSt.car_go (h := hh) gs rfl (fun z => by cases z) (by unfold car; dsimp only; rw [ec]; dsimp only; rw [if_neg (by omega), ec'])
            walk_at "go"
            refine ⟨D, _, rfl, dg, ?_⟩
            walk_at "go"
            have pt1 : DPut J1 D (.str (S [p'])) (.int ((n : Int) - (m : Int))) (upd J1 D (.dK (pk (sc pu p' (n - m))))) := by
              have z := DPut.k (k := .inr (S [p'])) (v := .int ((n - m : Nat) : Int)) D1 (by rw [pk_len]; exact Nat.lt_of_le_of_lt hpu (by decide))
              rw [putK_pk _ _ _ ec] at z
              rw [show (n : Int) - (m : Int) = ((n - m : Nat) : Int) by omega]
              exact z
            refine ⟨D, _, rfl, pt1, ?_⟩
            have f2 := f1.trans (frS_upd (ex := [R, D, E]) (o := .dK (pk (sc pu p' (n - m)))) f1.l i3.d (List.mem_cons_of_mem _ List.mem_cons_self))
            have D2 : (upd J1 D (.dK (pk (sc pu p' (n - m))))) D = some (.dK (pk (sc pu p' (n - m)))) := upd_same
            have a2 := upd_keep (o := (.dK (pk (sc pu p' (n - m))))) ((show a ≠ D from fun e => na (e ▸ i3.d))) a1
            have E2 := upd_keep (o := (.dK (pk (sc pu p' (n - m))))) (i3.de.symm) E1
            have R2 := upd_keep (o := (.dK (pk (sc pu p' (n - m))))) (i3.rd) R1
            have T2 := upd_keep (o := (.dK (pk (sc pu p' (n - m))))) ((show T ≠ D from fun e => by rw [e, hD] at nT; cases nT)) eT
            have M2 : LmAt (cutL (upd J1 D (.dK (pk (sc pu p' (n - m))))) Sx) r ss := by rw [cutL_upd i3.d]; exact M1
            have q2 : DtAt (cutL (upd J1 D (.dK (pk (sc pu p' (n - m))))) Sx) (.tr p' q' m) a := by rw [cutL_upd i3.d]; exact q1
            generalize upd J1 D (.dK (pk (sc pu p' (n - m)))) = J2 at f2 D2 a2 E2 R2 T2 M2 q2 ⊢
            clear dg pt1 hT1
            have hT2 : SqT K J2 a _ := SqT.of a2
            walk_at "go"
            have dg2 : DGet J2 D (.str (S [q'])) (some (.int (n' : Int))) := by
              have z := DGet.k (k := .inr (S [q'])) D2
              rw [valV_pk, ec'] at z
              exact z
            refine ⟨D, _, rfl, dg2, ?_⟩
            walk_at "go"
            have pt2 : DPut J2 D (.str (S [q'])) (.int ((n' : Int) + (m : Int))) (upd J2 D (.dK (pk (sc (sc pu p' (n - m)) q' (n' + m))))) := by
              have z := DPut.k (k := .inr (S [q'])) (v := .int ((n' + m : Nat) : Int)) D2 (by rw [pk_len, sc_len]; exact Nat.lt_of_le_of_lt hpu (by decide))
              rw [putK_pk _ _ _ ec'] at z
              exact z
            refine ⟨D, _, rfl, pt2, ?_⟩
            generalize hpu3 : sc (sc pu p' (n - m)) q' (n' + m) = pu3 at pt2 g1 g2 g3 ⊢
            have f3 := f2.trans (frS_upd (ex := [R, D, E]) (o := .dK (pk pu3)) f2.l i3.d (List.mem_cons_of_mem _ List.mem_cons_self))
            have D3 : (upd J2 D (.dK (pk pu3))) D = some (.dK (pk pu3)) := upd_same
            have a3 := upd_keep (o := (.dK (pk pu3))) ((show a ≠ D from fun e => na (e ▸ i3.d))) a2
            have E3 := upd_keep (o := (.dK (pk pu3))) (i3.de.symm) E2
            have R3 := upd_keep (o := (.dK (pk pu3))) (i3.rd) R2
            have T3 := upd_keep (o := (.dK (pk pu3))) ((show T ≠ D from fun e => by rw [e, hD] at nT; cases nT)) T2
            have M3 : LmAt (cutL (upd J2 D (.dK (pk pu3))) Sx) r ss := by rw [cutL_upd i3.d]; exact M2
            generalize upd J2 D (.dK (pk pu3)) = J3 at f3 D3 a3 E3 R3 T3 M3 ⊢
            clear dg2 pt2 hT2
            have hT3 : SqT K J3 a _ := SqT.of a3
            walk_at "go"
            refine ⟨.inl ⟨rfl, _, SqL.of E3⟩, ?_⟩
            walk_at "go"
            refine ⟨a, .tr p' q' m, rfl, by rw [DtAt]; exact a3, okp, by omega, by rw [dp]; exact Nat.le_refl _, fun J9 z9 => ?_⟩
            have f3 := f3.trans (frS_of (ex := [R, D, E]) f3.l z9)
            have D3 := z9 _ _ D3
            have a3 := z9 _ _ a3
            have E3 := z9 _ _ E3
            have R3 := z9 _ _ R3
            have T3 := z9 _ _ T3
            have M3 := M3.mono (cutL_mono z9) _ _
            clear hT3
            walk_at "go"
            refine ⟨E, _, _, rfl, rfl, E3, Nat.lt_of_le_of_lt (show (hapV hh).length ≤ 10000000 by rw [show (hapV hh).length = hh.length from List.length_map _]; omega) (by decide), ?_⟩
            have f4 := f3.trans (frS_upd (ex := [R, D, E]) (o := .lst (hapV hh ++ [.str (S (tx (.tr p' q' m)))])) f3.l i3.e (by simp))
            have a4 := upd_keep (o := .lst (hapV hh ++ [.str (S (tx (.tr p' q' m)))])) (show a ≠ E from fun e => na (e ▸ i3.e)) a3
            have D4 := upd_keep (o := .lst (hapV hh ++ [.str (S (tx (.tr p' q' m)))])) i3.de D3
            have R4 := upd_keep (o := .lst (hapV hh ++ [.str (S (tx (.tr p' q' m)))])) i3.re R3
            have T4 := upd_keep (o := .lst (hapV hh ++ [.str (S (tx (.tr p' q' m)))])) (show T ≠ E from fun e => by rw [e, hE] at nT; cases nT) T3
            have M4 : LmAt (cutL (upd J9 E (.lst (hapV hh ++ [.str (S (tx (.tr p' q' m)))]))) Sx) r ss := by rw [cutL_upd i3.e]; exact M3
            have E4 : (upd J9 E (.lst (hapV hh ++ [.str (S (tx (.tr p' q' m)))]))) E = some (.lst (hapV (hh ++ [.tr p' q' m]))) := by rw [upd_same, hapV, hapV, List.map_append]; rfl
            generalize upd J9 E (.lst (hapV hh ++ [.str (S (tx (.tr p' q' m)))])) = J4 at f4 a4 D4 R4 T4 M4 E4 ⊢
            have hT4 : SqT K J4 a _ := SqT.of a4
            walk_at "go"
            refine ⟨R, T, _, _, rfl, rfl, R4, T4, (fun e => by rw [← e, hR] at nT; cases nT), szl3 (by rw [List.length_map, List.length_map, List.length_cons]; omega), ?_⟩
            exact ⟨⟨pu3, r, hh ++ [.tr p' q' m]⟩, _, _, _, _, _, f4.trans (frS_upd f4.l i3.r List.mem_cons_self), setR i3 M4 D4 E4, g1, by have : mu r < mu ((Pt.tr p' q' m, none) :: r) := g2; show mu r + (i + 1) ≤ _; omega, fun s o z => back _ _ (g3 s o z), rfl⟩
        | ev c =>
          obtain rfl := lim0 rfl
          obtain ⟨g1, g2, g3⟩ := GSt.car_go (h := hh) gs rfl (fun z => by cases z) rfl
          rw [DtAt] at ha ha'
          have na := (cutL_some ha).1
          have hT : SqT K J' a _ := SqT.of ha'
          walk_at "go"
          refine ⟨R, _, rfl, SqL.of hR, ?_⟩
          rw [cutV_tlm]
          intro T nT
          generalize eH_ : upd J' T _ = J1
          have s1 : Same J' J1 := by rw [← eH_]; exact same_new nT
          have eT : J1 T = some (.lst (ss.map V.ref)) := by rw [← eH_]; exact upd_same
          clear eH_
          have a1 := s1 _ _ ha'
          have hT1 : SqT K J1 a _ := SqT.of a1
          have f1 := fr.trans (frS_of (ex := [R, D, E]) fr.l s1)
          have D1 := s1 _ _ hD
          have E1 := s1 _ _ hE
          have R1 := s1 _ _ hR
          have M1 := hs.mono (cutL_mono s1) _ _
          dsimp only [List.set]
          walk_at "go"
          refine ⟨.inl ⟨rfl, _, SqL.of E1⟩, ?_⟩
          walk_at "go"
          refine ⟨E, _, _, rfl, rfl, E1, Nat.lt_of_le_of_lt (show (hapV hh).length ≤ 10000000 by rw [show (hapV hh).length = hh.length from List.length_map _]; omega) (by decide), ?_⟩
          have f4 := f1.trans (frS_upd (ex := [R, D, E]) (o := .lst (hapV hh ++ [.str (S [c])])) f1.l i3.e (by simp))
          have D4 := upd_keep (o := .lst (hapV hh ++ [.str (S [c])])) i3.de D1
          have R4 := upd_keep (o := .lst (hapV hh ++ [.str (S [c])])) i3.re R1
          have T4 := upd_keep (o := .lst (hapV hh ++ [.str (S [c])])) (show T ≠ E from fun e => by rw [e, hE] at nT; cases nT) eT
          have M4 : LmAt (cutL (upd J1 E (.lst (hapV hh ++ [.str (S [c])]))) Sx) r ss := by rw [cutL_upd i3.e]; exact M1
          have E4 : (upd J1 E (.lst (hapV hh ++ [.str (S [c])]))) E = some (.lst (hapV (hh ++ [.ev c]))) := by rw [upd_same, hapV, hapV, List.map_append]; rfl
          generalize upd J1 E (.lst (hapV hh ++ [.str (S [c])])) = J4 at f4 D4 R4 T4 M4 E4 ⊢
          walk_at "go"
          refine ⟨R, T, _, _, rfl, rfl, R4, T4, (fun e => by rw [← e, hR] at nT; cases nT), szl3 (by rw [List.length_map, List.length_map, List.length_cons]; omega), ?_⟩
          exact ⟨⟨pu, r, hh ++ [.ev c]⟩, _, _, _, _, _, f4.trans (frS_upd f4.l i3.r List.mem_cons_self), setR i3 M4 D4 E4, g1, by have : mu r < mu ((Pt.ev c, none) :: r) := g2; show mu r + (i + 1) ≤ _; omega, fun s o z => back _ _ (g3 s o z), rfl⟩
        | ti c b =>
          obtain rfl := lim0 rfl
          obtain ⟨g1, g2, g3⟩ := GSt.car_go (h := hh) gs rfl (fun z => by cases z) rfl
          have ha2 := ha'
          rw [DtAt] at ha2
          have hac := ha
          rw [DtAt] at hac
          obtain ⟨L, as, h1c, h2c, h3c⟩ := hac
          have h1 := sG _ _ h1c
          have h2 := sG _ _ h2c
          have las := DtsAt.len _ _ h3c
          have lenb := len_wt b
          have hT : SqT K J' a _ := SqT.of h1
          walk_at "go"
          refine ⟨R, _, rfl, SqL.of hR, ?_⟩
          rw [cutV_tlm]
          intro T nT
          generalize eH_ : upd J' T _ = J1
          have s1 : Same J' J1 := by rw [← eH_]; exact same_new nT
          have eT : J1 T = some (.lst (ss.map V.ref)) := by rw [← eH_]; exact upd_same
          clear eH_
          have hT1 : SqT K J1 a _ := SqT.of (s1 _ _ h1)
          have f1 := fr.trans (frS_of (ex := [R, D, E]) fr.l s1)
          have c3 := h3c.mono (cutL_mono s1) _ _
          have D1 := s1 _ _ hD
          have E1 := s1 _ _ hE
          have R1 := s1 _ _ hR
          have M1 := hs.mono (cutL_mono s1) _ _
          dsimp only [List.set]
          rw [Ok] at okp
          rw [wt] at wtp
          have wb : wtL b ≤ wtL b * (if c < 1 then 1 else c) := Nat.le_mul_of_pos_right _ (by split <;> omega)
          match c, g1, g2, g3, hT1, h1, okp, wb, wtp with
          | 0, g1, g2, g3, hT1, h1, okp, wb, wtp =>
            walk_at "go"
            refine ⟨R, T, _, _, rfl, rfl, R1, eT, (fun e => by rw [← e, hR] at nT; cases nT), szl3 (by rw [List.length_map, List.length_map, List.length_cons]; omega), ?_⟩
            exact ⟨_, _, _, _, _, _, f1.trans (frS_upd f1.l i3.r List.mem_cons_self), setR i3 M1 D1 E1, g1, by have : mu r < mu ((Pt.ti 0 b, none) :: r) := g2; show mu r + (i + 1) ≤ _; omega, fun s o z => back _ _ (g3 s o z), rfl⟩
          | 1, g1, g2, g3, hT1, h1, okp, wb, wtp =>
            walk_at "go"
            refine ⟨L, as, rfl, s1 _ _ h2, by omega, fun R' ts' J2 s2 nR' eR' lt' hG => ?_⟩
            have f2 := f1.trans (frS_of (ex := [R, D, E]) f1.l s2)
            have N2 := lm_new f1.l s2 c3 lt' hG
            have D2 := s2 _ _ D1
            have E2 := s2 _ _ E1
            have R2 := s2 _ _ R1
            have M2 := M1.mono (cutL_mono s2) _ _
            have T2 := s2 _ _ eT
            have hT2 : SqT K J2 a _ := SqT.of (s2 _ _ (s1 _ _ h1))
            dsimp only [List.set]
            walk_at "go"
            refine ⟨R', T, _, _, rfl, rfl, eR', T2, szl3 (by rw [List.length_map, List.length_map]; omega), fun U nU => ?_⟩
            have eU0 : upd J2 U (.lst (ts'.map V.ref ++ ss.map V.ref)) = upd J2 U (.lst ((ts' ++ ss).map V.ref)) := by rw [List.map_append]
            rw [eU0]
            have s3 := same_new (o := .lst ((ts' ++ ss).map V.ref)) nU
            have eU : (upd J2 U (.lst ((ts' ++ ss).map V.ref))) U = some (.lst ((ts' ++ ss).map V.ref)) := upd_same
            generalize upd J2 U (.lst ((ts' ++ ss).map V.ref)) = J3 at s3 eU ⊢
            have hT3 : SqT K J3 a _ := SqT.of (s3 _ _ (s2 _ _ (s1 _ _ h1)))
            have f3 := f2.trans (frS_of (ex := [R, D, E]) f2.l s3)
            dsimp only [List.set]
            walk_at "go"
            refine ⟨R, U, _, _, rfl, rfl, s3 _ _ R2, eU, (fun e => by rw [← e, R2] at nU; cases nU), szl3 (by rw [List.length_map, List.length_map, List.length_cons, List.length_append]; omega), ?_⟩
            exact ⟨_, _, _, _, _, _, f3.trans (frS_upd f3.l i3.r List.mem_cons_self), setR i3 (LmAt.app _ _ _ _ (N2.mono (cutL_mono s3) _ _) (M2.mono (cutL_mono s3) _ _)) (s3 _ _ D2) (s3 _ _ E2), g1, by have : mu (mbs b ++ r) < mu ((Pt.ti 1 b, none) :: r) := g2; show mu (mbs b ++ r) + (i + 1) ≤ _; omega, fun s o z => back _ _ (g3 s o z), rfl⟩
          | c + 2, g1, g2, g3, hT1, h1, okp, wb, wtp =>
            walk_at "go"
            refine ite2 (fun _ => ?_) (fun e => absurd (decide_eq_true (by omega)) e)
            walk_at "go"
            refine ⟨L, as, rfl, s1 _ _ h2, by omega, fun R' ts' J2 s2 nR' eR' lt' hG => ?_⟩
            have f2 := f1.trans (frS_of (ex := [R, D, E]) f1.l s2)
            have N2 := lm_new f1.l s2 c3 lt' hG
            have c32 := c3.mono (cutL_mono s2) _ _
            have D2 := s2 _ _ D1
            have E2 := s2 _ _ E1
            have R2 := s2 _ _ R1
            have M2 := M1.mono (cutL_mono s2) _ _
            have T2 := s2 _ _ eT
            have L2' := cutL_mono s2 _ _ (cutL_mono s1 _ _ h2c)
            have hT2 : SqT K J2 a _ := SqT.of (s2 _ _ (s1 _ _ h1))
            have nR'S : R' ∉ Sx := f1.l.new nR'
            dsimp only [List.set]
            walk_at "go"
            refine ite2 (fun _ => ?_) (fun e => absurd (decide_eq_true (by omega)) e)
            walk_at "go"
            refine ⟨.inl ⟨rfl, _, SqL.of eR'⟩, ?_⟩
            walk_at "go"
            rw [show (fun i j : Int => V.int (i - j)) ((c + 2 : Nat) : Int) 1 = V.int ((c + 1 : Nat) : Int) from congrArg V.int (by omega)]
            intro Tt nTt
            generalize eH_ : upd J2 Tt _ = J3
            have s3 : Same J2 J3 := by rw [← eH_]; exact same_new nTt
            have eTt : J3 Tt = some (.tup [.str "times", .int ((c + 1 : Nat) : Int), .ref L]) := by rw [← eH_]; exact upd_same
            clear eH_
            walk_at "go"
            intro Lp nLp
            generalize eH_ : upd J3 Lp _ = J4
            have s4 : Same J3 J4 := by rw [← eH_]; exact same_new nLp
            have eLp : J4 Lp = some (.lst [.ref Tt, .non]) := by rw [← eH_]; exact upd_same
            clear eH_
            have f4 := f2.trans (frS_of (ex := [R, D, E]) f2.l (s3.trans s4))
            have eT4 := cutL_new (S := Sx) f2.l nTt (s4 _ _ eTt)
            have eL4 := cutL_new (S := Sx) (f2.l.mono s3) nLp eLp
            have s24 := s3.trans s4
            walk_at "go"
            refine ⟨R', _, _, rfl, rfl, s24 _ _ eR', Nat.lt_of_le_of_lt (show (ts'.map V.ref).length ≤ 1000000 by rw [List.length_map]; omega) (by decide), ?_⟩
            have eqR : upd J4 R' (.lst (ts'.map V.ref ++ [V.ref Lp])) = upd J4 R' (.lst ((ts' ++ [Lp]).map V.ref)) := by rw [List.map_append]; rfl
            rw [eqR]
            have s15 : Same J1 (upd J4 R' (.lst ((ts' ++ [Lp]).map V.ref))) := Z.Same.mut (s2.trans s24) nR'
            have eR5 : (upd J4 R' (.lst ((ts' ++ [Lp]).map V.ref))) R' = some (.lst ((ts' ++ [Lp]).map V.ref)) := upd_same
            have eT5 : cutL (upd J4 R' (.lst ((ts' ++ [Lp]).map V.ref))) Sx Tt = some (.tup [.str "times", .int ((c + 1 : Nat) : Int), .ref L]) := cutL_of (cutL_some eT4).1 (upd_keep (fun e => by rw [e, eR'] at nTt; cases nTt) (s4 _ _ eTt))
            have eL5 : cutL (upd J4 R' (.lst ((ts' ++ [Lp]).map V.ref))) Sx Lp = some (.lst [.ref Tt, .non]) := cutL_of (cutL_some eL4).1 (upd_keep (fun e => by rw [e, s3 _ _ eR'] at nLp; cases nLp) eLp)
            have c5 : DtsAt (cutL (upd J4 R' (.lst ((ts' ++ [Lp]).map V.ref))) Sx) b as := c3.mono (cutL_mono s15) _ _
            have N5 : LmAt (cutL (upd J4 R' (.lst ((ts' ++ [Lp]).map V.ref))) Sx) (mbs b) ts' := lmAt_of b as ts' c5 lt' fun i t x h1 h2 => by
              obtain ⟨z1, z2⟩ := hG i t x h1 h2
              refine cutL_of (f1.l.new z1) (upd_keep (fun e => ?_) (s24 _ _ z2))
              rw [e, eR'] at z2
              exact nref_non z2
            have P5 : LmAt (cutL (upd J4 R' (.lst ((ts' ++ [Lp]).map V.ref))) Sx) [(.ti (c + 1) b, none)] [Lp] := ⟨Lp, Tt, [], rfl, eL5, by rw [DtAt]; exact ⟨L, as, eT5, cutL_mono s15 _ _ (cutL_mono s1 _ _ h2c), c5⟩, rfl⟩
            have NP := LmAt.app _ _ _ _ N5 P5
            generalize upd J4 R' (.lst ((ts' ++ [Lp]).map V.ref)) = J5 at s15 eR5 NP ⊢
            clear N2 eT4 eL4 f4 f2 D2 E2 R2 M2 T2 L2' hT2 c32
            have f5 := f1.trans (frS_of (ex := [R, D, E]) f1.l s15)
            have T5 := s15 _ _ eT
            walk_at "go"
            refine ⟨R', T, _, _, rfl, rfl, eR5, T5, szl3 (by rw [List.length_map, List.length_map, List.length_append, List.length_cons, List.length_nil]; omega), fun U nU => ?_⟩
            have eU0 : upd J5 U (.lst ((ts' ++ [Lp]).map V.ref ++ ss.map V.ref)) = upd J5 U (.lst (((ts' ++ [Lp]) ++ ss).map V.ref)) := by rw [List.map_append (l₁ := ts' ++ [Lp])]
            rw [eU0]
            have s6 := same_new (o := .lst (((ts' ++ [Lp]) ++ ss).map V.ref)) nU
            have eU : (upd J5 U (.lst (((ts' ++ [Lp]) ++ ss).map V.ref))) U = some (.lst (((ts' ++ [Lp]) ++ ss).map V.ref)) := upd_same
            generalize upd J5 U (.lst (((ts' ++ [Lp]) ++ ss).map V.ref)) = J6 at s6 eU ⊢
            have s16 := s15.trans s6
            have hT6 : SqT K J6 a _ := SqT.of (s16 _ _ (s1 _ _ h1))
            have f6 := f5.trans (frS_of (ex := [R, D, E]) f5.l s6)
            dsimp only [List.set]
            walk_at "go"
            refine ⟨R, U, _, _, rfl, rfl, s16 _ _ R1, eU, (fun e => by rw [← e, s15 _ _ R1] at nU; cases nU), szl3 (by simp only [List.length_map, List.length_cons, List.length_append, List.length_nil]; omega), ?_⟩
            exact ⟨_, _, _, _, _, _, f6.trans (frS_upd f6.l i3.r List.mem_cons_self), setR i3 (LmAt.app _ _ _ _ (NP.mono (cutL_mono s6) _ _) (M1.mono (cutL_mono s16) _ _)) (s16 _ _ D1) (s16 _ _ E1), g1, by have : mu ((mbs b ++ [(.ti (c + 1) b, none)]) ++ r) < mu ((Pt.ti (c + 2) b, none) :: r) := g2; show mu ((mbs b ++ [(.ti (c + 1) b, none)]) ++ r) + (i + 1) ≤ _; omega, fun s o z => back _ _ (g3 s o z), rfl⟩
    · rintro σ J ⟨st1, v3, v4, v5, v6, v7, fr, lw, gs, hmi, back, rfl⟩
      omega
end
end Z
set_option pp.maxSteps 700
set_option Elab.async false
set_option linter.all false
set_option maxRecDepth 100000
set_option maxHeartbeats 4000000
open SX (S S_inj S_len S_cat)
namespace Z
open Pk NdefX
open PySem PySem.Spec PyProof.Rows L2
open C8 (pss_cut tCut)
local macro_rules | `(tactic| walk_at "num") => `(tactic| first | rfl | omega | decide | exact Nat.le_of_lt (small1000 (by simp)) | exact ⟨by omega, by omega⟩ | exact ⟨by omega, by omega, by omega⟩ | exact ⟨by decide, by decide, by decide⟩ | exact Or.inl ⟨by omega, by omega⟩ | exact Or.inr ⟨by omega, by omega⟩)
local macro_rules | `(tactic| walk_at "go") => `(tactic| repeat (first | refine ⟨_, rfl, ?_⟩ | refine ⟨_, _, rfl, rfl, ?_⟩ | refine ⟨_, _, rfl, ?_⟩ | (refine ⟨_, _, rfl, rfl, ?_, ?_⟩; focus walk_at "num") | refine Or.inl ⟨_, rfl, ?_⟩ | refine ⟨_, _, _, _, rfl, rfl, (by assumption), (by rfl), ?_⟩ | refine ⟨_, _, _, _, _, rfl, (by assumption), (by assumption), (by assumption), (by rfl), ?_⟩ | refine ⟨rfl, ?_⟩ | (refine And.intro ?_ ?_; focus walk_at "num")))
abbrev s_moved : Stmt := topS 65
abbrev N_moved : List Str := ["_law_row_here", "_law_number_here", "_law_part_here", "_law_rest"]
abbrev P_moved : List Str := ["_law_row_here", "_law_number_here"]
theorem sc_moved : FnScope N_moved P_moved (defScope s_moved) := ⟨rfl, rfl, rfl, by decide +kernel, rfl, by decide +kernel, by decide +kernel⟩
abbrev s_step : Stmt := topS 66
abbrev N_step : List Str := ["_law_row_here", "_law_purses_here", "_law_happened", "_law_number_here"]
abbrev P_step : List Str := ["_law_row_here", "_law_purses_here", "_law_happened", "_law_number_here"]
theorem sc_step : FnScope N_step P_step (defScope s_step) := ⟨rfl, rfl, rfl, by decide +kernel, rfl, by decide +kernel, by decide +kernel⟩
section
variable {P : Program} {w : World} {K : PySem.W.Frag} {mg : Str → Option Value} {base : Heap} {f C CP : Addr} {k : Cs} {fd : FuncData}
def spMd : Sp := fun vs H Q _ => ∃ (R : Addr) (Sx ts : List Addr) (p : Pt) (l : Option Nat) (r : List Mb) (n : Nat), vs = [.ref R, .int (n : Int)] ∧ R ∈ Sx ∧ Lvs H Sx ∧ H R = some (.lst (ts.map V.ref)) ∧ LmAt (cutL H Sx) ((p, l) :: r) ts ∧ NOk p l n ∧ (mover p).isSome = true ∧ (isCh p = false → n = 0 → isEn p = false) ∧ Ok p ∧ wt p ≤ 400 ∧ r.length ≤ 100000 ∧ ∀ H' (ts' : List Addr), FrS Sx [R] H H' → H' R = some (.lst (ts'.map V.ref)) → LmAt (cutL H' Sx) (chs p n ++ r) ts' → Q .non H'
theorem ok_moved (F : FnP K "_law_moved" s_moved f fd) (c_members : Cal P w K mg base 1 "_law_members" spLm) : FnOk P w K mg base CX0 2 f fd P_moved spMd := by
  refine F.ok sc_moved (fun vs H Q E h => ?_) (fun cdv A outer s H vs Q E hr h => ?_)
  · obtain ⟨R, Sx, ts, p, l, r, n, rfl, _⟩ := h
    rfl
  · obtain ⟨R, Sx, ts, p, l, r, n, rfl, mR, lv, hR, hM, hno, hm, hne, okp, wtp, hr2, qq⟩ := h
    refine ⟨_, PSs.nox (pss_cons (ps_set (i := 2) sc_moved.nd rfl (by first | exact .inl rfl | exact .inr rfl) (pe_ix ix_list (pe_ix ix_list (pv 0) pe_int (fun _ _ => rfl)) pe_int (fun _ _ => rfl)))
      (pss_cons (ps_set (i := 3) sc_moved.nd rfl (by first | exact .inl rfl | exact .inr rfl) (pe_slice sl_list (pv 0) (po_some pe_int) po_none))
      (pss_cons (ps_if (pt_cmpR op_eq (pe_ix ix_tup (pv 2) pe_int (fun _ _ => rfl)) pe_str (nomark _)) (pss_one (ps_set (i := 3) sc_moved.nd rfl (by first | exact .inl rfl | exact .inr rfl) (pe_op op_cat (pe_cl c_members hr (by decide) (by rfl) (pa_cons (pe_ix ix_list (pe_ix ix_tup (pv 2) pe_int (fun _ _ => rfl)) (pv 1) (fun _ _ => rfl)) pa_nil)) (pv 3)))) pss_nil)
      (pss_cons (ps_if (PW.pt (pw_and (pt_cmpR op_eq (pe_ix ix_tup (pv 2) pe_int (fun _ _ => rfl)) pe_str (nomark _)) (pw_and1 (pt_cmpR op_gt (pv 1) pe_int (nomark _))))) (pss_one (ps_set (i := 3) sc_moved.nd rfl (by first | exact .inl rfl | exact .inr rfl) (pe_op op_cat (pe_op op_cat (pe_cl c_members hr (by decide) (by rfl) (pa_cons (pe_ix ix_tup (pv 2) pe_int (fun _ _ => rfl)) pa_nil)) (pe_lst (pa_cons (pe_lst (pa_cons (pv 2) (pa_cons (pe_op op_sub (pv 1) pe_int) pa_nil))) pa_nil))) (pv 3)))) pss_nil)
      (pss_cons (ps_if (PW.pt (pw_and (pt_cmpR op_eq (pe_ix ix_tup (pv 2) pe_int (fun _ _ => rfl)) pe_str (nomark _)) (pw_and1 (pt_cmpR op_gt (pv 1) pe_int (nomark _))))) (pss_one (ps_set (i := 3) sc_moved.nd rfl (by first | exact .inl rfl | exact .inr rfl) (pe_op op_cat (pe_op op_cat (pe_cl c_members hr (by decide) (by rfl) (pa_cons (pe_ix ix_tup (pv 2) pe_int (fun _ _ => rfl)) pa_nil)) (pe_lst (pa_cons (pe_lst (pa_cons (pv 2) (pa_cons (pe_op op_sub (pv 1) pe_int) pa_nil))) pa_nil))) (pv 3)))) pss_nil)
      (pss_one (ps_asg (pv 3) (pg_all (pv 0))))))))), ?_⟩
    have sG := cutL_same (H := H) (S := Sx)
    obtain ⟨t, a, ss, rfl, ht, ha, hs⟩ := hM
    have ht' := sG _ _ ht
    have ha' := ha.mono sG _ _
    have lss := LmAt.len _ _ hs
    walk_at "go"
    refine ⟨R, _, _, _, rfl, rfl, SqL.of hR, at_0, ?_⟩
    walk_at "go"
    refine ⟨t, _, _, _, rfl, rfl, SqL.of ht', at_0, ?_⟩
    walk_at "go"
    refine ⟨R, _, rfl, SqL.of hR, ?_⟩
    rw [cutV_tlm]
    intro T nT
    generalize eH_ : upd H T _ = H1
    have s1 : Same H H1 := by rw [← eH_]; exact same_new nT
    have eT : H1 T = some (.lst (ss.map V.ref)) := by rw [← eH_]; exact upd_same
    clear eH_
    have f1 := frS_of (ex := [R]) lv s1
    have R1 := s1 _ _ hR
    have M1 := hs.mono (cutL_mono s1) _ _
    cases p with
    | tr b c m => cases hm
    | ev c => cases hm
    | ti c b => cases hm
    | ch o os =>
      have hn := hno.1 o os rfl
      rw [DtAt] at ha ha'
      obtain ⟨L, as, g1, g2, g3⟩ := ha
      have h1 := sG _ _ g1
      have h2 := sG _ _ g2
      have e3 := DasAt.len _ _ g3
      obtain ⟨x, ex, bs, b1, b2⟩ := DasAt.get _ _ g3 n os[n] (List.getElem?_eq_getElem hn)
      have b1' := sG _ _ b1
      have lbs := DtsAt.len _ _ b2
      rw [Ok] at okp
      rw [wt] at wtp
      have w2 := wtLL_mem (List.getElem_mem hn)
      have lw := len_wt os[n]
      have hT1 : SqT K H1 a _ := SqT.of (s1 _ _ h1)
      dsimp only [List.set]
      walk_at "go"
      refine ⟨L, _, _, _, rfl, rfl, SqL.of (s1 _ _ h2), atI_nat (by rw [List.getElem?_map, ex]; rfl), ?_⟩
      walk_at "go"
      refine ⟨x, bs, rfl, s1 _ _ b1', by omega, fun R' ts' J2 s2 nR' eR' lt' hG => ?_⟩
      have f2 := f1.trans (frS_of (ex := [R]) f1.l s2)
      have N2 := lm_new f1.l s2 (b2.mono (cutL_mono s1) _ _) lt' hG
      walk_at "go"
      refine ⟨R', T, _, _, rfl, rfl, eR', s2 _ _ eT, szl3 (by rw [List.length_map, List.length_map]; omega), ?_⟩
      intro U nU
      generalize eH_ : upd J2 U _ = J3
      have s3 : Same J2 J3 := by rw [← eH_]; exact same_new nU
      have eU : J3 U = some (.lst (ts'.map V.ref ++ ss.map V.ref)) := by rw [← eH_]; exact upd_same
      clear eH_
      have eU : J3 U = some (.lst ((ts' ++ ss).map V.ref)) := by rw [eU, List.map_append]
      have s23 := s2.trans s3
      have hT3 : SqT K J3 a _ := SqT.of (s23 _ _ (s1 _ _ h1))
      have f3 := f2.trans (frS_of (ex := [R]) f2.l s3)
      dsimp only [List.set]
      walk_at "go"
      refine ⟨R, U, _, _, rfl, rfl, s23 _ _ R1, eU, (fun e => by rw [← e, s2 _ _ R1] at nU; cases nU), szl3 (by simp only [List.length_map, List.length_append, List.length_cons, List.length_nil]; omega), ?_⟩
      have ech : chs (.ch o os) n = mbs os[n] := by rw [chs, List.getD_eq_getElem?_getD, List.getElem?_eq_getElem hn]; rfl
      exact qq _ _ (f3.trans (frS_upd f3.l mR List.mem_cons_self)) upd_same (by rw [cutL_upd mR, ech]; exact LmAt.app _ _ _ _ (N2.mono (cutL_mono s3) _ _) (M1.mono (cutL_mono s23) _ _))
    | rd o b =>
      rw [DtAt] at ha
      obtain ⟨L, as, g1, g2, g3⟩ := ha
      have h1 := sG _ _ g1
      have h2 := sG _ _ g2
      have e3 := DtsAt.len _ _ g3
      rw [wt] at wtp
      have lw := len_wt b
      have hT1 : SqT K H1 a _ := SqT.of (s1 _ _ h1)
      dsimp only [List.set]
      match n, hne, qq with
      | 0, hne, qq =>
        walk_at "go"
        refine ⟨R, T, _, _, rfl, rfl, R1, eT, (fun e => by rw [← e, hR] at nT; cases nT), szl3 (by simp only [List.length_map, List.length_append, List.length_cons, List.length_nil]; omega), ?_⟩
        exact qq _ _ (f1.trans (frS_upd f1.l mR List.mem_cons_self)) upd_same (by rw [cutL_upd mR]; exact M1)
      | n + 1, hne, qq =>
        walk_at "go"
        refine ite2 (fun _ => ?_) (fun e => absurd (decide_eq_true (by omega)) e)
        walk_at "go"
        refine ⟨L, as, rfl, s1 _ _ h2, by omega, fun R' ts' J2 s2 nR' eR' lt' hG => ?_⟩
        have f2 := f1.trans (frS_of (ex := [R]) f1.l s2)
        have N2 := lm_new f1.l s2 (g3.mono (cutL_mono s1) _ _) lt' hG
        have s12 := s1.trans s2
        have ea2 := cutL_mono (S := Sx) s12 _ _ g1
        have eL2 := cutL_mono (S := Sx) s12 _ _ g2
        have d2 : DtAt (cutL J2 Sx) (.rd o b) a := by rw [DtAt]; exact ⟨L, as, ea2, eL2, g3.mono (cutL_mono s12) _ _⟩
        walk_at "go"
        rw [show (fun i j : Int => V.int (i - j)) ((n + 1 : Nat) : Int) 1 = V.int (n : Int) from congrArg V.int (by omega)]
        intro L1 nL1
        generalize eH_ : upd J2 L1 _ = J3
        have s3 : Same J2 J3 := by rw [← eH_]; exact same_new nL1
        have eL1 : J3 L1 = some (.lst [.ref a, .int (n : Int)]) := by rw [← eH_]; exact upd_same
        clear eH_
        walk_at "go"
        intro L3 nL3
        generalize eH_ : upd J3 L3 _ = J4
        have s4 : Same J3 J4 := by rw [← eH_]; exact same_new nL3
        have eL3 : J4 L3 = some (.lst [.ref L1]) := by rw [← eH_]; exact upd_same
        clear eH_
        walk_at "go"
        have s24 := s3.trans s4
        refine ⟨R', L3, _, _, rfl, rfl, s24 _ _ eR', eL3, szl3 (by simp only [List.length_map, List.length_cons, List.length_nil]; omega), ?_⟩
        intro U1 nU1
        generalize eH_ : upd J4 U1 _ = J5
        have s5 : Same J4 J5 := by rw [← eH_]; exact same_new nU1
        have eU1 : J5 U1 = some (.lst (ts'.map V.ref ++ [V.ref L1])) := by rw [← eH_]; exact upd_same
        clear eH_
        walk_at "go"
        have s25 := s24.trans s5
        refine ⟨U1, T, _, _, rfl, rfl, eU1, s25 _ _ (s2 _ _ eT), szl3 (by simp only [List.length_map, List.length_append, List.length_cons, List.length_nil]; omega), ?_⟩
        intro U2 nU2
        generalize eH_ : upd J5 U2 _ = J6
        have s6 : Same J5 J6 := by rw [← eH_]; exact same_new nU2
        have eU2 : J6 U2 = some (.lst ((ts'.map V.ref ++ [V.ref L1]) ++ ss.map V.ref)) := by rw [← eH_]; exact upd_same
        clear eH_
        have eU2 : J6 U2 = some (.lst (((ts' ++ [L1]) ++ ss).map V.ref)) := by rw [eU2, List.map_append, List.map_append]; rfl
        have s26 := s25.trans s6
        have f6 := f2.trans (frS_of (ex := [R]) f2.l s26)
        have hT6 : SqT K J6 a _ := SqT.of (cutL_same _ _ (cutL_mono (S := Sx) s26 _ _ ea2))
        have e1 := cutL_new f2.l nL1 (s6 _ _ (s5 _ _ (s4 _ _ eL1)))
        have P6 : LmAt (cutL J6 Sx) [(.rd o b, some n)] [L1] := ⟨L1, a, [], rfl, e1, d2.mono (cutL_mono s26) _ _, rfl⟩
        have NP := LmAt.app _ _ _ _ (LmAt.app _ _ _ _ (N2.mono (cutL_mono s26) _ _) P6) (M1.mono (cutL_mono (s2.trans s26)) _ _)
        clear N2 P6 d2 f2
        dsimp only [List.set]
        walk_at "go"
        refine ⟨R, U2, _, _, rfl, rfl, s26 _ _ (s2 _ _ R1), eU2, (fun e => by rw [← e, s25 _ _ (s2 _ _ R1)] at nU2; cases nU2), szl3 (by simp only [List.length_map, List.length_append, List.length_cons, List.length_nil]; omega), ?_⟩
        exact qq _ _ (f6.trans (frS_upd f6.l mR List.mem_cons_self)) upd_same (by rw [cutL_upd mR]; exact NP)
    | en b =>
      rw [DtAt] at ha
      obtain ⟨L, as, g1, g2, g3⟩ := ha
      have h1 := sG _ _ g1
      have h2 := sG _ _ g2
      have e3 := DtsAt.len _ _ g3
      rw [wt] at wtp
      have lw := len_wt b
      have hT1 : SqT K H1 a _ := SqT.of (s1 _ _ h1)
      dsimp only [List.set]
      match n, hne, qq with
      | 0, hne, qq => exact absurd (hne rfl rfl) (fun z => by cases z)
      | n + 1, hne, qq =>
        walk_at "go"
        refine ite2 (fun _ => ?_) (fun e => absurd (decide_eq_true (by omega)) e)
        walk_at "go"
        refine ⟨L, as, rfl, s1 _ _ h2, by omega, fun R' ts' J2 s2 nR' eR' lt' hG => ?_⟩
        have f2 := f1.trans (frS_of (ex := [R]) f1.l s2)
        have N2 := lm_new f1.l s2 (g3.mono (cutL_mono s1) _ _) lt' hG
        have s12 := s1.trans s2
        have ea2 := cutL_mono (S := Sx) s12 _ _ g1
        have eL2 := cutL_mono (S := Sx) s12 _ _ g2
        have d2 : DtAt (cutL J2 Sx) (.en b) a := by rw [DtAt]; exact ⟨L, as, ea2, eL2, g3.mono (cutL_mono s12) _ _⟩
        walk_at "go"
        rw [show (fun i j : Int => V.int (i - j)) ((n + 1 : Nat) : Int) 1 = V.int (n : Int) from congrArg V.int (by omega)]
        intro L1 nL1
        generalize eH_ : upd J2 L1 _ = J3
        have s3 : Same J2 J3 := by rw [← eH_]; exact same_new nL1
        have eL1 : J3 L1 = some (.lst [.ref a, .int (n : Int)]) := by rw [← eH_]; exact upd_same
        clear eH_
        walk_at "go"
        intro L3 nL3
        generalize eH_ : upd J3 L3 _ = J4
        have s4 : Same J3 J4 := by rw [← eH_]; exact same_new nL3
        have eL3 : J4 L3 = some (.lst [.ref L1]) := by rw [← eH_]; exact upd_same
        clear eH_
        walk_at "go"
        have s24 := s3.trans s4
        refine ⟨R', L3, _, _, rfl, rfl, s24 _ _ eR', eL3, szl3 (by simp only [List.length_map, List.length_cons, List.length_nil]; omega), ?_⟩
        intro U1 nU1
        generalize eH_ : upd J4 U1 _ = J5
        have s5 : Same J4 J5 := by rw [← eH_]; exact same_new nU1
        have eU1 : J5 U1 = some (.lst (ts'.map V.ref ++ [V.ref L1])) := by rw [← eH_]; exact upd_same
        clear eH_
        walk_at "go"
        have s25 := s24.trans s5
        refine ⟨U1, T, _, _, rfl, rfl, eU1, s25 _ _ (s2 _ _ eT), szl3 (by simp only [List.length_map, List.length_append, List.length_cons, List.length_nil]; omega), ?_⟩
        intro U2 nU2
        generalize eH_ : upd J5 U2 _ = J6
        have s6 : Same J5 J6 := by rw [← eH_]; exact same_new nU2
        have eU2 : J6 U2 = some (.lst ((ts'.map V.ref ++ [V.ref L1]) ++ ss.map V.ref)) := by rw [← eH_]; exact upd_same
        clear eH_
        have eU2 : J6 U2 = some (.lst (((ts' ++ [L1]) ++ ss).map V.ref)) := by rw [eU2, List.map_append, List.map_append]; rfl
        have s26 := s25.trans s6
        have f6 := f2.trans (frS_of (ex := [R]) f2.l s26)
        have hT6 : SqT K J6 a _ := SqT.of (cutL_same _ _ (cutL_mono (S := Sx) s26 _ _ ea2))
        have e1 := cutL_new f2.l nL1 (s6 _ _ (s5 _ _ (s4 _ _ eL1)))
        have P6 : LmAt (cutL J6 Sx) [(.en b, some n)] [L1] := ⟨L1, a, [], rfl, e1, d2.mono (cutL_mono s26) _ _, rfl⟩
        have NP := LmAt.app _ _ _ _ (LmAt.app _ _ _ _ (N2.mono (cutL_mono s26) _ _) P6) (M1.mono (cutL_mono (s2.trans s26)) _ _)
        clear N2 P6 d2 f2
        dsimp only [List.set]
        walk_at "go"
        refine ⟨R, U2, _, _, rfl, rfl, s26 _ _ (s2 _ _ R1), eU2, (fun e => by rw [← e, s25 _ _ (s2 _ _ R1)] at nU2; cases nU2), szl3 (by simp only [List.length_map, List.length_append, List.length_cons, List.length_nil]; omega), ?_⟩
        exact qq _ _ (f6.trans (frS_upd f6.l mR List.mem_cons_self)) upd_same (by rw [cutL_upd mR]; exact NP)
theorem mvd_eq (pu : Pu) (h : List Pt) (p : Pt) (l : Option Nat) (r : List Mb) (n : Nat) (hm : (mover p).isSome = true) (c : ¬ (isEn p = true ∧ n = 0)) : mvd pu h p l r n = (⟨pu, chs p n ++ r, h⟩, .go) := by
  unfold mvd
  split
  · rename_i z
    obtain ⟨z1, rfl⟩ := z
    cases p with
    | rd o b => rfl
    | en b => exact absurd ⟨rfl, rfl⟩ c
    | ch o os => cases z1
    | _ => cases hm
  · rfl
def spSp : Sp := fun vs H Q _ => ∃ (R D E : Addr) (Sx : List Addr) (ks : List Nat) (N : Nat) (pu : Pu) (h : List Pt) (p : Pt) (l : Option Nat) (r : List Mb) (n : Nat), vs = [.ref R, .ref D, .ref E, .int (n : Int)] ∧ In3 Sx R D E ∧ Lvs H Sx ∧ LwS H Sx R D E ⟨pu, (p, l) :: r, h⟩ ∧ (mover p).isSome = true ∧ NOk p l n ∧ GSt ks N ⟨pu, (p, l) :: r, h⟩ ∧ ks.length ≤ 1000 ∧ N + 41000 ≤ 9900000 ∧ r.length ≤ 100000 ∧ mu (chs p n ++ r) ≤ 8999 ∧ ∀ H' st' o z, FrS Sx [R, D, E] H H' → LwS H' Sx R D E st' → Res ks (N + 41000) (mvd pu h p l r n).1 (mvd pu h p l r n).2 st' o → WdOk st' o z → Q (.str z) H'
theorem ok_step (F : FnP K "_law_step" s_step f fd) (c_moved : Cal P w K mg base 2 "_law_moved" spMd) (c_settled : Cal P w K mg base 10 "_law_settled" spSe) : FnOk P w K mg base CX0 11 f fd P_step spSp := by
  refine F.ok sc_step (fun vs H Q E h => ?_) (fun cdv A outer s H vs Q E hr h => ?_)
  · obtain ⟨R, D, E, Sx, ks, N, pu, h, p, l, r, n, rfl, _⟩ := h
    rfl
  · obtain ⟨R, D, E0, Sx, ks, N, pu, hh, p, l, r, n, rfl, i3, lv, lw, hm, hno, gs, hks, hN, hr2, hmu, qq⟩ := h
    refine ⟨_, PSs.nox (pss_cons (ps_if (PW.pt (pw_and (pt_cmpR op_eq (pe_ix ix_tup (pe_ix ix_list (pe_ix ix_list (pv 0) pe_int (fun _ _ => rfl)) pe_int (fun _ _ => rfl)) pe_int (fun _ _ => rfl)) pe_str (nomark _)) (pw_and1 (pt_cmpR op_eq (pv 3) pe_int (nomark _))))) (pss_one (ps_ret pe_str)) pss_nil)
      (pss_cons (ps_expr (pe_cl c_moved hr (by decide) (by rfl) (pa_cons (pv 0) (pa_cons (pv 3) pa_nil))))
      (pss_one (ps_ret (pe_cl c_settled hr (by decide) (by rfl) (pa_cons (pv 0) (pa_cons (pv 1) (pa_cons (pv 2) pa_nil)))))))), ?_⟩
    have gm := mvd_ok gs hm hno
    have sG := cutL_same (H := H) (S := Sx)
    obtain ⟨⟨ts, hR, hM⟩, hD, hE⟩ := id lw
    obtain ⟨t, a, ss, rfl, ht, ha, hs⟩ := id hM
    have ht' := sG _ _ ht
    have ha' := ha.mono sG _ _
    obtain ⟨xs, hx⟩ := dt_kind ha'
    obtain ⟨okp, wtp, dpp, hlim⟩ := rok_hd gs.rok
    walk_at "go"
    refine ⟨R, _, _, _, rfl, rfl, SqL.of hR, at_0, ?_⟩
    walk_at "go"
    refine ⟨t, _, _, _, rfl, rfl, SqL.of ht', at_0, ?_⟩
    walk_at "go"
    refine ⟨a, _, _, _, rfl, rfl, SqT.of hx, at_0, ?_⟩
    have hne : ∀ (hc : ¬ (isEn p = true ∧ n = 0)), isCh p = false → n = 0 → isEn p = false := fun hc c z => by
      cases e : isEn p with
      | false => rfl
      | true => exact absurd ⟨e, z⟩ hc
    have gm2 : ∀ (hc : ¬ (isEn p = true ∧ n = 0)), GSt ks (N + 41000) ⟨pu, chs p n ++ r, hh⟩ := fun hc => by
      have em := mvd_eq pu hh p l r n hm hc
      rw [em] at gm
      exact gm
    have lw2 : ∀ {H1 : Hp} {ts' : List Addr}, FrS Sx [R] H H1 → H1 R = some (.lst (ts'.map V.ref)) → LmAt (cutL H1 Sx) (chs p n ++ r) ts' → LwS H1 Sx R D E0 ⟨pu, chs p n ++ r, hh⟩ := fun {H1 ts'} f1 R1 M1 => by
      refine ⟨⟨ts', R1, M1⟩, ?_, ?_⟩
      · rw [f1.k D i3.d (fun z => i3.rd (List.mem_singleton.mp z).symm)]
        exact hD
      · rw [f1.k E0 i3.e (fun z => i3.re (List.mem_singleton.mp z).symm)]
        exact hE
    have wk3 : ∀ a ∈ [R], a ∈ [R, D, E0] := fun a ha => by
      rw [List.mem_singleton.mp ha]
      exact List.mem_cons_self
    cases p with
    | tr b c m => cases hm
    | ev c => cases hm
    | ti c b => cases hm
    | ch o os =>
      walk_at "go"
      refine ⟨R, Sx, t :: ss, .ch o os, l, r, n, rfl, i3.r, lv, hR, hM, hno, hm, hne (fun z => by cases z.1), okp, wtp, hr2, fun H1 ts' f1 R1 M1 => ?_⟩
      walk_at "go"
      refine ⟨R, D, E0, Sx, ks, N + 41000, ⟨pu, chs (.ch o os) (n) ++ r, hh⟩, rfl, i3, f1.l, lw2 f1 R1 M1, gm2 (fun z => by cases z.1), hks, hN, hmu, fun H' st' o2 z f2 lw3 g2 stl wd => ?_⟩
      exact qq H' st' o2 z ((f1.wk wk3).trans f2) lw3 (by rw [mvd_eq pu hh (.ch o os) l r (n) hm (fun z => by cases z.1)]; exact ⟨g2, stl⟩) wd
    | rd o b =>
      walk_at "go"
      refine ⟨R, Sx, t :: ss, .rd o b, l, r, n, rfl, i3.r, lv, hR, hM, hno, hm, hne (fun z => by cases z.1), okp, wtp, hr2, fun H1 ts' f1 R1 M1 => ?_⟩
      walk_at "go"
      refine ⟨R, D, E0, Sx, ks, N + 41000, ⟨pu, chs (.rd o b) (n) ++ r, hh⟩, rfl, i3, f1.l, lw2 f1 R1 M1, gm2 (fun z => by cases z.1), hks, hN, hmu, fun H' st' o2 z f2 lw3 g2 stl wd => ?_⟩
      exact qq H' st' o2 z ((f1.wk wk3).trans f2) lw3 (by rw [mvd_eq pu hh (.rd o b) l r (n) hm (fun z => by cases z.1)]; exact ⟨g2, stl⟩) wd
    | en b =>
      cases n with
      | zero =>
        walk_at "go"
        exact qq H ⟨pu, (.en b, l) :: r, hh⟩ .cut _ (frS_of lv (Same.refl _)) lw ⟨gm, rfl, rfl⟩ rfl
      | succ n =>
        walk_at "go"
        refine ⟨R, Sx, t :: ss, .en b, l, r, n + 1, rfl, i3.r, lv, hR, hM, hno, hm, hne (fun z => by cases z.2), okp, wtp, hr2, fun H1 ts' f1 R1 M1 => ?_⟩
        walk_at "go"
        refine ⟨R, D, E0, Sx, ks, N + 41000, ⟨pu, chs (.en b) (n + 1) ++ r, hh⟩, rfl, i3, f1.l, lw2 f1 R1 M1, gm2 (fun z => by cases z.2), hks, hN, hmu, fun H' st' o2 z f2 lw3 g2 stl wd => ?_⟩
        exact qq H' st' o2 z ((f1.wk wk3).trans f2) lw3 (by rw [mvd_eq pu hh (.en b) l r (n + 1) hm (fun z => by cases z.2)]; exact ⟨g2, stl⟩) wd
end
end Z
set_option pp.maxSteps 700
set_option Elab.async false
set_option linter.all false
set_option maxRecDepth 100000
set_option maxHeartbeats 4000000
open SX (S S_inj S_len S_cat)
namespace Z
open Pk NdefX
open PySem PySem.Spec PyProof.Rows L2
open C8 (pss_cut tCut)
local macro_rules | `(tactic| walk_at "num") => `(tactic| first | rfl | omega | decide | exact Nat.le_of_lt (small1000 (by simp)) | exact ⟨by omega, by omega⟩ | exact ⟨by omega, by omega, by omega⟩ | exact ⟨by decide, by decide, by decide⟩ | exact Or.inl ⟨by omega, by omega⟩ | exact Or.inr ⟨by omega, by omega⟩)
local macro_rules | `(tactic| walk_at "go") => `(tactic| repeat (first | refine ⟨_, rfl, ?_⟩ | refine ⟨_, _, rfl, rfl, ?_⟩ | refine ⟨_, _, rfl, ?_⟩ | (refine ⟨_, _, rfl, rfl, ?_, ?_⟩; focus walk_at "num") | refine Or.inl ⟨_, rfl, ?_⟩ | refine ⟨_, _, _, _, rfl, rfl, (by assumption), (by rfl), ?_⟩ | refine ⟨_, _, _, _, _, rfl, (by assumption), (by assumption), (by assumption), (by rfl), ?_⟩ | refine ⟨rfl, ?_⟩ | (refine And.intro ?_ ?_; focus walk_at "num")))
abbrev s_row : Stmt := topS 70
abbrev N_row : List Str := ["_law_actual", "_law_row_here", "_law_k", "_law_pair"]
abbrev P_row : List Str := ["_law_actual", "_law_row_here"]
theorem sc_row : FnScope N_row P_row (defScope s_row) := ⟨rfl, rfl, rfl, by decide +kernel, rfl, by decide +kernel, by decide +kernel⟩
abbrev s_texts : Stmt := topS 71
abbrev N_texts : List Str := ["_law_actual", "_law_texts_here", "_law_k"]
abbrev P_texts : List Str := ["_law_actual", "_law_texts_here"]
theorem sc_texts : FnScope N_texts P_texts (defScope s_texts) := ⟨rfl, rfl, rfl, by decide +kernel, rfl, by decide +kernel, by decide +kernel⟩
abbrev s_moves : Stmt := topS 72
abbrev N_moves : List Str := ["_law_actual", "_law_moves_here", "_law_k", "_law_move_here"]
abbrev P_moves : List Str := ["_law_actual", "_law_moves_here"]
theorem sc_moves : FnScope N_moves P_moves (defScope s_moves) := ⟨rfl, rfl, rfl, by decide +kernel, rfl, by decide +kernel, by decide +kernel⟩
/-- the fields text and weight of a part -/
structure PtW (K : PySem.W.Frag) (k : Cs) : Prop where
  xT : NoAttr K k.T "text"
  xE : NoAttr K k.E "text"
  xC : NoAttr K k.C "text"
  xR : NoAttr K k.R "text"
  xN : NoAttr K k.N "text"
  xM : NoAttr K k.M "text"
  wT : NoAttr K k.T "weight"
  wE : NoAttr K k.E "weight"
  wC : NoAttr K k.C "weight"
  wR : NoAttr K k.R "weight"
  wN : NoAttr K k.N "weight"
  wM : NoAttr K k.M "weight"
theorem rd_tw {K : PySem.W.Frag} {k : Cs} {H : Hp} {p : Pt} {a : Addr} (pa : PtA K k) (pw : PtW K k) (h : PtAt k K H p a) : ∃ C dx fs, H a = some (.ins C dx fs) ∧ Cls K C ∧ NoAttr K C "text" ∧ NoAttr K C "weight" ∧ fs.lookup ("text" : Str) = some (.str (S (tx p))) ∧ fs.lookup ("weight" : Str) = some (.int (wt p : Int)) := by
  cases p with
  | tr p q m =>
    rw [PtAt] at h
    obtain ⟨dx, h⟩ := h
    exact ⟨_, _, _, h, pa.cT, pw.xT, pw.wT, rfl, rfl⟩
  | ev c =>
    rw [PtAt] at h
    obtain ⟨dx, h⟩ := h
    exact ⟨_, _, _, h, pa.cE, pw.xE, pw.wE, rfl, rfl⟩
  | ch o os =>
    rw [PtAt] at h
    obtain ⟨dx, t, as, h, _⟩ := h
    exact ⟨_, _, _, h, pa.cC, pw.xC, pw.wC, rfl, rfl⟩
  | rd o b =>
    rw [PtAt] at h
    obtain ⟨dx, x, dy, t, as, h, _⟩ := h
    exact ⟨_, _, _, h, pa.cR, pw.xR, pw.wR, rfl, rfl⟩
  | en b =>
    rw [PtAt] at h
    obtain ⟨dx, x, dy, t, as, h, _⟩ := h
    exact ⟨_, _, _, h, pa.cN, pw.xN, pw.wN, rfl, rfl⟩
  | ti c b =>
    rw [PtAt] at h
    obtain ⟨dx, x, dy, t, as, h, _⟩ := h
    exact ⟨_, _, _, h, pa.cM, pw.xM, pw.wM, rfl, rfl⟩
theorem at_z {α : Type} {x : α} {xs : List α} {i : Nat} (h : xs[i]? = some x) : atI xs (0 + (i : Int)) = some x := by
  rw [Int.zero_add]
  exact atI_nat h
theorem MbsAt.gets {k : Cs} {K : PySem.W.Frag} {G : Hp} : ∀ (r : List Mb) (ts : List Addr), MbsAt k K G r ts → ∀ (i : Nat) (m : Mb), r[i]? = some m → ∃ t a, ts[i]? = some t ∧ G t = some (.tup [.ref a, limV m.2]) ∧ PtAt k K G m.1 a
  | [], ts, h, i, m, e => by cases e
  | (p, o) :: r, ts, h, i, m, e => by
    obtain ⟨t, a, ss, rfl, h2, h3, h4⟩ := h
    cases i with
    | zero =>
      cases e
      exact ⟨t, a, rfl, h2, h3⟩
    | succ i => exact MbsAt.gets r ss h4 i m e
theorem LmAt.gets {G : Hp} : ∀ (r : List Mb) (ts : List Addr), LmAt G r ts → ∀ (i : Nat) (m : Mb), r[i]? = some m → ∃ t a, ts[i]? = some t ∧ G t = some (.lst [.ref a, limV m.2]) ∧ DtAt G m.1 a
  | [], ts, h, i, m, e => by cases e
  | (p, o) :: r, ts, h, i, m, e => by
    obtain ⟨t, a, ss, rfl, h2, h3, h4⟩ := h
    cases i with
    | zero =>
      cases e
      exact ⟨t, a, rfl, h2, h3⟩
    | succ i => exact LmAt.gets r ss h4 i m e
section
variable {P : Program} {w : World} {K : PySem.W.Frag} {mg : Str → Option Value} {base : Heap} {f C CP : Addr} {k : Cs} {fd : FuncData}
def spLr (k : Cs) (K : PySem.W.Frag) : Sp := fun vs H Q _ => ∃ (T R : Addr) (ts us : List Addr) (row : List Mb), vs = [.ref T, .ref R] ∧ SqT K H T (ts.map V.ref) ∧ MbsAt k K H row ts ∧ H R = some (.lst (us.map V.ref)) ∧ LmAt H row us ∧ ROk row ∧ row.length ≤ 100000 ∧ ∀ H', Same H H' → Q (.bl true) H'
theorem ok_lrow (F : FnP K "_law_row" s_row f fd) (pa : PtA K k) (pw : PtW K k) (m_isinstance : mg "isinstance" = none) (m_tuple : mg "tuple" = none) (m_len : mg "len" = none) (m_range : mg "range" = none) (c_is : Cal P w K mg base 1 "_law_is" spIs) (c_says : Cal P w K mg base 1 "_law_says" spSays) (c_part_text : Cal P w K mg base (2 * 30 + 7) "_law_part_text" (spTp 30)) (c_part_weight : Cal P w K mg base (2 * 30 + 7) "_law_part_weight" (spWp 30)) : FnOk P w K mg base CX0 (2 * 30 + 8) f fd P_row (spLr k K) := by
  refine F.ok sc_row (fun vs H Q E h => ?_) (fun cdv A outer s H vs Q E hr h => ?_)
  · obtain ⟨T, R, ts, us, row, rfl, _⟩ := h
    rfl
  · obtain ⟨T, R, ts, us, row, rfl, hT, hM, hR, hL, rok, lr, qq⟩ := h
    refine ⟨_, PSs.nox (pss_cons (ps_if (PW.pt (pw_or (pt_not (pt_val (pe_callB call_isi (by rfl) m_isinstance (by decide +kernel) (pa_cons (pv 0) (pa_cons (pe_bltn (v := .ty "tuple") (by rfl) m_tuple (by decide +kernel) rfl) pa_nil))))) (pw_or1 (pt_cmpR op_ne (pe_callB call_len_seq (by rfl) m_len PySem.boot_len (pa_cons (pv 0) pa_nil)) (pe_callB call_len_seq (by rfl) m_len PySem.boot_len (pa_cons (pv 1) pa_nil)) (nomark _))))) (pss_one (ps_ret pe_bl)) pss_nil)
      (pss_cons (ps_for PassesOwn.never rfl (pi_range1 (by rfl) m_range (pa_cons (pe_callB call_len_seq (by rfl) m_len PySem.boot_len (pa_cons (pv 1) pa_nil)) pa_nil)) (pg_name (i := 2) sc_row.nd rfl (by first | exact .inl rfl | exact .inr rfl))
        (pss_cons (ps_set (i := 3) sc_row.nd rfl (by first | exact .inl rfl | exact .inr rfl) (pe_ix ix_tup (pv 0) (pv 2) (fun _ _ => rfl)))
      (pss_cons (ps_if (PW.pt (pw_or (pt_not (pt_val (pe_callB call_isi (by rfl) m_isinstance (by decide +kernel) (pa_cons (pv 3) (pa_cons (pe_bltn (v := .ty "tuple") (by rfl) m_tuple (by decide +kernel) rfl) pa_nil))))) (pw_or1 (pt_cmpR op_ne (pe_callB call_len_seq (by rfl) m_len PySem.boot_len (pa_cons (pv 3) pa_nil)) pe_int (nomark _))))) (pss_one (ps_ret pe_bl)) pss_nil)
      (pss_cons (ps_if (PW.pt (pw_or (pt_not (pt_val (pe_cl c_says hr (by decide) (by rfl) (pa_cons (pe_con (pe_ix ix_tup (pv 3) pe_int (fun _ _ => rfl)) rfl) (pa_cons (pe_ix ix_tup (pe_ix ix_list (pe_ix ix_list (pv 1) (pv 2) (fun _ _ => rfl)) pe_int (fun _ _ => rfl)) pe_int (fun _ _ => rfl)) pa_nil))))) (pw_or1 (pt_not (pt_val (pe_cl c_says hr (by decide) (by rfl) (pa_cons (pe_fld (pe_ix ix_tup (pv 3) pe_int (fun _ _ => rfl)) rfl) (pa_cons (pe_cl c_part_text hr (by decide) (by rfl) (pa_cons (pe_ix ix_list (pe_ix ix_list (pv 1) (pv 2) (fun _ _ => rfl)) pe_int (fun _ _ => rfl)) pa_nil)) pa_nil)))))))) (pss_one (ps_ret pe_bl)) pss_nil)
      (pss_cons (ps_if (pt_not (pt_val (pe_cl c_is hr (by decide) (by rfl) (pa_cons (pe_fld (pe_ix ix_tup (pv 3) pe_int (fun _ _ => rfl)) rfl) (pa_cons (pe_cl c_part_weight hr (by decide) (by rfl) (pa_cons (pe_ix ix_list (pe_ix ix_list (pv 1) (pv 2) (fun _ _ => rfl)) pe_int (fun _ _ => rfl)) pa_nil)) pa_nil))))) (pss_one (ps_ret pe_bl)) pss_nil)
      (pss_cons (ps_if (PW.pt (pw_and (pt_cmpR op_eq (pe_ix ix_tup (pe_ix ix_list (pe_ix ix_list (pv 1) (pv 2) (fun _ _ => rfl)) pe_int (fun _ _ => rfl)) pe_int (fun _ _ => rfl)) pe_str (nomark _)) (pw_and1 (pt_not (pt_val (pe_cl c_is hr (by decide) (by rfl) (pa_cons (pe_fld (pe_ix ix_tup (pv 3) pe_int (fun _ _ => rfl)) rfl) (pa_cons (pe_ix ix_tup (pe_ix ix_list (pe_ix ix_list (pv 1) (pv 2) (fun _ _ => rfl)) pe_int (fun _ _ => rfl)) pe_int (fun _ _ => rfl)) pa_nil)))))))) (pss_one (ps_ret pe_bl)) pss_nil)
      (pss_cons (ps_if (PW.pt (pw_and (pt_cmpR op_isN (pe_ix ix_list (pe_ix ix_list (pv 1) (pv 2) (fun _ _ => rfl)) pe_int (fun _ _ => rfl)) pe_non (nomark _)) (pw_and1 (pt_cmpR op_notN (pe_ix ix_tup (pv 3) pe_int (fun _ _ => rfl)) pe_non (nomark _))))) (pss_one (ps_ret pe_bl)) pss_nil)
      (pss_one (ps_if (PW.pt (pw_and (pt_cmpR op_notN (pe_ix ix_list (pe_ix ix_list (pv 1) (pv 2) (fun _ _ => rfl)) pe_int (fun _ _ => rfl)) pe_non (nomark _)) (pw_and1 (pt_not (pt_val (pe_cl c_is hr (by decide) (by rfl) (pa_cons (pe_ix ix_tup (pv 3) pe_int (fun _ _ => rfl)) (pa_cons (pe_ix ix_list (pe_ix ix_list (pv 1) (pv 2) (fun _ _ => rfl)) pe_int (fun _ _ => rfl)) pa_nil)))))))) (pss_one (ps_ret pe_bl)) pss_nil)))))))))
      (pss_one (ps_ret pe_bl)))), ?_⟩
    have l1 := MbsAt.len _ _ hM
    have l2 := LmAt.len _ _ hL
    walk_at "go"
    refine isiX (tyT hT) (show kitB "tuple" "tuple" = some true by decide +kernel) ?_
    walk_at "go"
    refine ⟨T, _, rfl, .inr hT, ?_⟩
    walk_at "go"
    refine ⟨R, _, rfl, .inl (SqL.of hR), ?_⟩
    rw [List.length_map, List.length_map, l1, l2]
    walk_at "go"
    refine ite2 (fun e => absurd e (by simp)) (fun _ => ?_)
    walk_at "go"
    refine ⟨R, _, rfl, .inl (SqL.of hR), ?_⟩
    rw [List.length_map, l2]
    walk_at "go"
    refine for_gen (n := row.length) (fun i σ J => ∃ (v2 v3 : Option V), Same H J ∧ σ = [some (.ref T), some (.ref R), v2, v3]) ⟨none, none, Same.refl _, rfl⟩ ?_ ?_ ?_ ?_
    · rintro i σ J hi _
      show i < (row.length : Int).toNat
      omega
    · rintro σ J _
      show (row.length : Int).toNat ≤ row.length
      omega
    · rintro i σ J z J' hi ⟨v2, v3, s1, rfl⟩ ⟨rfl, rfl⟩
      obtain ⟨p, l, er⟩ : ∃ p l, row[i]? = some (p, l) := ⟨row[i].1, row[i].2, List.getElem?_eq_getElem hi⟩
      obtain ⟨t, a, et, ht, ha⟩ := MbsAt.gets _ _ hM i _ er
      obtain ⟨u, b, eu, hu, hb⟩ := LmAt.gets _ _ hL i _ er
      have ht := s1 _ _ ht
      have ha := ha.mono s1 _ _
      have hu := s1 _ _ hu
      have hb := hb.mono s1 _ _
      have hT1 := Z.Same.sqK (b := false) s1 hT
      have hR1 := s1 _ _ hR
      obtain ⟨okp, wtp, dpp, hlim⟩ := rok _ (List.mem_of_getElem? er)
      dsimp only at ht ha hu hb okp wtp dpp hlim
      have at1 : atI (ts.map V.ref) (0 + (i : Int)) = some (.ref t) := at_z (by rw [List.getElem?_map, et]; rfl)
      have at2 : atI (us.map V.ref) (0 + (i : Int)) = some (.ref u) := at_z (by rw [List.getElem?_map, eu]; rfl)
      obtain ⟨C, dx, fs, uu, e1, e2, e3, e4⟩ := rd_kind pa ha
      obtain ⟨C', dx', fs', e1', e2', xt, xw, ft, fw⟩ := rd_tw pa pw ha
      obtain ⟨xs, hx⟩ := dt_kind hb
      walk_at "go"
      refine ⟨T, _, _, _, rfl, rfl, hT1, at1, ?_⟩
      walk_at "go"
      refine isiX (tyT (SqT.of ht)) (show kitB "tuple" "tuple" = some true by decide +kernel) ?_
      walk_at "go"
      refine ⟨t, _, rfl, .inr (SqT.of ht), ?_⟩
      walk_at "go"
      refine ⟨t, _, _, _, rfl, rfl, SqT.of ht, at_0, ?_⟩
      walk_at "go"
      refine ⟨a, C, dx, fs, _, uu, rfl, e1, e2, e3, e4, ?_⟩
      walk_at "go"
      refine ⟨R, _, _, _, rfl, rfl, SqL.of hR1, at2, ?_⟩
      walk_at "go"
      refine ⟨u, _, _, _, rfl, rfl, SqL.of hu, at_0, ?_⟩
      walk_at "go"
      refine ⟨b, _, _, _, rfl, rfl, SqT.of hx, at_0, ?_⟩
      walk_at "go"
      refine ⟨t, _, _, _, rfl, rfl, SqT.of ht, at_0, ?_⟩
      walk_at "go"
      refine ⟨a, C', dx', fs', _, rfl, e1', e2', xt, ft, ?_⟩
      walk_at "go"
      refine ⟨R, _, _, _, rfl, rfl, SqL.of hR1, at2, ?_⟩
      walk_at "go"
      refine ⟨u, _, _, _, rfl, rfl, SqL.of hu, at_0, ?_⟩
      walk_at "go"
      refine ⟨b, p, rfl, hb, okp, by omega, dpp, fun J2 s2 => ?_⟩
      have s12 := s1.trans s2
      have ht2 := s2 _ _ ht
      have ha2 := ha.mono s2 _ _
      have hu2 := s2 _ _ hu
      have hb2 := hb.mono s2 _ _
      have hT2 := Z.Same.sqK (b := false) s12 hT
      have hR2 := s12 _ _ hR
      walk_at "go"
      refine ⟨t, _, _, _, rfl, rfl, SqT.of ht2, at_0, ?_⟩
      walk_at "go"
      refine ⟨a, C', dx', fs', _, rfl, s2 _ _ e1', e2', xw, fw, ?_⟩
      walk_at "go"
      refine ⟨R, _, _, _, rfl, rfl, SqL.of hR2, at2, ?_⟩
      walk_at "go"
      refine ⟨u, _, _, _, rfl, rfl, SqL.of hu2, at_0, ?_⟩
      walk_at "go"
      refine ⟨b, p, rfl, hb2, okp, by omega, dpp, fun J3 s3 => ?_⟩
      have s13 := s12.trans s3
      have ht3 := s3 _ _ ht2
      have ha3 := ha2.mono s3 _ _
      have hu3 := s3 _ _ hu2
      have hb3 := hb2.mono s3 _ _
      have hT3 := Z.Same.sqK (b := false) s13 hT
      have hR3 := s13 _ _ hR
      have hx3 := s3 _ _ (s2 _ _ hx)
      clear hT hT1 hT2 ht ht2 ha ha2 hu hu2 hb hb2 hR1 hR2 e1 e1' hx s2 s3
      walk_at "go"
      refine ⟨R, _, _, _, rfl, rfl, SqL.of hR3, at2, ?_⟩
      walk_at "go"
      refine ⟨u, _, _, _, rfl, rfl, SqL.of hu3, at_0, ?_⟩
      walk_at "go"
      refine ⟨b, _, _, _, rfl, rfl, SqT.of hx3, at_0, ?_⟩
      have fin : ∀ {Qx : Hp → Prop}, Qx J3 → Qx J3 := fun h => h
      cases p with
      | ti c bb =>
        rw [PtAt] at ha3
        rw [DtAt] at hb3
        obtain ⟨dx, x, dy, tt, as, h, _⟩ := ha3
        obtain ⟨Lb, bs, hb4, _⟩ := hb3
        walk_at "go"
        refine ⟨t, _, _, _, rfl, rfl, SqT.of ht3, at_0, ?_⟩
        walk_at "go"
        refine ⟨a, _, _, _, _, rfl, h, pa.cM, pa.M1, rfl, ?_⟩
        walk_at "go"
        refine ⟨R, _, _, _, rfl, rfl, SqL.of hR3, at2, ?_⟩
        walk_at "go"
        refine ⟨u, _, _, _, rfl, rfl, SqL.of hu3, at_0, ?_⟩
        walk_at "go"
        refine ⟨b, _, _, _, rfl, rfl, SqT.of hb4, at_1, ?_⟩
        walk_at "go"
        refine ⟨R, _, _, _, rfl, rfl, SqL.of hR3, at2, ?_⟩
        walk_at "go"
        refine ⟨u, _, _, _, rfl, rfl, SqL.of hu3, at_1, ?_⟩
        cases l with
        | none =>
          walk_at "go"
          refine ⟨t, _, _, _, rfl, rfl, SqT.of ht3, at_1, ?_⟩
          walk_at "go"
          refine ⟨R, _, _, _, rfl, rfl, SqL.of hR3, at2, ?_⟩
          walk_at "go"
          refine ⟨u, _, _, _, rfl, rfl, SqL.of hu3, at_1, ?_⟩
          walk_at "go"
          exact ⟨_, _, s13, rfl⟩
        | some n =>
          walk_at "go"
          refine ⟨R, _, _, _, rfl, rfl, SqL.of hR3, at2, ?_⟩
          walk_at "go"
          refine ⟨u, _, _, _, rfl, rfl, SqL.of hu3, at_1, ?_⟩
          walk_at "go"
          refine ⟨t, _, _, _, rfl, rfl, SqT.of ht3, at_1, ?_⟩
          walk_at "go"
          refine ⟨R, _, _, _, rfl, rfl, SqL.of hR3, at2, ?_⟩
          walk_at "go"
          refine ⟨u, _, _, _, rfl, rfl, SqL.of hu3, at_1, ?_⟩
          walk_at "go"
          exact ⟨_, _, s13, rfl⟩
      | _ =>
        walk_at "go"
        refine ⟨R, _, _, _, rfl, rfl, SqL.of hR3, at2, ?_⟩
        walk_at "go"
        refine ⟨u, _, _, _, rfl, rfl, SqL.of hu3, at_1, ?_⟩
        cases l with
        | none =>
          walk_at "go"
          refine ⟨t, _, _, _, rfl, rfl, SqT.of ht3, at_1, ?_⟩
          walk_at "go"
          refine ⟨R, _, _, _, rfl, rfl, SqL.of hR3, at2, ?_⟩
          walk_at "go"
          refine ⟨u, _, _, _, rfl, rfl, SqL.of hu3, at_1, ?_⟩
          walk_at "go"
          exact ⟨_, _, s13, rfl⟩
        | some n =>
          walk_at "go"
          refine ⟨R, _, _, _, rfl, rfl, SqL.of hR3, at2, ?_⟩
          walk_at "go"
          refine ⟨u, _, _, _, rfl, rfl, SqL.of hu3, at_1, ?_⟩
          walk_at "go"
          refine ⟨t, _, _, _, rfl, rfl, SqT.of ht3, at_1, ?_⟩
          walk_at "go"
          refine ⟨R, _, _, _, rfl, rfl, SqL.of hR3, at2, ?_⟩
          walk_at "go"
          refine ⟨u, _, _, _, rfl, rfl, SqL.of hu3, at_1, ?_⟩
          walk_at "go"
          exact ⟨_, _, s13, rfl⟩
    · rintro σ J ⟨v2, v3, s1, rfl⟩
      walk_at "go"
      exact qq _ s1
def spLt2 : Sp := fun vs H Q _ => ∃ (T E : Addr) (h : List Pt), vs = [.ref T, .ref E] ∧ H T = some (.tup (hapV h)) ∧ H E = some (.lst (hapV h)) ∧ h.length ≤ 10000000 ∧ ∀ H', Same H H' → Q (.bl true) H'
theorem ok_ltexts (F : FnP K "_law_texts" s_texts f fd) (m_isinstance : mg "isinstance" = none) (m_tuple : mg "tuple" = none) (m_len : mg "len" = none) (m_range : mg "range" = none) (m_all : mg "all" = none) (c_says : Cal P w K mg base 1 "_law_says" spSays) : FnOk P w K mg base CX0 2 f fd P_texts spLt2 := by
  refine F.ok sc_texts (fun vs H Q E h => ?_) (fun cdv A outer s H vs Q E hr h => ?_)
  · obtain ⟨T, E0, h, rfl, _⟩ := h
    rfl
  · obtain ⟨T, E0, h, rfl, hT, hE, lh, qq⟩ := h
    refine ⟨_, PSs.nox (pss_cons (ps_if (PW.pt (pw_or (pt_not (pt_val (pe_callB call_isi (by rfl) m_isinstance (by decide +kernel) (pa_cons (pv 0) (pa_cons (pe_bltn (v := .ty "tuple") (by rfl) m_tuple (by decide +kernel) rfl) pa_nil))))) (pw_or1 (pt_cmpR op_ne (pe_callB call_len_seq (by rfl) m_len PySem.boot_len (pa_cons (pv 0) pa_nil)) (pe_callB call_len_seq (by rfl) m_len PySem.boot_len (pa_cons (pv 1) pa_nil)) (nomark _))))) (pss_one (ps_ret pe_bl)) pss_nil)
      (pss_one (ps_ret (pe_callB (cr_all rfl) (by rfl) m_all (by decide +kernel) (pa_cons (pe_lc (own := [("_law_k", 2)]) (g := (gName 2)) (tt := tYes) (by rfl) sc_texts.nd (pi_range1 (by rfl) m_range (pa_cons (pe_callB call_len_seq (by rfl) m_len PySem.boot_len (pa_cons (pv 1) pa_nil)) pa_nil)) (blkOk_by (own := [("_law_k", 2)]) (N := N_texts) (sc := defScope s_texts) (by decide +kernel)) (fun _ _ _ _ _ => (pg_name (i := 2) sc_texts.nd rfl (by first | exact .inl rfl | exact .inr rfl))) (fun _ _ _ _ _ => pts_nil) (fun _ _ _ _ _ => (pe_cl c_says hr (by decide) (by rfl) (pa_cons (pe_ix (ix_tup_K (K := K) rfl) (pv 0) (pv 2) (fun _ _ => rfl)) (pa_cons (pe_ix (ix_list_K (K := K) rfl) (pv 1) (pv 2) (fun _ _ => rfl)) pa_nil))))) pa_nil))))), ?_⟩
    have lv : (hapV h).length = h.length := List.length_map _
    walk_at "go"
    refine isiX (tyT (SqT.of hT)) (show kitB "tuple" "tuple" = some true by decide +kernel) ?_
    walk_at "go"
    refine ⟨T, _, rfl, .inr (SqT.of hT), ?_⟩
    walk_at "go"
    refine ⟨E0, _, rfl, .inl (SqL.of hE), ?_⟩
    walk_at "go"
    refine ite2 (fun e => absurd e (by simp)) (fun _ => ?_)
    walk_at "go"
    refine ⟨E0, _, rfl, .inl (SqL.of hE), ?_⟩
    rw [lv]
    walk_at "go"
    intro D nD
    refine lc_gen (n := h.length) (fun i J => Same H J ∧ J D = some (.lst (List.replicate i (.bl true)))) ⟨same_new nD, upd_same⟩ (fun i J hi _ => ?_) (fun J _ => ?_) (fun i J z J2 hi ⟨s1, eD⟩ hy => ?_) (fun J ⟨s1, eD⟩ => ?_)
    · show i < (h.length : Int).toNat
      omega
    · show (h.length : Int).toNat ≤ h.length
      omega
    · obtain ⟨rfl, rfl⟩ := hy
      refine ⟨rfl, ?_⟩
      have er : h[i]? = some h[i] := List.getElem?_eq_getElem hi
      have at1 : atI (hapV h) (0 + (i : Int)) = some (.str (S (tx h[i]))) := at_z (by unfold hapV; rw [List.getElem?_map, er]; rfl)
      walk_at "go"
      refine ⟨T, _, _, _, rfl, rfl, SqT.of (s1 _ _ hT), at1, ?_⟩
      walk_at "go"
      refine ⟨E0, _, _, _, rfl, rfl, SqL.of (s1 _ _ hE), at1, ?_⟩
      walk_at "go"
      exact ⟨_, eD, Nat.lt_of_le_of_lt (show (List.replicate i (V.bl true)).length ≤ 10000000 by rw [List.length_replicate]; omega) (by decide), Z.Same.mut s1 nD, by rw [upd_same, List.replicate_succ']⟩
    · walk_at "go"
      refine ⟨D, List.replicate h.length true, rfl, SqL.of (by rw [eD, List.map_replicate]), ?_⟩
      rw [show (List.replicate h.length true).all id = true from List.all_eq_true.mpr fun x hx => (List.eq_of_mem_replicate hx)]
      exact qq _ s1
def spLm2 : Sp := fun vs H Q _ => ∃ (T M : Addr) (as bs : List Addr) (ms : List Mv), vs = [.ref T, .ref M] ∧ H T = some (.tup (as.map V.ref)) ∧ H M = some (.lst (bs.map V.ref)) ∧ as.length = ms.length ∧ bs.length = ms.length ∧ (∀ (i : Nat) (a : Addr) (m : Mv), as[i]? = some a → ms[i]? = some m → H a = some (.tup [.str m.1, .int (m.2 : Int)])) ∧ (∀ (i : Nat) (a : Addr) (m : Mv), bs[i]? = some a → ms[i]? = some m → H a = some (.tup [.str m.1, .int (m.2 : Int)])) ∧ ms.length ≤ 100000 ∧ ∀ H', Same H H' → Q (.bl true) H'
theorem ok_lmoves (F : FnP K "_law_moves" s_moves f fd) (m_isinstance : mg "isinstance" = none) (m_tuple : mg "tuple" = none) (m_len : mg "len" = none) (m_range : mg "range" = none) (c_is : Cal P w K mg base 1 "_law_is" spIs) (c_says : Cal P w K mg base 1 "_law_says" spSays) : FnOk P w K mg base CX0 2 f fd P_moves spLm2 := by
  refine F.ok sc_moves (fun vs H Q E h => ?_) (fun cdv A outer s H vs Q E hr h => ?_)
  · obtain ⟨T, M, as, bs, ms, rfl, _⟩ := h
    rfl
  · obtain ⟨T, M, as, bs, ms, rfl, hT, hM, la, lb, ga, gb, lm, qq⟩ := h
    refine ⟨_, PSs.nox (pss_cons (ps_if (PW.pt (pw_or (pt_not (pt_val (pe_callB call_isi (by rfl) m_isinstance (by decide +kernel) (pa_cons (pv 0) (pa_cons (pe_bltn (v := .ty "tuple") (by rfl) m_tuple (by decide +kernel) rfl) pa_nil))))) (pw_or1 (pt_cmpR op_ne (pe_callB call_len_seq (by rfl) m_len PySem.boot_len (pa_cons (pv 0) pa_nil)) (pe_callB call_len_seq (by rfl) m_len PySem.boot_len (pa_cons (pv 1) pa_nil)) (nomark _))))) (pss_one (ps_ret pe_bl)) pss_nil)
      (pss_cons (ps_for PassesOwn.never rfl (pi_range1 (by rfl) m_range (pa_cons (pe_callB call_len_seq (by rfl) m_len PySem.boot_len (pa_cons (pv 1) pa_nil)) pa_nil)) (pg_name (i := 2) sc_moves.nd rfl (by first | exact .inl rfl | exact .inr rfl))
        (pss_cons (ps_set (i := 3) sc_moves.nd rfl (by first | exact .inl rfl | exact .inr rfl) (pe_ix ix_tup (pv 0) (pv 2) (fun _ _ => rfl)))
      (pss_cons (ps_if (PW.pt (pw_or (pt_not (pt_val (pe_callB call_isi (by rfl) m_isinstance (by decide +kernel) (pa_cons (pv 3) (pa_cons (pe_bltn (v := .ty "tuple") (by rfl) m_tuple (by decide +kernel) rfl) pa_nil))))) (pw_or1 (pt_cmpR op_ne (pe_callB call_len_seq (by rfl) m_len PySem.boot_len (pa_cons (pv 3) pa_nil)) pe_int (nomark _))))) (pss_one (ps_ret pe_bl)) pss_nil)
      (pss_one (ps_if (PW.pt (pw_or (pt_not (pt_val (pe_cl c_says hr (by decide) (by rfl) (pa_cons (pe_ix ix_tup (pv 3) pe_int (fun _ _ => rfl)) (pa_cons (pe_ix ix_tup (pe_ix ix_list (pv 1) (pv 2) (fun _ _ => rfl)) pe_int (fun _ _ => rfl)) pa_nil))))) (pw_or1 (pt_not (pt_val (pe_cl c_is hr (by decide) (by rfl) (pa_cons (pe_ix ix_tup (pv 3) pe_int (fun _ _ => rfl)) (pa_cons (pe_ix ix_tup (pe_ix ix_list (pv 1) (pv 2) (fun _ _ => rfl)) pe_int (fun _ _ => rfl)) pa_nil)))))))) (pss_one (ps_ret pe_bl)) pss_nil)))))
      (pss_one (ps_ret pe_bl)))), ?_⟩
    walk_at "go"
    refine isiX (tyT (SqT.of hT)) (show kitB "tuple" "tuple" = some true by decide +kernel) ?_
    walk_at "go"
    refine ⟨T, _, rfl, .inr (SqT.of hT), ?_⟩
    walk_at "go"
    refine ⟨M, _, rfl, .inl (SqL.of hM), ?_⟩
    rw [List.length_map, List.length_map, la, lb]
    walk_at "go"
    refine ite2 (fun e => absurd e (by simp)) (fun _ => ?_)
    walk_at "go"
    refine ⟨M, _, rfl, .inl (SqL.of hM), ?_⟩
    rw [List.length_map, lb]
    walk_at "go"
    refine for_gen (n := ms.length) (fun i σ J => ∃ (v2 v3 : Option V), Same H J ∧ σ = [some (.ref T), some (.ref M), v2, v3]) ⟨none, none, Same.refl _, rfl⟩ ?_ ?_ ?_ ?_
    · rintro i σ J hi _
      show i < (ms.length : Int).toNat
      omega
    · rintro σ J _
      show (ms.length : Int).toNat ≤ ms.length
      omega
    · rintro i σ J z J' hi ⟨v2, v3, s1, rfl⟩ ⟨rfl, rfl⟩
      have er : ms[i]? = some ms[i] := List.getElem?_eq_getElem hi
      have ea : as[i]? = some as[i] := List.getElem?_eq_getElem (by omega)
      have eb : bs[i]? = some bs[i] := List.getElem?_eq_getElem (by omega)
      have ha := s1 _ _ (ga i _ _ ea er)
      have hb := s1 _ _ (gb i _ _ eb er)
      have at1 : atI (as.map V.ref) (0 + (i : Int)) = some (.ref as[i]) := at_z (by rw [List.getElem?_map, ea]; rfl)
      have at2 : atI (bs.map V.ref) (0 + (i : Int)) = some (.ref bs[i]) := at_z (by rw [List.getElem?_map, eb]; rfl)
      have hT1 := s1 _ _ hT
      have hM1 := s1 _ _ hM
      generalize as[i] = a at ha at1
      generalize bs[i] = b at hb at2
      generalize ms[i] = m at ha hb
      walk_at "go"
      refine ⟨T, _, _, _, rfl, rfl, SqT.of hT1, at1, ?_⟩
      walk_at "go"
      refine isiX (tyT (SqT.of ha)) (show kitB "tuple" "tuple" = some true by decide +kernel) ?_
      walk_at "go"
      refine ⟨a, _, rfl, .inr (SqT.of ha), ?_⟩
      walk_at "go"
      refine ⟨a, _, _, _, rfl, rfl, SqT.of ha, at_0, ?_⟩
      walk_at "go"
      refine ⟨M, _, _, _, rfl, rfl, SqL.of hM1, at2, ?_⟩
      walk_at "go"
      refine ⟨b, _, _, _, rfl, rfl, SqT.of hb, at_0, ?_⟩
      walk_at "go"
      refine ⟨a, _, _, _, rfl, rfl, SqT.of ha, at_1, ?_⟩
      walk_at "go"
      refine ⟨M, _, _, _, rfl, rfl, SqL.of hM1, at2, ?_⟩
      walk_at "go"
      refine ⟨b, _, _, _, rfl, rfl, SqT.of hb, at_1, ?_⟩
      walk_at "go"
      exact ⟨_, _, s1, rfl⟩
    · rintro σ J ⟨v2, v3, s1, rfl⟩
      walk_at "go"
      exact qq _ s1
end
end Z
set_option pp.maxSteps 700
set_option Elab.async false
set_option linter.all false
set_option maxRecDepth 100000
set_option maxHeartbeats 4000000
open SX (S S_inj S_len S_cat)
namespace Z
open Pk NdefX
open PySem PySem.Spec PyProof.Rows L2
open C8 (pss_cut tCut)
local macro_rules | `(tactic| walk_at "num") => `(tactic| first | rfl | omega | decide | exact Nat.le_of_lt (small1000 (by simp)) | exact ⟨by omega, by omega⟩ | exact ⟨by omega, by omega, by omega⟩ | exact ⟨by decide, by decide, by decide⟩ | exact Or.inl ⟨by omega, by omega⟩ | exact Or.inr ⟨by omega, by omega⟩)
local macro_rules | `(tactic| walk_at "go") => `(tactic| repeat (first | refine ⟨_, rfl, ?_⟩ | refine ⟨_, _, rfl, rfl, ?_⟩ | refine ⟨_, _, rfl, ?_⟩ | (refine ⟨_, _, rfl, rfl, ?_, ?_⟩; focus walk_at "num") | refine Or.inl ⟨_, rfl, ?_⟩ | refine ⟨_, _, _, _, rfl, rfl, (by assumption), (by rfl), ?_⟩ | refine ⟨_, _, _, _, _, rfl, (by assumption), (by assumption), (by assumption), (by rfl), ?_⟩ | refine ⟨rfl, ?_⟩ | (refine And.intro ?_ ?_; focus walk_at "num")))
section
variable {P : Program} {w : World} {K : PySem.W.Frag} {mg : Str → Option Value} {base : Heap} {f C CP CY : Addr} {k : Cs} {fd : FuncData}
def kyS (ks : List Nat) : List Str := ks.map fun c => S [c]
theorem lc_keys {d D : Addr} {od : Obj} {pu : Pu} {H0 : Hp} {i : Nat} {te : TE} {vs : List Nat} {σ : L2.St} {Qd : Hp → Prop} (fz : H0 d = some (.frz od (.dK (pk pu)))) (hn : pu.length ≤ 1000000) (nD : H0 D = none)
    (hw : ∀ x : V, wipe ((wipe σ vs).set i (some x)) vs = wipe σ vs)
    (ht : ∀ (c : Nat) J (Q : VK), Same H0 J → (∀ J2, Same J J2 → Q (.str (S [c])) J2) → te ((wipe σ vs).set i (some (.str (S [c])))) J Q)
    (hd : ∀ J, Same H0 J → J D = some (.lst ((kyS (pu.map (·.1))).map V.str)) → Qd J) : lcW (Itk d od (pk pu)) (gName i) tYes te vs σ D Qd H0 := by
  have lp := pk_len pu
  refine lc_gen (n := pu.length) (fun k J1 => Same H0 J1 ∧ J1 D = some (.lst ((pu.take k).map fun x => V.str (S [x.1])))) ⟨same_new nD, upd_same⟩ (fun k J1 hk h => ⟨h.1 _ _ fz, by rw [lp]; exact hk⟩) (fun J1 h => ⟨h.1 _ _ fz, by rw [lp]; exact Nat.le_refl _⟩) (fun k J1 x J2 hk ⟨s1, eD⟩ y => ?_) (fun J1 ⟨s1, eD⟩ => hd J1 s1 (by rw [eD, List.take_of_length_le (Nat.le_refl _)]; unfold kyS; rw [List.map_map, List.map_map]; rfl))
  obtain ⟨rfl, kk, v, ex, rfl⟩ := y
  have e2 : (pk pu)[k]? = some (.inr (S [pu[k].1]), .int (pu[k].2 : Int)) := by
    unfold pk
    rw [List.getElem?_map, List.getElem?_eq_getElem hk]
    rfl
  rw [e2] at ex
  cases ex
  refine ⟨hw _, ?_⟩
  show te ((wipe σ vs).set i (some (.str (S [pu[k].1])))) J2 _
  refine ht _ J2 _ s1 fun J3 s3 => ?_
  refine ⟨_, s3 _ _ eD, Nat.lt_of_le_of_lt (show (((pu.take k).map fun x => V.str (S [x.1]))).length ≤ 1000000 by rw [List.length_map, List.length_take]; omega) (by decide), Z.Same.mut (s1.trans s3) nD, ?_⟩
  rw [upd_same, List.take_add_one, List.getElem?_eq_getElem hk, List.map_append]
  rfl
theorem cn_nd : ∀ {pu : Pu} {c n : Nat}, (pu.map (·.1)).Nodup → (c, n) ∈ pu → cn pu c = some n
  | x :: pu, c, n, nd, h => by
    rw [List.map_cons, List.nodup_cons] at nd
    rcases List.mem_cons.mp h with h | h
    · subst h
      unfold cn
      rw [List.find?_cons_of_pos (by simp)]
      rfl
    · have : x.1 ≠ c := fun e => nd.1 (e ▸ List.mem_map.mpr ⟨_, h, rfl⟩)
      have ih := cn_nd nd.2 h
      unfold cn at ih ⊢
      rw [List.find?_cons_of_neg (by simp [this])]
      exact ih
theorem thaw {H J : Hp} {d : Addr} {od : Obj} {u : HO} (hd : H d = some u) (s : Same (upd H d (.frz od u)) J) : Same H (upd J d u) := fun a o h => by
  by_cases e : a = d
  · rw [e, upd_same]
    rw [e, hd] at h
    exact h
  · rw [upd_ne e]
    exact s _ _ (by rw [upd_ne e]; exact h)
theorem PlAt.ins {H : Hp} {x q : Addr} {st : Pst} {past : List (Mv × Pst)} {o : Ou} (h : PlAt CY k K H x q st past o) : ∃ dy D R L, H x = some (.ins CY dy (plF D R L q o)) := by
  obtain ⟨dy, D, R, L, ps, hx, _⟩ := h
  exact ⟨dy, D, R, L, hx⟩
theorem ky_oks {ks : List Nat} (par : ∀ c ∈ ks, c ∈ PAR) : ∀ s ∈ kyS ks, PyData.strOk s = true := fun s hs => by
  obtain ⟨c, hc, rfl⟩ := List.mem_map.mp hs
  exact strOk_S fun d hd => by rw [List.mem_singleton.mp hd]; exact (by decide : ∀ c ∈ PAR, c < 1000) c (par c hc)
end
end Z
set_option pp.maxSteps 700
set_option Elab.async false
set_option linter.all false
set_option maxRecDepth 100000
set_option maxHeartbeats 4000000
open SX (S S_inj S_len S_cat)
namespace Z
open Pk NdefX
open PySem PySem.Spec PyProof.Rows L2
open C8 (pss_cut tCut)
local macro_rules | `(tactic| walk_at "num") => `(tactic| first | rfl | omega | decide | exact Nat.le_of_lt (small1000 (by simp)) | exact ⟨by omega, by omega⟩ | exact ⟨by omega, by omega, by omega⟩ | exact ⟨by decide, by decide, by decide⟩ | exact Or.inl ⟨by omega, by omega⟩ | exact Or.inr ⟨by omega, by omega⟩)
local macro_rules | `(tactic| walk_at "go") => `(tactic| repeat (first | refine ⟨_, rfl, ?_⟩ | refine ⟨_, _, rfl, rfl, ?_⟩ | refine ⟨_, _, rfl, ?_⟩ | (refine ⟨_, _, rfl, rfl, ?_, ?_⟩; focus walk_at "num") | refine Or.inl ⟨_, rfl, ?_⟩ | refine ⟨_, _, _, _, rfl, rfl, (by assumption), (by rfl), ?_⟩ | refine ⟨_, _, _, _, _, rfl, (by assumption), (by assumption), (by assumption), (by rfl), ?_⟩ | refine ⟨rfl, ?_⟩ | (refine And.intro ?_ ?_; focus walk_at "num")))
abbrev s_rich : Stmt := topS 73
abbrev N_rich : List Str := ["_law_play", "_law_purses_here", "_law_told", "_law_party"]
abbrev P_rich : List Str := ["_law_play", "_law_purses_here"]
theorem sc_rich : FnScope N_rich P_rich (defScope s_rich) := ⟨rfl, rfl, rfl, by decide +kernel, rfl, by decide +kernel, by decide +kernel⟩
abbrev s_stands : Stmt := topS 74
abbrev N_stands : List Str := ["_law_play", "_law_row_here", "_law_purses_here", "_law_happened", "_law_moves_here", "_law_state", "_law_turn"]
abbrev P_stands : List Str := ["_law_play", "_law_row_here", "_law_purses_here", "_law_happened", "_law_moves_here", "_law_state"]
theorem sc_stands : FnScope N_stands P_stands (defScope s_stands) := ⟨rfl, rfl, rfl, by decide +kernel, rfl, by decide +kernel, by decide +kernel⟩
section
variable {P : Program} {w : World} {K : PySem.W.Frag} {mg : Str → Option Value} {base : Heap} {f C CP CY : Addr} {k : Cs} {fd : FuncData}
theorem pu_get {J : Hp} {D : Addr} {pu : Pu} {c n : Nat} (h : J D = some (.dK (pk pu))) (e : cn pu c = some n) : DGet J D (.str (S [c])) (some (.int (n : Int))) := by
  have z := DGet.k (k := .inr (S [c])) h
  rw [valV_pk, e] at z
  exact z
def spRi (CY : Addr) (k : Cs) (K : PySem.W.Frag) : Sp := fun vs H Q _ => ∃ (x q D : Addr) (st : Pst) (o : Ou) (past : List (Mv × Pst)), vs = [.ref x, .ref D] ∧ PlAt CY k K H x q st past o ∧ H D = some (.dK (pk st.pu)) ∧ (st.pu.map (·.1)).Nodup ∧ (∀ c ∈ st.pu.map (·.1), c ∈ PAR) ∧ ∀ H', Same H H' → Q (.bl true) H'
theorem ok_rich (F : FnP K "_law_rich" s_rich f fd) (py : PlA K k CY) (m_isinstance : mg "isinstance" = none) (m_dict : mg "dict" = none) (me_purses : Met P w K mg base 1 CY "purses" (spPu CY k K)) (me_coins : Met P w K mg base 4 CY "coins" (spCo CY k K)) (c_is : Cal P w K mg base 1 "_law_is" spIs) : FnOk P w K mg base CX0 5 f fd P_rich (spRi CY k K) := by
  refine F.ok sc_rich (fun vs H Q E h => ?_) (fun cdv A outer s H vs Q E hr h => ?_)
  · obtain ⟨x, q, D, st, o, past, rfl, _⟩ := h
    rfl
  · obtain ⟨x, q, D, st, o, past, rfl, pl, hD, nd, par, qq⟩ := h
    refine ⟨_, PSs.nox (pss_cons (ps_set (i := 2) sc_rich.nd rfl (by first | exact .inl rfl | exact .inr rfl) (pe_me0 me_purses (pv 0) hr (by decide)))
      (pss_cons (ps_if (PW.pt (pw_or (pt_not (pt_val (pe_callB call_isi (by rfl) m_isinstance (by decide +kernel) (pa_cons (pv 2) (pa_cons (pe_bltn (v := .ty "dict") (by rfl) m_dict (by decide +kernel) rfl) pa_nil))))) (pw_or1 (pt_cmpR (op_neD hr.units) (pe_lock (pe_lc (own := [("_law_party", 3)]) (g := (gName 3)) (tt := tYes) (by rfl) sc_rich.nd (pi_keys (pv 2)) (blkOk_by (own := [("_law_party", 3)]) (N := N_rich) (sc := defScope s_rich) (by decide +kernel)) (fun _ _ _ _ _ => (pg_name (i := 3) sc_rich.nd rfl (by first | exact .inl rfl | exact .inr rfl))) (fun _ _ _ _ _ => pts_nil) (fun _ _ _ _ _ => (pv 3)))) (pe_lock (pe_lc (own := [("_law_party", 3)]) (g := (gName 3)) (tt := tYes) (by rfl) sc_rich.nd (pi_keys (pv 1)) (blkOk_by (own := [("_law_party", 3)]) (N := N_rich) (sc := defScope s_rich) (by decide +kernel)) (fun _ _ _ _ _ => (pg_name (i := 3) sc_rich.nd rfl (by first | exact .inl rfl | exact .inr rfl))) (fun _ _ _ _ _ => pts_nil) (fun _ _ _ _ _ => (pv 3)))) (nomark _))))) (pss_one (ps_ret pe_bl)) pss_nil)
      (pss_cons (ps_for PassesOwn.never rfl (pi_list (pe_lock (pe_lc (own := [("_law_party", 3)]) (g := (gName 3)) (tt := tYes) (by rfl) sc_rich.nd (pi_keys (pv 1)) (blkOk_by (own := [("_law_party", 3)]) (N := N_rich) (sc := defScope s_rich) (by decide +kernel)) (fun _ _ _ _ _ => (pg_name (i := 3) sc_rich.nd rfl (by first | exact .inl rfl | exact .inr rfl))) (fun _ _ _ _ _ => pts_nil) (fun _ _ _ _ _ => (pv 3))))) (pg_name (i := 3) sc_rich.nd rfl (by first | exact .inl rfl | exact .inr rfl))
        (pss_one (ps_if (PW.pt (pw_or (pt_not (pt_val (pe_cl c_is hr (by decide) (by rfl) (pa_cons (pe_dget (hu_of hr) (pv 2) (pv 3) (fun _ _ => rfl)) (pa_cons (pe_dget (hu_of hr) (pv 1) (pv 3) (fun _ _ => rfl)) pa_nil))))) (pw_or1 (pt_not (pt_val (pe_cl c_is hr (by decide) (by rfl) (pa_cons (pe_me me_coins (pv 0) hr (by decide) (pa_cons (pv 3) pa_nil)) (pa_cons (pe_dget (hu_of hr) (pv 1) (pv 3) (fun _ _ => rfl)) pa_nil)))))))) (pss_one (ps_ret pe_bl)) pss_nil)))
      (pss_one (ps_ret pe_bl))))), ?_⟩
    have oks := ky_oks par
    have lp1 : st.pu.length ≤ 1000 := by
      have h1 := nd.length_le_of_subset (fun c hc => par c hc)
      rw [List.length_map] at h1
      exact Nat.le_trans h1 (by decide)
    obtain ⟨dy, D0, R0, L0, hx⟩ := pl.ins
    walk_at "go"
    refine ⟨x, dy, _, rfl, hx, rfl, ?_⟩
    refine ⟨x, q, st, o, past, rfl, pl, ?_⟩
    intro N nN
    generalize eH_ : upd H N _ = H6
    have s6 : Same H H6 := by rw [← eH_]; exact same_new nN
    have eN : H6 N = some (.dK (pk st.pu)) := by rw [← eH_]; exact upd_same
    clear eH_
    walk_at "go"
    refine isiX (c := "dict") (b := true) (.base (.dK eN)) (by decide +kernel) ?_
    walk_at "go"
    refine ⟨N, _, eN, trivial, fun od7 => ?_⟩
    have fz : (upd H6 N (.frz od7 (.dK (pk st.pu)))) N = some (.frz od7 (.dK (pk st.pu))) := upd_same
    have th := fun {J : Hp} => thaw (J := J) (od := od7) (eN)
    generalize upd H6 N (.frz od7 (.dK (pk st.pu))) = F7 at fz th ⊢
    walk_at "go"
    refine ⟨N, od7, rfl, .inl ⟨_, fz, ?_⟩⟩
    walk_at "go"
    intro G1 nG1
    refine lc_keys fz (by omega) nG1 (fun x => rfl) (fun c J Q4 s4 q4 => ?_) (fun J s4 eG1 => ?_)
    · walk_at "go"
      exact q4 _ (Same.refl _)
    have sH7 := th s4
    have eG1 : (upd J N (.dK (pk st.pu))) G1 = some (.lst ((kyS ((st.pu).map (·.1))).map V.str)) := by
      rw [upd_ne (fun e => by rw [e, fz] at nG1; cases nG1)]
      exact eG1
    clear th
    walk_at "go"
    refine ⟨s4 _ _ fz, ?_⟩
    generalize upd J N (.dK (pk st.pu)) = H7 at sH7 eG1 ⊢
    clear fz s4
    walk_at "go"
    have hD7 := sH7 _ _ (s6 _ _ hD)
    refine ⟨D, _, hD7, trivial, fun od8 => ?_⟩
    have fz : (upd H7 D (.frz od8 (.dK (pk st.pu)))) D = some (.frz od8 (.dK (pk st.pu))) := upd_same
    have th := fun {J : Hp} => thaw (J := J) (od := od8) (hD7)
    generalize upd H7 D (.frz od8 (.dK (pk st.pu))) = F8 at fz th ⊢
    walk_at "go"
    refine ⟨D, od8, rfl, .inl ⟨_, fz, ?_⟩⟩
    walk_at "go"
    intro G2 nG2
    refine lc_keys fz (by omega) nG2 (fun x => rfl) (fun c J Q4 s4 q4 => ?_) (fun J s4 eG2 => ?_)
    · walk_at "go"
      exact q4 _ (Same.refl _)
    have sH8 := th s4
    have eG2 : (upd J D (.dK (pk st.pu))) G2 = some (.lst ((kyS ((st.pu).map (·.1))).map V.str)) := by
      rw [upd_ne (fun e => by rw [e, fz] at nG2; cases nG2)]
      exact eG2
    clear th
    walk_at "go"
    refine ⟨s4 _ _ fz, ?_⟩
    generalize upd J D (.dK (pk st.pu)) = H8 at sH8 eG2 ⊢
    clear fz s4
    walk_at "go"
    refine ne_ssL (SqL.of (sH8 _ _ eG1)) (SqL.of eG2) oks ?_
    walk_at "go"
    have hD8 := sH8 _ _ hD7
    have s68 := (s6.trans sH7).trans sH8
    refine ⟨D, _, hD8, trivial, fun od9 => ?_⟩
    have fz : (upd H8 D (.frz od9 (.dK (pk st.pu)))) D = some (.frz od9 (.dK (pk st.pu))) := upd_same
    have th := fun {J : Hp} => thaw (J := J) (od := od9) (hD8)
    generalize upd H8 D (.frz od9 (.dK (pk st.pu))) = F9 at fz th ⊢
    walk_at "go"
    refine ⟨D, od9, rfl, .inl ⟨_, fz, ?_⟩⟩
    walk_at "go"
    intro G3 nG3
    refine lc_keys fz (by omega) nG3 (fun x => rfl) (fun c J Q4 s4 q4 => ?_) (fun J s4 eG3 => ?_)
    · walk_at "go"
      exact q4 _ (Same.refl _)
    have sH9 := th s4
    have eG3 : (upd J D (.dK (pk st.pu))) G3 = some (.lst ((kyS ((st.pu).map (·.1))).map V.str)) := by
      rw [upd_ne (fun e => by rw [e, fz] at nG3; cases nG3)]
      exact eG3
    clear th
    walk_at "go"
    refine ⟨s4 _ _ fz, ?_⟩
    generalize upd J D (.dK (pk st.pu)) = H9 at sH9 eG3 ⊢
    clear fz s4
    walk_at "go"
    refine ⟨⟨_, SqL.of eG3⟩, ?_⟩
    have s69 := s68.trans sH9
    have hN9 := sH9 _ _ (sH8 _ _ (sH7 _ _ eN))
    have hD9 := s69 _ _ hD
    clear hD7 hD8 sH7 sH8 sH9 eN
    refine for_gen (n := st.pu.length) (fun i σ J => ∃ (v3 : Option V), Same H9 J ∧ σ = [some (.ref x), some (.ref D), some (.ref N), v3]) ⟨_, Same.refl _, rfl⟩ ?_ ?_ ?_ ?_
    · rintro i σ J hi ⟨v3, s1, _⟩
      exact ⟨_, .str (S [st.pu[i].1]), SqL.of (s1 _ _ eG3), by unfold kyS; rw [List.getElem?_map, List.getElem?_map, List.getElem?_map, List.getElem?_eq_getElem hi]; rfl⟩
    · rintro σ J ⟨v3, s1, _⟩
      exact ⟨_, SqL.of (s1 _ _ eG3), by unfold kyS; rw [List.length_map, List.length_map, List.length_map]; exact Nat.le_refl _⟩
    · rintro i σ J z J' hi ⟨v3, s1, rfl⟩ ⟨rfl, hz⟩
      have hz := hz _ (SqL.of (s1 _ _ eG3))
      unfold kyS at hz
      rw [List.getElem?_map, List.getElem?_map, List.getElem?_map, List.getElem?_eq_getElem hi] at hz
      obtain rfl : V.str (S [st.pu[i].1]) = z := Option.some.inj hz
      clear hz
      have ec : cn st.pu st.pu[i].1 = some st.pu[i].2 := cn_nd nd (List.getElem_mem hi)
      have pc := par _ (List.mem_map.mpr ⟨_, List.getElem_mem hi, rfl⟩)
      generalize st.pu[i].1 = c at ec pc ⊢
      generalize st.pu[i].2 = n at ec ⊢
      have dN := pu_get (s1 _ _ hN9) ec
      have dD := pu_get (s1 _ _ hD9) ec
      walk_at "go"
      refine ⟨N, _, rfl, dN, ?_⟩
      walk_at "go"
      refine ⟨D, _, rfl, dD, ?_⟩
      walk_at "go"
      refine ⟨x, dy, _, rfl, s1 _ _ (s69 _ _ hx), rfl, ?_⟩
      walk_at "go"
      refine ⟨x, q, c, n, st, o, past, rfl, (pl.mono s69).mono s1, pc, ec, ?_⟩
      walk_at "go"
      refine ⟨D, _, rfl, dD, ?_⟩
      walk_at "go"
      exact ⟨_, s1, rfl⟩
    · rintro σ J ⟨v3, s1, rfl⟩
      walk_at "go"
      exact qq _ (s69.trans s1)
def spSd (CY : Addr) (k : Cs) (K : PySem.W.Frag) : Sp := fun vs H Q _ => ∃ (x q R D E M : Addr) (us bs : List Addr) (st : Pst) (o : Ou) (past : List (Mv × Pst)) (z : Str), vs = [.ref x, .ref R, .ref D, .ref E, .ref M, .str z] ∧ PlAt CY k K H x q st past o ∧ H R = some (.lst (us.map V.ref)) ∧ LmAt H st.row us ∧ H D = some (.dK (pk st.pu)) ∧ H E = some (.lst (hapV st.hap)) ∧ H M = some (.lst (bs.map V.ref)) ∧ bs.length = past.length ∧ (∀ (i : Nat) (a : Addr) (m : Mv × Pst), bs[i]? = some a → past[i]? = some m → H a = some (.tup [.str m.1.1, .int (m.1.2 : Int)])) ∧ (st.pu.map (·.1)).Nodup ∧ (∀ c ∈ st.pu.map (·.1), c ∈ PAR) ∧ WdOk st o z ∧ EndS st o ∧ ROk st.row ∧ st.row.length ≤ 100000 ∧ st.hap.length ≤ 9900000 ∧ past.length ≤ 100000 ∧ ∀ H', Same H H' → Q (.bl true) H'
theorem ok_stands (F : FnP K "_law_stands" s_stands f fd) (pp_outcome : PrpO P w K mg base 1 CY "outcome" (spOu CY k K)) (pp_loser : PrpO P w K mg base 1 CY "loser" (spLo CY k K)) (pp_turn : PrpO P w K mg base 2 CY "turn" (spTu CY k K)) (me_row : Met P w K mg base 1 CY "row" (spRo CY k K)) (me_happened : Met P w K mg base 1 CY "happened" (spHa CY k K)) (me_moves : Met P w K mg base 1 CY "moves" (spMs CY k K)) (c_over : Cal P w K mg base 1 "_law_over" spOv) (c_says : Cal P w K mg base 1 "_law_says" spSays) (c_row : Cal P w K mg base (2 * 30 + 8) "_law_row" (spLr k K)) (c_rich : Cal P w K mg base 5 "_law_rich" (spRi CY k K)) (c_texts : Cal P w K mg base 2 "_law_texts" spLt2) (c_moves : Cal P w K mg base 2 "_law_moves" spLm2) : FnOk P w K mg base CX0 (2 * 30 + 9) f fd P_stands (spSd CY k K) := by
  refine F.ok sc_stands (fun vs H Q E h => ?_) (fun cdv A outer s H vs Q E hr h => ?_)
  · obtain ⟨x, q, R, D, E, M, us, bs, st, o, past, z, rfl, _⟩ := h
    rfl
  · obtain ⟨x, q, R, D, E0, M, us, bs, st, o, past, z, rfl, pl, hR, hL, hD, hE, hM, lb, gb, nd, par, wd, en, rok, lr, lh, lp, qq⟩ := h
    refine ⟨_, PSs.nox (pss_cons (ps_set (i := 6) sc_stands.nd rfl (by first | exact .inl rfl | exact .inr rfl) (pv 5))
      (pss_cut (ps_if (pt_val (pe_cl c_over hr (by decide) (by rfl) (pa_cons (pv 5) pa_nil))) (pss_cons (ps_set (i := 6) sc_stands.nd rfl (by first | exact .inl rfl | exact .inr rfl) pe_str)
      (pss_one (ps_if (pt_not (pt_val (pe_cl c_says hr (by decide) (by rfl) (pa_cons (pe_prp pp_outcome (pv 0) hr (by decide)) (pa_cons (pv 5) pa_nil))))) (pss_one (ps_ret pe_bl)) pss_nil))) (pss_one (ps_if (pt_cmpR op_notN (pe_prp pp_outcome (pv 0) hr (by decide)) pe_non (nomark _)) (pss_one (ps_ret pe_bl)) pss_nil)))
      (pss_cut (ps_if (PW.pt (pw_and (pt_cmpR op_eq (pv 5) pe_str (nomark _)) (pw_and1 (pt_not (pt_val (pe_cl c_says hr (by decide) (by rfl) (pa_cons (pe_prp pp_loser (pv 0) hr (by decide)) (pa_cons (pe_ix ix_tup (pe_ix ix_list (pe_ix ix_list (pv 1) pe_int (fun _ _ => rfl)) pe_int (fun _ _ => rfl)) pe_int (fun _ _ => rfl)) pa_nil)))))))) (pss_one (ps_ret pe_bl)) pss_nil)
      (pss_cut (ps_if (PW.pt (pw_and (pt_cmpR op_ne (pv 5) pe_str (nomark _)) (pw_and1 (pt_cmpR op_notN (pe_prp pp_loser (pv 0) hr (by decide)) pe_non (nomark _))))) (pss_one (ps_ret pe_bl)) pss_nil)
      (pss_cons (ps_if (PW.pt (pw_or (pt_not (pt_val (pe_cl c_says hr (by decide) (by rfl) (pa_cons (pe_prp pp_turn (pv 0) hr (by decide)) (pa_cons (pv 6) pa_nil))))) (pw_or (pt_not (pt_val (pe_cl c_row hr (by decide) (by rfl) (pa_cons (pe_me0 me_row (pv 0) hr (by decide)) (pa_cons (pv 1) pa_nil))))) (pw_or1 (pt_not (pt_val (pe_cl c_rich hr (by decide) (by rfl) (pa_cons (pv 0) (pa_cons (pv 2) pa_nil))))))))) (pss_one (ps_ret pe_bl)) pss_nil)
      (pss_one (ps_ret (pe_and (pe_cl c_texts hr (by decide) (by rfl) (pa_cons (pe_me0 me_happened (pv 0) hr (by decide)) (pa_cons (pv 3) pa_nil))) (pe_one (pe_cl c_moves hr (by decide) (by rfl) (pa_cons (pe_me0 me_moves (pv 0) hr (by decide)) (pa_cons (pv 4) pa_nil)))))))))))), ?_⟩
    obtain ⟨dy, D0, R0, L0, hx⟩ := pl.ins
    walk_at "go"
    refine ⟨fun σ J => J = H ∧ σ = [some (.ref x), some (.ref R), some (.ref D), some (.ref E0), some (.ref M), some (.str z), some (tuV st o)], ?_, ?_⟩
    · walk_at "go"
      refine ⟨z, st, o, rfl, wd, ?_⟩
      cases o with
      | go =>
        obtain ⟨p, l, r, er, em⟩ := id wd
        walk_at "go"
        refine ⟨x, dy, _, rfl, hx, ?_⟩
        refine ⟨x, q, st, .go, past, rfl, pl, ?_⟩
        walk_at "go"
        have et : tuV st .go = .str z := by
          unfold tuV
          dsimp only
          rw [er]
          exact em
        rw [et]
        rfl
      | done =>
        have hz : z = "done" := wd
        subst hz
        walk_at "go"
        refine ⟨x, dy, _, rfl, hx, ?_⟩
        refine ⟨x, q, st, .done, past, rfl, pl, ?_⟩
        walk_at "go"
        rfl
      | cut =>
        have hz : z = "cut" := wd
        subst hz
        walk_at "go"
        refine ⟨x, dy, _, rfl, hx, ?_⟩
        refine ⟨x, q, st, .cut, past, rfl, pl, ?_⟩
        walk_at "go"
        rfl
      | fail c =>
        have hz : z = "failed" := wd
        subst hz
        walk_at "go"
        refine ⟨x, dy, _, rfl, hx, ?_⟩
        refine ⟨x, q, st, .fail c, past, rfl, pl, ?_⟩
        walk_at "go"
        rfl
    rintro σ J ⟨rfl, rfl⟩
    refine ⟨fun σ J' => J' = J ∧ σ = [some (.ref x), some (.ref R), some (.ref D), some (.ref E0), some (.ref M), some (.str z), some (tuV st o)], ?_, ?_⟩
    · walk_at "go"
      cases o with
      | go =>
        obtain ⟨p, l, r, er, em⟩ := id wd
        obtain ⟨h1, h2, h3⟩ := mv_word em
        rw [h3]
        walk_at "go"
        rfl
      | done =>
        have hz : z = "done" := wd
        subst hz
        walk_at "go"
        rfl
      | cut =>
        have hz : z = "cut" := wd
        subst hz
        walk_at "go"
        rfl
      | fail c =>
        have hz : z = "failed" := wd
        subst hz
        walk_at "go"
        refine ⟨x, dy, _, rfl, hx, ?_⟩
        refine ⟨x, q, st, .fail c, past, rfl, pl, ?_⟩
        walk_at "go"
        obtain ⟨q0, m0, l0, r0, n0, er, _⟩ := id en
        obtain ⟨pu, row, hh⟩ := st
        have er : row = (.tr c q0 m0, l0) :: r0 := er
        subst er
        obtain ⟨u, a, us', rfl, hu, ha, _⟩ := hL
        rw [DtAt] at ha
        refine ⟨R, _, _, _, rfl, rfl, SqL.of hR, at_0, ?_⟩
        walk_at "go"
        refine ⟨u, _, _, _, rfl, rfl, SqL.of hu, at_0, ?_⟩
        walk_at "go"
        refine ⟨a, _, _, _, rfl, rfl, SqT.of ha, at_1, ?_⟩
        walk_at "go"
        rfl
    rintro σ J' ⟨rfl, rfl⟩
    refine ⟨fun σ J2 => J2 = J' ∧ σ = [some (.ref x), some (.ref R), some (.ref D), some (.ref E0), some (.ref M), some (.str z), some (tuV st o)], ?_, ?_⟩
    · walk_at "go"
      cases o with
      | go =>
        obtain ⟨p, l, r, er, em⟩ := id wd
        obtain ⟨h1, h2, h3⟩ := mv_word em
        rw [h3]
        walk_at "go"
        refine ⟨x, dy, _, rfl, hx, ?_⟩
        refine ⟨x, q, st, .go, past, rfl, pl, ?_⟩
        walk_at "go"
        rfl
      | done =>
        have hz : z = "done" := wd
        subst hz
        walk_at "go"
        refine ⟨x, dy, _, rfl, hx, ?_⟩
        refine ⟨x, q, st, .done, past, rfl, pl, ?_⟩
        walk_at "go"
        rfl
      | cut =>
        have hz : z = "cut" := wd
        subst hz
        walk_at "go"
        refine ⟨x, dy, _, rfl, hx, ?_⟩
        refine ⟨x, q, st, .cut, past, rfl, pl, ?_⟩
        walk_at "go"
        rfl
      | fail c =>
        have hz : z = "failed" := wd
        subst hz
        walk_at "go"
        rfl
    rintro σ J2 ⟨rfl, rfl⟩
    obtain ⟨tz, etz⟩ : ∃ tz : Str, tuV st o = .str tz := by
      cases o with
      | go =>
        obtain ⟨p, l, r, er, em⟩ := id wd
        refine ⟨z, ?_⟩
        unfold tuV
        dsimp only
        rw [er]
        exact em
      | done => exact ⟨_, rfl⟩
      | cut => exact ⟨_, rfl⟩
      | fail c => exact ⟨_, rfl⟩
    walk_at "go"
    refine ⟨x, dy, _, rfl, hx, ?_⟩
    refine ⟨x, q, st, o, past, rfl, pl, fun e => ?_, ?_⟩
    · subst e
      obtain ⟨p, l, r, er, em⟩ := id wd
      rw [er]
      exact nofun
    rw [etz]
    walk_at "go"
    refine ⟨x, dy, _, rfl, hx, rfl, ?_⟩
    refine ⟨x, q, st, o, past, rfl, pl, fun T ts nT hmb => ?_⟩
    have s1 := same_new (o := .tup (ts.map V.ref)) nT
    have eT : (upd J2 T (.tup (ts.map V.ref))) T = some (.tup (ts.map V.ref)) := upd_same
    generalize upd J2 T (.tup (ts.map V.ref)) = H1 at s1 eT hmb
    walk_at "go"
    refine ⟨T, R, ts, us, st.row, rfl, SqT.of eT, hmb, s1 _ _ hR, hL.mono s1 _ _, rok, lr, fun H2 s2 => ?_⟩
    have s12 := s1.trans s2
    walk_at "go"
    refine ⟨x, q, D, st, o, past, rfl, pl.mono s12, s12 _ _ hD, nd, par, fun H3 s3 => ?_⟩
    have s13 := s12.trans s3
    walk_at "go"
    refine ⟨x, dy, _, rfl, s13 _ _ hx, rfl, ?_⟩
    refine ⟨x, q, st, o, past, rfl, pl.mono s13, ?_⟩
    intro U nU
    generalize eH_ : upd H3 U _ = H4
    have s4 : Same H3 H4 := by rw [← eH_]; exact same_new nU
    have eU : H4 U = some (.tup (hapV st.hap)) := by rw [← eH_]; exact upd_same
    clear eH_
    have s14 := s13.trans s4
    walk_at "go"
    refine ⟨U, E0, st.hap, rfl, eU, s14 _ _ hE, by omega, fun H5 s5 => ?_⟩
    have s15 := s14.trans s5
    walk_at "go"
    refine ⟨x, dy, _, rfl, s15 _ _ hx, rfl, ?_⟩
    refine ⟨x, q, st, o, past, rfl, pl.mono s15, lp, fun W as H6 s6 eW lW gW => ?_⟩
    have s16 := s15.trans s6
    walk_at "go"
    refine ⟨W, M, as, bs, past.map (·.1), rfl, eW, s16 _ _ hM, by rw [List.length_map, lW], by rw [List.length_map, lb], fun i a m h1 h2 => ?_, fun i a m h1 h2 => ?_, by rw [List.length_map]; exact lp, fun H7 s7 => ?_⟩
    · rw [List.getElem?_map] at h2
      obtain ⟨⟨m', st'⟩, e1, rfl⟩ := Option.map_eq_some_iff.mp h2
      exact gW i a m' st' h1 e1
    · rw [List.getElem?_map] at h2
      obtain ⟨m', e1, rfl⟩ := Option.map_eq_some_iff.mp h2
      exact s16 _ _ (gb i a m' h1 e1)
    · walk_at "go"
      exact qq _ (s16.trans s7)
end
end Z
set_option pp.maxSteps 700
set_option Elab.async false
set_option linter.all false
set_option maxRecDepth 100000
set_option maxHeartbeats 4000000
open SX (S S_inj S_len S_cat)
namespace Z
open Pk NdefX
open PySem PySem.Spec PyProof.Rows L2
open C8 (pss_cut tCut)
local macro_rules | `(tactic| walk_at "num") => `(tactic| first | rfl | omega | decide | exact Nat.le_of_lt (small1000 (by simp)) | exact ⟨by omega, by omega⟩ | exact ⟨by omega, by omega, by omega⟩ | exact ⟨by decide, by decide, by decide⟩ | exact Or.inl ⟨by omega, by omega⟩ | exact Or.inr ⟨by omega, by omega⟩)
local macro_rules | `(tactic| walk_at "go") => `(tactic| repeat (first | refine ⟨_, rfl, ?_⟩ | refine ⟨_, _, rfl, rfl, ?_⟩ | refine ⟨_, _, rfl, ?_⟩ | (refine ⟨_, _, rfl, rfl, ?_, ?_⟩; focus walk_at "num") | refine Or.inl ⟨_, rfl, ?_⟩ | refine ⟨_, _, _, _, rfl, rfl, (by assumption), (by rfl), ?_⟩ | refine ⟨_, _, _, _, _, rfl, (by assumption), (by assumption), (by assumption), (by rfl), ?_⟩ | refine ⟨rfl, ?_⟩ | (refine And.intro ?_ ?_; focus walk_at "num")))
abbrev s_right : Stmt := topS 80
abbrev N_right : List Str := ["_law_game_here"]
abbrev P_right : List Str := ["_law_game_here"]
theorem sc_right : FnScope N_right P_right (defScope s_right) := ⟨rfl, rfl, rfl, by decide +kernel, rfl, by decide +kernel, by decide +kernel⟩
abbrev s_go : Stmt := topS 81
abbrev N_go : List Str := ["_law_game_here", "_law_draw", "_law_row_here", "_law_number_here", "_law_move_here", "_law_play", "_law_back"]
abbrev P_go : List Str := ["_law_game_here", "_law_draw"]
theorem sc_go : FnScope N_go P_go (defScope s_go) := ⟨rfl, rfl, rfl, by decide +kernel, rfl, by decide +kernel, by decide +kernel⟩
theorem stl_det {a b : Pst} {o : Ou} (h : Stl a b o) : ∀ {b' : Pst} {o' : Ou}, Stl a b' o' → b = b' ∧ o = o' := by
  induction h with
  | done =>
    intro b' o' g
    cases g
    exact ⟨rfl, rfl⟩
  | cut =>
    intro b' o' g
    cases g with
    | cut => exact ⟨rfl, rfl⟩
    | last h _ => cases h
    | wait _ h => exact absurd rfl h
  | last h1 _ ih =>
    intro b' o' g
    cases g with
    | cut => cases h1
    | last _ g => exact ih g
    | wait _ h => exact absurd rfl h
    | fail h _ _ => exact absurd rfl h
    | tr h _ _ _ _ => exact absurd rfl h
    | ev h _ => exact absurd rfl h
    | ti h _ => exact absurd rfl h
  | wait h1 h2 =>
    intro b' o' g
    cases g with
    | cut => exact absurd rfl h2
    | last _ _ => exact absurd rfl h2
    | wait _ _ => exact ⟨rfl, rfl⟩
    | fail _ _ _ => cases h1
    | tr _ _ _ _ _ => cases h1
    | ev _ _ => cases h1
    | ti _ _ => cases h1
  | fail h1 h2 h3 =>
    intro b' o' g
    cases g with
    | last _ _ => exact absurd rfl h1
    | wait h _ => cases h
    | fail _ _ _ => exact ⟨rfl, rfl⟩
    | tr _ g2 g3 _ _ =>
      rw [h2] at g2
      cases g2
      omega
  | tr h1 h2 h3 h4 _ ih =>
    intro b' o' g
    cases g with
    | last _ _ => exact absurd rfl h1
    | wait h _ => cases h
    | fail _ g2 g3 =>
      rw [h2] at g2
      cases g2
      omega
    | tr _ g2 g3 g4 g =>
      rw [h2] at g2
      cases g2
      rw [h4] at g4
      cases g4
      exact ih g
  | ev h1 _ ih =>
    intro b' o' g
    cases g with
    | last _ _ => exact absurd rfl h1
    | wait h _ => cases h
    | ev _ g => exact ih g
  | ti h1 _ ih =>
    intro b' o' g
    cases g with
    | last _ _ => exact absurd rfl h1
    | wait h _ => cases h
    | ti _ g => exact ih g
theorem res_det {ks : List Nat} {N : Nat} {st a b : Pst} {o p q : Ou} (h : Res ks N st o a p) (g : Res ks N st o b q) : a = b ∧ p = q := by
  obtain ⟨_, h⟩ := h
  obtain ⟨_, g⟩ := g
  cases o with
  | go => exact stl_det h g
  | done =>
    obtain ⟨rfl, rfl⟩ := h
    obtain ⟨rfl, rfl⟩ := g
    exact ⟨rfl, rfl⟩
  | cut =>
    obtain ⟨rfl, rfl⟩ := h
    obtain ⟨rfl, rfl⟩ := g
    exact ⟨rfl, rfl⟩
  | fail c =>
    obtain ⟨rfl, rfl⟩ := h
    obtain ⟨rfl, rfl⟩ := g
    exact ⟨rfl, rfl⟩
theorem stl_en {st st' : Pst} {o : Ou} (h : Stl st st' o) : EndS st' o := by
  induction h with
  | done => rfl
  | cut => exact ⟨_, _, _, rfl⟩
  | last _ _ ih => exact ih
  | wait h _ => exact ⟨_, _, _, rfl, h⟩
  | fail _ h2 h3 => exact ⟨_, _, _, _, _, rfl, h2, h3⟩
  | tr _ _ _ _ _ ih => exact ih
  | ev _ _ ih => exact ih
  | ti _ _ ih => exact ih
/-- what a move does to a state -/
theorem mvd_all {ks : List Nat} {N : Nat} {lp : List Pt} {pu : Pu} {h : List Pt} {p : Pt} {l : Option Nat} {r : List Mb} {n : Nat} {st' : Pst} {o' : Ou} (hm : (mover p).isSome = true) (rs : RsL lp ((p, l) :: r)) (g : Res ks N (mvd pu h p l r n).1 (mvd pu h p l r n).2 st' o') : EndS st' o' ∧ RsL lp st'.row := by
  by_cases c : isEn p = true ∧ n = 0
  · obtain ⟨c1, rfl⟩ := c
    cases p with
    | en b =>
      obtain ⟨_, rfl, rfl⟩ := g
      exact ⟨⟨_, _, _, rfl⟩, rs⟩
    | _ => cases c1
  · rw [mvd_eq pu h p l r n hm c] at g
    obtain ⟨_, g⟩ := g
    exact ⟨stl_en g, stl_rs g (RsL.front rs rfl (rs_chs p n))⟩
/-! ### a game: the program's play and the law's own -/
structure Gm where
  G : Addr
  x : Addr
  q : Addr
  R : Addr
  D : Addr
  E : Addr
  M : Addr
  st : Pst
  o : Ou
  past : List (Mv × Pst)
  z : Str
def Gm.ad (g : Gm) : List Addr := [g.G, g.x, g.q, g.R, g.D, g.E, g.M]
structure GmS (CY : Addr) (k : Cs) (K : PySem.W.Frag) (H : Hp) (S : List Addr) (ks : List Nat) (l : List Pt) (n : Nat) (g : Gm) : Prop where
  gl : H g.G = some (.lst [.ref g.x, .ref g.R, .ref g.D, .ref g.E, .ref g.M, .str g.z])
  pl : PlS CY k K H S g.x g.q g.st g.past g.o
  lw : LwS H S g.R g.D g.E g.st
  mv : ∃ bs : List Addr, H g.M = some (.lst (bs.map V.ref)) ∧ bs.length = g.past.length ∧ ∀ (i : Nat) (a : Addr) (m : Mv × Pst), bs[i]? = some a → g.past[i]? = some m → cutL H S a = some (.tup [.str m.1.1, .int (m.1.2 : Int)])
  wd : WdOk g.st g.o g.z
  en : EndS g.st g.o
  gs : GSt ks (41000 * n) g.st
  rs : RsL l g.st.row
  ln : g.past.length ≤ n
theorem GmS.mono {CY : Addr} {k : Cs} {K : PySem.W.Frag} {H H' : Hp} {S ex : List Addr} {ks : List Nat} {l : List Pt} {n : Nat} {g : Gm} (h : GmS CY k K H S ks l n g) (f : FrS S ex H H') (m : ∀ a ∈ g.ad, a ∈ S ∧ a ∉ ex) : GmS CY k K H' S ks l n g := by
  obtain ⟨h1, h2, h3, ⟨bs, h4, h5, h6⟩, h7, h8, h9, h10, h11⟩ := h
  have mG := m g.G (by simp [Gm.ad])
  have mx := m g.x (by simp [Gm.ad])
  have mq := m g.q (by simp [Gm.ad])
  have mR := m g.R (by simp [Gm.ad])
  have mD := m g.D (by simp [Gm.ad])
  have mE := m g.E (by simp [Gm.ad])
  have mM := m g.M (by simp [Gm.ad])
  exact ⟨by rw [f.k _ mG.1 mG.2, h1], h2.mono f mx.1 mq.1 mx.2 mq.2, h3.mono f mR.1 mD.1 mE.1 mR.2 mD.2 mE.2, ⟨bs, by rw [f.k _ mM.1 mM.2, h4], h5, fun i a m' e1 e2 => f.c _ _ (h6 i a m' e1 e2)⟩, h7, h8, h9, h10, h11⟩
theorem GmS.up {CY : Addr} {k : Cs} {K : PySem.W.Frag} {H : Hp} {S : List Addr} {ks : List Nat} {l : List Pt} {n m : Nat} {g : Gm} (h : GmS CY k K H S ks l n g) (le : n ≤ m) : GmS CY k K H S ks l m g := ⟨h.gl, h.pl, h.lw, h.mv, h.wd, h.en, h.gs.up (Nat.mul_le_mul_left _ le), h.rs, Nat.le_trans h.ln le⟩
section
variable {P : Program} {w : World} {K : PySem.W.Frag} {mg : Str → Option Value} {base : Heap} {f C CP CY : Addr} {k : Cs} {fd : FuncData}
def spRg (CY : Addr) (k : Cs) (K : PySem.W.Frag) : Sp := fun vs H Q _ => ∃ (g : Gm) (Sx : List Addr) (ks : List Nat) (l : List Pt) (n : Nat), vs = [.ref g.G] ∧ (∀ a ∈ g.ad, a ∈ Sx) ∧ GmS CY k K H Sx ks l n g ∧ ks.Nodup ∧ (∀ c ∈ ks, c ∈ PAR) ∧ n ≤ 200 ∧ fpL l ≤ 8999 ∧ ∀ H', Same H H' → Q (.bl true) H'
theorem ok_right (F : FnP K "_law_right" s_right f fd) (c_stands : Cal P w K mg base (2 * 30 + 9) "_law_stands" (spSd CY k K)) : FnOk P w K mg base CX0 (2 * 30 + 10) f fd P_right (spRg CY k K) := by
  refine F.ok sc_right (fun vs H Q E h => ?_) (fun cdv A outer s H vs Q E hr h => ?_)
  · obtain ⟨g, Sx, ks, l, n, rfl, _⟩ := h
    rfl
  · obtain ⟨g, Sx, ks, l, n, rfl, mS, gm, nd, par, hn, hfp, qq⟩ := h
    refine ⟨_, PSs.nox (pss_one (ps_ret (pe_and (pe_cmpR op_ne (pe_ix ix_list (pv 0) pe_int (fun _ _ => rfl)) pe_str (nomark _)) (pe_one (pe_cl c_stands hr (by decide) (by rfl) (pa_cons (pe_ix ix_list (pv 0) pe_int (fun _ _ => rfl)) (pa_cons (pe_ix ix_list (pv 0) pe_int (fun _ _ => rfl)) (pa_cons (pe_ix ix_list (pv 0) pe_int (fun _ _ => rfl)) (pa_cons (pe_ix ix_list (pv 0) pe_int (fun _ _ => rfl)) (pa_cons (pe_ix ix_list (pv 0) pe_int (fun _ _ => rfl)) (pa_cons (pe_ix ix_list (pv 0) pe_int (fun _ _ => rfl)) pa_nil))))))))))), ?_⟩
    obtain ⟨h1, h2, ⟨⟨us, hR, hL⟩, hD, hE⟩, ⟨bs, h4, h5, h6⟩, h7, h8, h9, h10, h11⟩ := gm
    have hG : SqL K H g.G _ := SqL.of h1
    have nz : (!decide (V.str g.z = V.str "changed")) = true := by
      have : decide (V.str g.z = V.str "changed") = false := by
        cases eo : g.o with
        | go =>
          rw [eo] at h7
          obtain ⟨p, l, r, _, em⟩ := h7
          cases p with
          | ch o os =>
            injection em with em
            rw [← em]
            exact nsg o (by decide +kernel)
          | rd o b =>
            injection em with em
            rw [← em]
            exact nsg o (by decide +kernel)
          | en b =>
            injection em with em
            rw [← em]
            decide +kernel
          | _ => cases em
        | done =>
          rw [eo] at h7
          rw [show g.z = "done" from h7]
          decide +kernel
        | cut =>
          rw [eo] at h7
          rw [show g.z = "cut" from h7]
          decide +kernel
        | fail c =>
          rw [eo] at h7
          rw [show g.z = "failed" from h7]
          decide +kernel
      rw [this]
      rfl
    have ax := cutL_same (H := H) (S := Sx)
    have lr : g.st.row.length ≤ 100000 := by
      have := h10.mu
      have := mu_len g.st.row
      omega
    have sz := h9.sz
    walk_at "go"
    rw [if_pos nz]
    walk_at "go"
    refine ⟨g.x, g.q, g.R, g.D, g.E, g.M, us, bs, g.st, g.o, g.past, g.z, rfl, h2.at (mS _ (by simp [Gm.ad])) (mS _ (by simp [Gm.ad])), hR, hL.mono ax _ _, hD, hE, h4, h5, fun i a m e1 e2 => ax _ _ (h6 i a m e1 e2), by rw [h9.ky]; exact nd, by rw [h9.ky]; exact par, h7, h8, h9.rok, lr, by omega, by omega, fun H' s1 => ?_⟩
    exact qq _ s1
def spGo7 (CY : Addr) (k : Cs) (K : PySem.W.Frag) : Sp := fun vs H Q _ => ∃ (g : Gm) (Sx : List Addr) (ks : List Nat) (l : List Pt) (n : Nat) (d : Int), vs = [.ref g.G, .int d] ∧ (∀ a ∈ g.ad, a ∈ Sx) ∧ g.ad.Nodup ∧ Sx.Nodup ∧ Lvs H Sx ∧ GmS CY k K H Sx ks l n g ∧ g.o = .go ∧ ks.length ≤ 1000 ∧ n ≤ 200 ∧ fpL l ≤ 8999 ∧ ∀ H' (g' : Gm), FrS Sx g.ad H H' → GmS CY k K H' Sx ks l (n + 1) g' → g'.ad = g.ad → Q .non H'
theorem ok_go (F : FnP K "_law_go" s_go f fd) (me_move : Met P w K mg base 10 CY "move" (spMve CY k K)) (c_number : Cal P w K mg base 1 "_law_number" spLnu) (c_move : Cal P w K mg base 1 "_law_move" spLmv) (c_step : Cal P w K mg base 11 "_law_step" spSp) : FnOk P w K mg base CX0 12 f fd P_go (spGo7 CY k K) := by
  refine F.ok sc_go (fun vs H Q E h => ?_) (fun cdv A outer s H vs Q E hr h => ?_)
  · obtain ⟨g, Sx, ks, l, n, d, rfl, _⟩ := h
    rfl
  · obtain ⟨g, Sx, ks, lp, n, d, rfl, mS, nd7, nS, lv, gm, go, hks, hn, hfp, qq⟩ := h
    refine ⟨_, PSs.nox (pss_cons (ps_set (i := 2) sc_go.nd rfl (by first | exact .inl rfl | exact .inr rfl) (pe_ix ix_list (pv 0) pe_int (fun _ _ => rfl)))
      (pss_cons (ps_set (i := 3) sc_go.nd rfl (by first | exact .inl rfl | exact .inr rfl) (pe_cl c_number hr (by decide) (by rfl) (pa_cons (pv 2) (pa_cons (pv 1) pa_nil))))
      (pss_cons (ps_set (i := 4) sc_go.nd rfl (by first | exact .inl rfl | exact .inr rfl) (pe_cl c_move hr (by decide) (by rfl) (pa_cons (pv 2) (pa_cons (pv 3) pa_nil))))
      (pss_cons (ps_set (i := 5) sc_go.nd rfl (by first | exact .inl rfl | exact .inr rfl) (pe_ix ix_list (pv 0) pe_int (fun _ _ => rfl)))
      (pss_cons (ps_lockD (ps_set (i := 6) sc_go.nd rfl (by first | exact .inl rfl | exact .inr rfl) (pe_me me_move (pv 5) hr (by decide) (pa_cons (pv 4) pa_nil))))
      (pss_cons (ps_expr (pe_bm PySem.F.plainAttrs_list PySem.F.slot_list_append PySem.F.type_list_append mt_append (pe_ix ix_list (pv 0) pe_int (fun _ _ => rfl)) (pa_cons (pv 4) pa_nil)))
      (pss_cons (ps_asg (pe_cl c_step hr (by decide) (by rfl) (pa_cons (pv 2) (pa_cons (pe_ix ix_list (pv 0) pe_int (fun _ _ => rfl)) (pa_cons (pe_ix ix_list (pv 0) pe_int (fun _ _ => rfl)) (pa_cons (pv 3) pa_nil))))) (pg_sub (pv 0) pe_int set_list))
      (pss_one (ps_if (pt_cmpR op_notN (pv 6) pe_non (nomark _)) (pss_one (ps_asg pe_str (pg_sub (pv 0) pe_int set_list))) pss_nil))))))))), ?_⟩
    obtain ⟨G, x, q, R, D, E0, M, st, o, past, z⟩ := g
    have mG : G ∈ Sx := mS _ (by simp [Gm.ad])
    have mx : x ∈ Sx := mS _ (by simp [Gm.ad])
    have mq : q ∈ Sx := mS _ (by simp [Gm.ad])
    have mR : R ∈ Sx := mS _ (by simp [Gm.ad])
    have mD : D ∈ Sx := mS _ (by simp [Gm.ad])
    have mE : E0 ∈ Sx := mS _ (by simp [Gm.ad])
    have mM : M ∈ Sx := mS _ (by simp [Gm.ad])
    simp only [Gm.ad, List.nodup_cons, List.mem_cons, List.not_mem_nil, not_or, or_false] at nd7
    obtain ⟨⟨d1, d2, d3, d4, d5, d6⟩, ⟨d7, d8, d9, d10, d11⟩, ⟨d12, d13, d14, d15⟩, ⟨d16, d17, d18⟩, ⟨d19, d20⟩, d21, _⟩ := nd7
    obtain rfl : o = .go := go
    obtain ⟨hG, hP, hL, ⟨bs, hM, lbs, gbs⟩, wd, ⟨p, l, r, er, hm⟩, gs, rs, ln⟩ := gm
    obtain ⟨pu, row, hh⟩ := st
    obtain rfl : row = (p, l) :: r := er
    dsimp only at hG hP hL hM lbs gbs wd gs rs ln
    obtain ⟨ts, hR, hLm⟩ := id hL.r
    have ax := cutL_same (H := H) (S := Sx)
    have okp : Ok p := (rok_hd gs.rok).1
    have hGq : SqL K H G _ := SqL.of hG
    walk_at "go"
    refine ⟨R, p, l, r, d, rfl, ⟨ts, hR, hLm.mono ax _ _⟩, hm, okp, fun n0 hno => ?_⟩
    walk_at "go"
    refine ⟨R, p, l, r, (n0 : Int), rfl, ⟨ts, hR, hLm.mono ax _ _⟩, ?_⟩
    intro T nT
    generalize eH_ : upd H T _ = H1
    have s1 : Same H H1 := by rw [← eH_]; exact same_new nT
    have eT : H1 T = some (.tup [.str (mvS p), .int (n0 : Int)]) := by rw [← eH_]; exact upd_same
    clear eH_
    have f1 := frS_of (ex := [x, q]) lv s1
    have lv1 := f1.l
    have nTS := lv.new nT
    have hG1 := s1 _ _ hG
    have hGq1 : SqL K H1 G _ := SqL.of hG1
    have hP1 : PlS CY k K H1 Sx x q ⟨pu, (p, l) :: r, hh⟩ past .go := by
      obtain ⟨dy, D, R, L, ps, h1, h2, h3, h4⟩ := hP
      exact ⟨dy, D, R, L, ps, s1 _ _ h1, s1 _ _ h2, h3.mono f1.c, h4.mono f1.c _ _⟩
    dsimp only [List.set]
    walk_at "go"
    refine lockD_of (less Sx [x, q]) (nS.filter _) (fun d hd => lv1 d (mem_less.mp hd).1) (fun H2 fz => ?_)
    have pl2 := hP1.fz mx mq fz
    have eT2 : H2 T = some (.tup [.str (mvS p), .int (n0 : Int)]) := by rw [fz.1 T (fun z => nTS (mem_less.mp z).1), eT]
    obtain ⟨dy, D0, R0, L0, hx2⟩ := pl2.ins
    walk_at "go"
    refine ⟨x, dy, _, rfl, hx2, rfl, ?_⟩
    walk_at "go"
    refine ⟨x, q, T, ks, 41000 * n, pu, hh, p, l, r, n0, past, rfl, pl2, eT2, hm, hno, gs, hks, by omega, by omega, fun H3 st' o' tw pl3 res => ?_⟩
    obtain ⟨k1, pl4, f4⟩  := lk_play (st := st') (past := past) (o := .go) lv1 mx mq fz tw pl3
    have hcut : ∀ (u : HO), H1 T = some u → (rest (less Sx [x, q]) H1 H3) T = some u := fun u e => cutL_same _ _ (f4.c _ _ (cutL_of nTS e))
    have f14 := f1.trans f4
    have eT4 := cutL_of nTS (hcut _ eT)
    walk_at "go"
    generalize rest (less Sx [x, q]) H1 H3 = H4 at pl4 f4 f14 eT4 ⊢
    clear tw pl3 k1 fz pl2 hx2 hcut eT2 hP1 hGq1
    have nin : ∀ a, a ≠ x → a ≠ q → a ∉ [x, q] := fun a h1 h2 z => by
      rcases List.mem_cons.mp z with z | z
      · exact h1 z
      · exact h2 (List.mem_singleton.mp z)
    have hG4 : H4 G = some (.lst [.ref x, .ref R, .ref D, .ref E0, .ref M, .str z]) := by rw [f14.k G mG (nin _ d1 d2), hG]
    have hGq4 : SqL K H4 G _ := SqL.of hG4
    have hM4 : H4 M = some (.lst (bs.map V.ref)) := by rw [f14.k M mM (nin _ (Ne.symm d11) (Ne.symm d15)), hM]
    have hL4 : LwS H4 Sx R D E0 ⟨pu, (p, l) :: r, hh⟩ := hL.mono f14 mR mD mE (nin _ (Ne.symm d8) (Ne.symm d12)) (nin _ (Ne.symm d9) (Ne.symm d13)) (nin _ (Ne.symm d10) (Ne.symm d14))
    have gb4 : ∀ (i : Nat) (a : Addr) (m : Mv × Pst), bs[i]? = some a → past[i]? = some m → cutL H4 Sx a = some (.tup [.str m.1.1, .int (m.1.2 : Int)]) := fun i a m e1 e2 => f14.c _ _ (gbs i a m e1 e2)
    walk_at "go"
    refine ⟨.inl ⟨rfl, _, SqL.of hM4⟩, ?_⟩
    walk_at "go"
    refine ⟨M, _, _, rfl, rfl, hM4, Nat.lt_of_le_of_lt (show (bs.map V.ref).length ≤ 1000 by rw [List.length_map]; omega) (by decide), ?_⟩
    have eq5 : upd H4 M (.lst (bs.map V.ref ++ [V.ref T])) = upd H4 M (.lst ((bs ++ [T]).map V.ref)) := by rw [List.map_append]; rfl
    rw [eq5]
    have f5 : FrS Sx [M] H4 (upd H4 M (.lst ((bs ++ [T]).map V.ref))) := frS_upd f4.l mM List.mem_cons_self
    have hM5 : (upd H4 M (.lst ((bs ++ [T]).map V.ref))) M = some (.lst ((bs ++ [T]).map V.ref)) := upd_same
    generalize upd H4 M (.lst ((bs ++ [T]).map V.ref)) = H5 at f5 hM5 ⊢
    have n1 : ∀ a, a ≠ M → a ∉ [M] := fun a h1 z => h1 (List.mem_singleton.mp z)
    have hG5 : H5 G = some (.lst [.ref x, .ref R, .ref D, .ref E0, .ref M, .str z]) := by rw [f5.k G mG (n1 _ d6), hG4]
    have hGq5 : SqL K H5 G _ := SqL.of hG5
    have hL5 := hL4.mono f5 mR mD mE (n1 _ d18) (n1 _ d20) (n1 _ d21)
    have pl5 := pl4.mono f5 mx mq (n1 _ d11) (n1 _ d15)
    have eT5 := f5.c _ _ eT4
    have gb5 : ∀ (i : Nat) (a : Addr) (m : Mv × Pst), (bs ++ [T])[i]? = some a → (past ++ [((mvS p, n0), (⟨pu, (p, l) :: r, hh⟩ : Pst))])[i]? = some m → cutL H5 Sx a = some (.tup [.str m.1.1, .int (m.1.2 : Int)]) := fun i a m e1 e2 => by
      by_cases c : i < bs.length
      · rw [List.getElem?_append_left c] at e1
        rw [List.getElem?_append_left (by omega)] at e2
        exact f5.c _ _ (gb4 i a m e1 e2)
      · have hi := (List.getElem?_eq_some_iff.mp e1).1
        rw [List.length_append] at hi
        have hi : i < bs.length + 1 := hi
        obtain rfl : i = bs.length := by omega
        rw [List.getElem?_append_right (Nat.le_refl _), Nat.sub_self] at e1
        rw [List.getElem?_append_right (by omega), lbs, Nat.sub_self] at e2
        cases e1
        cases e2
        exact eT5
    walk_at "go"
    have rs2 := RsL.front rs rfl (rs_chs p n0)
    have mu2 := rs2.mu
    have mur := mu_len r
    have emu : mu ((p, l) :: r) = ms p + mu r := by rw [mu]
    have mu1 := rs.mu
    refine ⟨R, D, E0, Sx, ks, 41000 * n, pu, hh, p, l, r, n0, rfl, ⟨mR, mD, mE, d16, d17, d19⟩, f5.l, hL5, hm, hno, gs, hks, by omega, by omega, by omega, fun H6 st2 o2 z2 f6 hL6 res2 wd2 => ?_⟩
    obtain ⟨rfl, rfl⟩ := res_det res res2
    obtain ⟨en2, rsn⟩ := mvd_all hm rs res
    have n3 : ∀ a, a ≠ R → a ≠ D → a ≠ E0 → a ∉ [R, D, E0] := fun a h1 h2 h3 z => by
      simp only [List.mem_cons, List.not_mem_nil, or_false] at z
      rcases z with z | z | z
      · exact h1 z
      · exact h2 z
      · exact h3 z
    have hG6 : H6 G = some (.lst [.ref x, .ref R, .ref D, .ref E0, .ref M, .str z]) := by rw [f6.k G mG (n3 _ d3 d4 d5), hG5]
    have hM6 : H6 M = some (.lst ((bs ++ [T]).map V.ref)) := by rw [f6.k M mM (n3 _ (Ne.symm d18) (Ne.symm d20) (Ne.symm d21)), hM5]
    have pl6 := pl5.mono f6 mx mq (n3 _ d8 d9 d10) (n3 _ d12 d13 d14)
    walk_at "go"
    rw [show ([V.ref x, V.ref R, V.ref D, V.ref E0, V.ref M, V.str z] : List V).set (Int.toNat 5) (V.str z2) = [V.ref x, V.ref R, V.ref D, V.ref E0, V.ref M, V.str z2] from rfl]
    have f7 : FrS Sx [G] H6 (upd H6 G (.lst [.ref x, .ref R, .ref D, .ref E0, .ref M, .str z2])) := frS_upd f6.l mG List.mem_cons_self
    have hG7 : (upd H6 G (.lst [.ref x, .ref R, .ref D, .ref E0, .ref M, .str z2])) G = some (.lst [.ref x, .ref R, .ref D, .ref E0, .ref M, .str z2]) := upd_same
    generalize upd H6 G (.lst [.ref x, .ref R, .ref D, .ref E0, .ref M, .str z2]) = H7 at f7 hG7 ⊢
    have n7 : ∀ a, a ≠ G → a ∉ [G] := fun a h1 z => h1 (List.mem_singleton.mp z)
    walk_at "go"
    refine qq H7 ⟨G, x, q, R, D, E0, M, st', o', past ++ [((mvS p, n0), ⟨pu, (p, l) :: r, hh⟩)], z2⟩ ?_ ?_ rfl
    · refine ((((f14.wk fun a ha => ?_).trans (f5.wk fun a ha => ?_)).trans (f6.wk fun a ha => ?_)).trans (f7.wk fun a ha => ?_))
      · simp only [Gm.ad, List.mem_cons, List.not_mem_nil, or_false] at ha ⊢
        rcases ha with rfl | rfl <;> simp
      · simp only [Gm.ad, List.mem_cons, List.not_mem_nil, or_false] at ha ⊢
        rcases ha with rfl <;> simp
      · simp only [Gm.ad, List.mem_cons, List.not_mem_nil, or_false] at ha ⊢
        rcases ha with rfl | rfl | rfl <;> simp
      · simp only [Gm.ad, List.mem_cons, List.not_mem_nil, or_false] at ha ⊢
        rcases ha with rfl <;> simp
    · exact ⟨hG7, pl6.mono f7 mx mq (n7 _ (Ne.symm d1)) (n7 _ (Ne.symm d2)), hL6.mono f7 mR mD mE (n7 _ (Ne.symm d3)) (n7 _ (Ne.symm d4)) (n7 _ (Ne.symm d5)), ⟨bs ++ [T], by rw [f7.k M mM (n7 _ (Ne.symm d6)), hM6], by rw [List.length_append, List.length_append, lbs]; rfl, fun i a m e1 e2 => f7.c _ _ (f6.c _ _ (gb5 i a m e1 e2))⟩, wd2, en2, by rw [Nat.mul_add]; exact res.1, rsn, by rw [List.length_append]; exact Nat.succ_le_succ ln⟩
end
end Z
set_option pp.maxSteps 700
set_option Elab.async false
set_option linter.all false
set_option maxRecDepth 100000
set_option maxHeartbeats 4000000
open SX (S S_inj S_len S_cat)
namespace Z
open Pk NdefX
open PySem PySem.Spec PyProof.Rows L2
open C8 (pss_cut tCut)
local macro_rules | `(tactic| walk_at "num") => `(tactic| first | rfl | omega | decide | exact Nat.le_of_lt (small1000 (by simp)) | exact ⟨by omega, by omega⟩ | exact ⟨by omega, by omega, by omega⟩ | exact ⟨by decide, by decide, by decide⟩ | exact Or.inl ⟨by omega, by omega⟩ | exact Or.inr ⟨by omega, by omega⟩)
local macro_rules | `(tactic| walk_at "go") => `(tactic| repeat (first | refine ⟨_, rfl, ?_⟩ | refine ⟨_, _, rfl, rfl, ?_⟩ | refine ⟨_, _, rfl, ?_⟩ | (refine ⟨_, _, rfl, rfl, ?_, ?_⟩; focus walk_at "num") | refine Or.inl ⟨_, rfl, ?_⟩ | refine ⟨_, _, _, _, rfl, rfl, (by assumption), (by rfl), ?_⟩ | refine ⟨_, _, _, _, _, rfl, (by assumption), (by assumption), (by assumption), (by rfl), ?_⟩ | refine ⟨rfl, ?_⟩ | (refine And.intro ?_ ?_; focus walk_at "num")))
section
variable {P : Program} {w : World} {K : PySem.W.Frag} {mg : Str → Option Value} {base : Heap} {f C CP CY : Addr} {k : Cs} {fd : FuncData}
def spNp (CY : Addr) (k : Cs) (K : PySem.W.Frag) : Sp := fun vs H Q _ => ∃ (p d : Addr) (l : List Pt) (pu : Pu) (ks : List Nat), vs = [.ref p, .ref d] ∧ PaAt k K H l p ∧ H d = some (.dK (pk pu)) ∧ (∀ x ∈ pu, x.1 ∈ PAR) ∧ (∀ c ∈ PAR, c ∈ txB l → (cn pu c).isSome = true) ∧ OkL l ∧ wtL l ≤ 400 ∧ dpL l ≤ 30 ∧ NmL ks l ∧ pu.map (·.1) = ks ∧ ks.length ≤ 1000 ∧ ∀ (x q : Addr) st o H', Same H (cut2 H' x q) → H x = none → PlAt CY k K H' x q st [] o → Stl ⟨pu, mbs l, []⟩ st o → GSt ks 40800 st → Q (.ref x) H'
theorem mak_play {si : FnOk P w K mg base CX0 10 f fd P_Play___init__ (spPi CY k K)} (M : Mk K CY f) (hm : mg "Play" = some (.ref CY)) (hb : Binds K fd P_Play___init__ []) : Mak P w K mg base 10 "Play" (spNp CY k K) := by
  refine ⟨CY, f, fd, _, _, M, si, hm, hb, ?_⟩
  rintro vs H Q E ⟨p, d, l, pu, ks, rfl, hp, hd, h1, h2, h3, h4, h5, h6, h7, h8, qq⟩ n dx n1 n2 n3
  have s1 : Same H (upd (upd H dx (.own n)) n (.ins CY dx [])) := Z.Same.mut (same_new n2) n1
  refine ⟨n, dx, p, d, l, pu, ks, rfl, upd_same, hp.mono s1, s1 _ _ hd, h1, h2, h3, h4, h5, h6, h7, h8, fun H' q st o keep nq pl stl gs => ⟨rfl, qq n q st o H' (fun a u e => ?_) n1 pl stl gs⟩⟩
  have an := ne_of_none e n1
  exact cut2_of an (ne_of_none (s1 _ _ e) nq) (keep a u an (s1 _ _ e))
end
end Z
set_option pp.maxSteps 700
set_option Elab.async false
set_option linter.all false
set_option maxRecDepth 100000
set_option maxHeartbeats 4000000
open SX (S S_inj S_len S_cat)
namespace Z
open Pk NdefX
open PySem PySem.Spec PyProof.Rows L2
open C8 (pss_cut tCut)
local macro_rules | `(tactic| walk_at "num") => `(tactic| first | rfl | omega | decide | exact Nat.le_of_lt (small1000 (by simp)) | exact ⟨by omega, by omega⟩ | exact ⟨by omega, by omega, by omega⟩ | exact ⟨by decide, by decide, by decide⟩ | exact Or.inl ⟨by omega, by omega⟩ | exact Or.inr ⟨by omega, by omega⟩)
local macro_rules | `(tactic| walk_at "go") => `(tactic| repeat (first | refine ⟨_, rfl, ?_⟩ | refine ⟨_, _, rfl, rfl, ?_⟩ | refine ⟨_, _, rfl, ?_⟩ | (refine ⟨_, _, rfl, rfl, ?_, ?_⟩; focus walk_at "num") | refine Or.inl ⟨_, rfl, ?_⟩ | refine ⟨_, _, _, _, rfl, rfl, (by assumption), (by rfl), ?_⟩ | refine ⟨_, _, _, _, _, rfl, (by assumption), (by assumption), (by assumption), (by rfl), ?_⟩ | refine ⟨rfl, ?_⟩ | (refine And.intro ?_ ?_; focus walk_at "num")))
abbrev s_game : Stmt := topS 79
abbrev N_game : List Str := ["_law_built", "_law_pact_here", "_law_purses_here", "_law_row_here", "_law_due", "_law_happened", "_law_handed", "_law_play", "_law_state", "_law_party"]
abbrev P_game : List Str := ["_law_built", "_law_pact_here", "_law_purses_here"]
theorem sc_game : FnScope N_game P_game (defScope s_game) := ⟨rfl, rfl, rfl, by decide +kernel, rfl, by decide +kernel, by decide +kernel⟩
theorem cutL_ext {H H' : Hp} {S S' : List Addr} (s : Same H H') (sub : ∀ a ∈ S', a ∈ S ∨ H a = none) : Same (cutL H S) (cutL H' S') := fun a o e => by
  obtain ⟨e1, e2⟩ := cutL_some e
  refine cutL_of (fun m => ?_) (s _ _ e2)
  rcases sub a m with h | h
  · exact e1 h
  · rw [h] at e2
    cases e2
section
variable {P : Program} {w : World} {K : PySem.W.Frag} {mg : Str → Option Value} {base : Heap} {f C CP CY : Addr} {k : Cs} {fd : FuncData}
/-- a new play, made while all of S was locked -/
theorem lk_make {S : List Addr} {H H2 H3 : Hp} {x q : Addr} {st : Pst} {past : List (Mv × Pst)} {o : Ou} (lv : Lvs H S) (fz : Frzd S H H2) (sm : Same H2 (cut2 H3 x q)) (nx : H2 x = none) (pl : PlAt CY k K H3 x q st past o) :
    (∀ d ∈ S, H3 d = H2 d) ∧ H x = none ∧ H q = none ∧ x ≠ q ∧ Same H (rest S H H3) ∧ (∃ u, rest S H H3 x = some u ∧ Mut (some u)) ∧ (∃ u, rest S H H3 q = some u ∧ Mut (some u)) ∧ ∀ S', (∀ a ∈ S', a ∈ S ∨ a = x ∨ a = q) → PlS CY k K (rest S H H3) S' x q st past o := by
  obtain ⟨dy, D, R, L, ps, h1, h2, h3, h4⟩ := pl
  have nq : H2 q = none := by
    cases e : H2 q with
    | none => rfl
    | some u =>
      have z := sm _ _ e
      unfold cut2 at z
      rw [if_pos (.inr rfl)] at z
      cases z
  have k1 : ∀ d ∈ S, H3 d = H2 d := fun d hd => by
    obtain ⟨od, u, e1, e2⟩ := fz.2 d hd
    rw [e2]
    exact (cut2_some (sm _ _ e2)).2.2
  have xS : x ∉ S := fun m => by
    obtain ⟨od, u, e1, e2⟩ := fz.2 x m
    rw [e2] at nx
    cases nx
  have qS : q ∉ S := fun m => by
    obtain ⟨od, u, e1, e2⟩ := fz.2 q m
    rw [e2] at nq
    cases nq
  have rs : ∀ a, a ∉ S → rest S H H3 a = H3 a := fun a ha => by
    unfold rest
    rw [if_neg ha]
  have rs2 : ∀ a, a ∈ S → rest S H H3 a = H a := fun a ha => by
    unfold rest
    rw [if_pos ha]
  refine ⟨k1, by rw [← fz.1 x xS, nx], by rw [← fz.1 q qS, nq], fun e => ?_, fun a u e => ?_, ⟨.ins CY dy (plF D R L q o), by rw [rs x xS, h1], True.intro⟩, ⟨.lst (ps.map V.ref), by rw [rs q qS, h2], True.intro⟩, fun S' hS => ?_⟩
  · rw [e, h2] at h1
    cases h1
  · by_cases m : a ∈ S
    · rw [rs2 a m, e]
    · rw [rs a m]
      exact (cut2_some (sm a u (by rw [fz.1 a m, e]))).2.2
  · have sx : SmX (cut2 H3 x q) (cutL (rest S H H3) S') := fun a u e nz => by
      obtain ⟨e1, e2, e3⟩ := cut2_some e
      have na : a ∉ S := fun m => by
        obtain ⟨od, v, g1, g2⟩ := fz.2 a m
        rw [k1 a m, g2] at e3
        cases e3
        obtain ⟨xs, ev⟩ := nz od v rfl
        obtain ⟨w, e5, mu⟩ := lv a m
        rw [g1, ev] at e5
        cases e5
        cases mu
      refine cutL_of (fun m => ?_) (by rw [rs a na, e3])
      rcases hS a m with z | z | z
      · exact na z
      · exact e1 z
      · exact e2 z
    exact ⟨dy, D, R, L, ps, by rw [rs x xS, h1], by rw [rs q qS, h2], StAt.monoX sx h3, PastAt.monoX sx _ _ h4⟩
def spGm (CY : Addr) (k : Cs) (K : PySem.W.Frag) : Sp := fun vs H Q _ => ∃ (B Lp PD : Addr) (S0 : List Addr) (l : List Pt) (pu : Pu) (ks : List Nat), vs = [.ref B, .ref Lp, .ref PD] ∧ PaAt k K (cutL H S0) l B ∧ DaAt (cutL H S0) l Lp ∧ cutL H S0 PD = some (.dK (pk pu)) ∧ Lvs H S0 ∧ S0.Nodup ∧ (∀ c ∈ PAR, c ∈ txB l → (cn pu c).isSome = true) ∧ OkL l ∧ wtL l ≤ 400 ∧ dpL l ≤ 30 ∧ NmL ks l ∧ pu.map (·.1) = ks ∧ ks.Nodup ∧ (∀ c ∈ ks, c ∈ PAR) ∧ fpL l ≤ 8999 ∧ ∀ (g : Gm) H', (∀ a ∈ g.ad, H a = none) → g.ad.Nodup → Same (cutL H S0) (cutL H' (S0 ++ g.ad)) → (∀ a ∈ S0, H' a = H a) → Lvs H' (S0 ++ g.ad) → GmS CY k K H' (S0 ++ g.ad) ks l 1 g → Q (.ref g.G) H'
theorem ok_game (F : FnP K "_law_game" s_game f fd) (m_dict : mg "dict" = none) (k_Play : Mak P w K mg base 10 "Play" (spNp CY k K)) (c_members : Cal P w K mg base 1 "_law_members" spLm) (c_settled : Cal P w K mg base 10 "_law_settled" spSe) : FnOk P w K mg base CX0 12 f fd P_game (spGm CY k K) := by
  refine F.ok sc_game (fun vs H Q E h => ?_) (fun cdv A outer s H vs Q E hr h => ?_)
  · obtain ⟨B, Lp, PD, S0, l, pu, ks, rfl, _⟩ := h
    rfl
  · obtain ⟨B, Lp, PD, S0, l, pu, ks, rfl, hB, ⟨as, hLp, hD⟩, hPD, lv, nS, cov, okl, hw, hd, nm, ky, nd, par, hfp, qq⟩ := h
    refine ⟨_, PSs.nox (pss_cons (ps_set (i := 3) sc_game.nd rfl (by first | exact .inl rfl | exact .inr rfl) (pe_cl c_members hr (by decide) (by rfl) (pa_cons (pv 1) pa_nil)))
      (pss_cons (ps_set (i := 4) sc_game.nd rfl (by first | exact .inl rfl | exact .inr rfl) (pe_callTy call_dictD (by rfl) m_dict (by decide +kernel) (pa_cons (pv 2) pa_nil)))
      (pss_cons (ps_set (i := 5) sc_game.nd rfl (by first | exact .inl rfl | exact .inr rfl) (pe_lst pa_nil))
      (pss_cons (ps_set (i := 6) sc_game.nd rfl (by first | exact .inl rfl | exact .inr rfl) (pe_callTy call_dictD (by rfl) m_dict (by decide +kernel) (pa_cons (pv 2) pa_nil)))
      (pss_cons (ps_lockD (ps_set (i := 7) sc_game.nd rfl (by first | exact .inl rfl | exact .inr rfl) (pe_mk k_Play hr (by decide) (by rfl) (pa_cons (pv 0) (pa_cons (pv 6) pa_nil)))))
      (pss_cons (ps_set (i := 8) sc_game.nd rfl (by first | exact .inl rfl | exact .inr rfl) (pe_cl c_settled hr (by decide) (by rfl) (pa_cons (pv 3) (pa_cons (pv 4) (pa_cons (pv 5) pa_nil)))))
      (pss_cons (ps_if (PW.pt (pw_or (pt_cmpR (op_ne_dictA (Nat.lt_of_succ_lt (hu_of hr))) (pv 6) (pv 2) (nomark _)) (pw_or1 (pt_cmpR (op_neD hr.units) (pe_lock (pe_lc (own := [("_law_party", 9)]) (g := (gName 9)) (tt := tYes) (by rfl) sc_game.nd (pi_keys (pv 6)) (blkOk_by (own := [("_law_party", 9)]) (N := N_game) (sc := defScope s_game) (by decide +kernel)) (fun _ _ _ _ _ => (pg_name (i := 9) sc_game.nd rfl (by first | exact .inl rfl | exact .inr rfl))) (fun _ _ _ _ _ => pts_nil) (fun _ _ _ _ _ => (pv 9)))) (pe_lock (pe_lc (own := [("_law_party", 9)]) (g := (gName 9)) (tt := tYes) (by rfl) sc_game.nd (pi_keys (pv 2)) (blkOk_by (own := [("_law_party", 9)]) (N := N_game) (sc := defScope s_game) (by decide +kernel)) (fun _ _ _ _ _ => (pg_name (i := 9) sc_game.nd rfl (by first | exact .inl rfl | exact .inr rfl))) (fun _ _ _ _ _ => pts_nil) (fun _ _ _ _ _ => (pv 9)))) (nomark _))))) (pss_one (ps_set (i := 8) sc_game.nd rfl (by first | exact .inl rfl | exact .inr rfl) pe_str)) pss_nil)
      (pss_one (ps_ret (pe_lst (pa_cons (pv 7) (pa_cons (pv 3) (pa_cons (pv 4) (pa_cons (pv 5) (pa_cons (pe_lst pa_nil) (pa_cons (pv 8) pa_nil)))))))))))))))), ?_⟩
    have ax := cutL_same (H := H) (S := S0)
    have la := DtsAt.len _ _ hD
    have ll := len_wt l
    have lk : ks.length ≤ 1000 := Nat.le_trans (nd.length_le_of_subset (fun c hc => par c hc)) (by decide)
    have lpu : pu.length ≤ 1000 := by
      have := congrArg List.length ky
      rw [List.length_map] at this
      omega
    walk_at "go"
    refine ⟨Lp, as, rfl, ax _ _ hLp, by omega, fun R ts H1 s1 nR eR lt hG => ?_⟩
    have hPD1 := s1 _ _ (ax _ _ hPD)
    walk_at "go"
    refine ⟨PD, _, rfl, .inl hPD1, ?_⟩
    intro D nD
    generalize eH_ : upd H1 D _ = H2
    have s2 : Same H1 H2 := by rw [← eH_]; exact same_new nD
    have eD : H2 D = some (.dK (pk pu)) := by rw [← eH_]; exact upd_same
    clear eH_
    walk_at "go"
    intro E0 nE0
    generalize eH_ : upd H2 E0 _ = H3
    have s3 : Same H2 H3 := by rw [← eH_]; exact same_new nE0
    have eE0 : H3 E0 = some (.lst []) := by rw [← eH_]; exact upd_same
    clear eH_
    walk_at "go"
    refine ⟨PD, _, rfl, .inl ((s2.trans s3) _ _ hPD1), ?_⟩
    intro HD nHD
    generalize eH_ : upd H3 HD _ = H4
    have s4 : Same H3 H4 := by rw [← eH_]; exact same_new nHD
    have eHD : H4 HD = some (.dK (pk pu)) := by rw [← eH_]; exact upd_same
    clear eH_
    dsimp only [List.set]
    walk_at "go"
    have s14 := (s2.trans s3).trans s4
    have s04 := s1.trans s14
    have nD0 : H D = none := Same.back s1 nD
    have nE0' : H E0 = none := Same.back (s1.trans s2) nE0
    have nHD0 : H HD = none := Same.back ((s1.trans s2).trans s3) nHD
    have eR4 := s14 _ _ eR
    have eD4 := s4 _ _ (s3 _ _ eD)
    have eE4 := s4 _ _ eE0
    have rd : R ≠ D := ne_of_none eR nD
    have re : R ≠ E0 := ne_of_none (s2 _ _ eR) nE0
    have de : D ≠ E0 := ne_of_none eD nE0
    have hS1 : ∀ a ∈ S0 ++ [R, D, E0], a ∈ S0 ∨ H a = none := fun a ha => by
      rcases List.mem_append.mp ha with ha | ha
      · exact .inl ha
      · simp only [List.mem_cons, List.not_mem_nil, or_false] at ha
        rcases ha with rfl | rfl | rfl
        · exact .inr nR
        · exact .inr nD0
        · exact .inr nE0'
    have lv4 : Lvs H4 (S0 ++ [R, D, E0]) := fun a ha => by
      rcases List.mem_append.mp ha with ha | ha
      · exact lv.mono s04 a ha
      · simp only [List.mem_cons, List.not_mem_nil, or_false] at ha
        rcases ha with rfl | rfl | rfl
        · exact ⟨_, eR4, True.intro⟩
        · exact ⟨_, eD4, True.intro⟩
        · exact ⟨_, eE4, True.intro⟩
    have nd1 : (S0 ++ [R, D, E0]).Nodup := by
      refine List.nodup_append.mpr ⟨nS, by simp [rd, re, de], fun a ha b hb e => ?_⟩
      subst e
      obtain ⟨u, e1, _⟩ := lv a ha
      rcases hS1 a (List.mem_append.mpr (.inr hb)) with z | z
      · simp only [List.mem_cons, List.not_mem_nil, or_false] at hb
        rcases hb with rfl | rfl | rfl
        · rw [nR] at e1; cases e1
        · rw [nD0] at e1; cases e1
        · rw [nE0'] at e1; cases e1
      · rw [z] at e1
        cases e1
    have c4 : Same (cutL H S0) (cutL H4 (S0 ++ [R, D, E0])) := cutL_ext s04 hS1
    refine lockD_of (S0 ++ [R, D, E0]) nd1 lv4 (fun H5 fz => ?_)
    have cz : Same (cutL H4 (S0 ++ [R, D, E0])) H5 := fun a u e => by
      obtain ⟨e1, e2⟩ := cutL_some e
      rw [fz.1 a e1, e2]
    have nHDS : HD ∉ S0 ++ [R, D, E0] := fun m => by
      rcases List.mem_append.mp m with m | m
      · exact lv.new nHD0 m
      · simp only [List.mem_cons, List.not_mem_nil, or_false] at m
        have n3 := nHD
        rcases m with e | e | e
        · rw [e, (s2.trans s3) _ _ eR] at n3; cases n3
        · rw [e, s3 _ _ eD] at n3; cases n3
        · rw [e, eE0] at n3; cases n3
    walk_at "go"
    refine ⟨B, HD, l, pu, ks, rfl, hB.mono (c4.trans cz), cz _ _ (cutL_of nHDS eHD), (fun u hu => par _ (ky ▸ List.mem_map.mpr ⟨u, hu, rfl⟩)), cov, okl, hw, hd, nm, ky, lk, fun x q st o H6 sm nx pl stl gs => ?_⟩
    obtain ⟨k1, nx4, nq4, nxq, s47, ux, uq, pls⟩ := lk_make lv4 fz sm nx pl
    walk_at "go"
    generalize rest (S0 ++ [R, D, E0]) H4 H6 = H7 at s47 ux uq pls ⊢
    clear k1 sm pl cz fz nx
    have s07 := s04.trans s47
    have nx0 : H x = none := Same.back s04 nx4
    have nq0 : H q = none := Same.back s04 nq4
    have xR : x ≠ R := fun e => by rw [e, eR4] at nx4; cases nx4
    have xD : x ≠ D := fun e => by rw [e, eD4] at nx4; cases nx4
    have xE : x ≠ E0 := fun e => by rw [e, eE4] at nx4; cases nx4
    have qR : q ≠ R := fun e => by rw [e, eR4] at nq4; cases nq4
    have qD : q ≠ D := fun e => by rw [e, eD4] at nq4; cases nq4
    have qE : q ≠ E0 := fun e => by rw [e, eE4] at nq4; cases nq4
    have hS2 : ∀ a ∈ S0 ++ [x, q, R, D, E0], a ∈ S0 ∨ H a = none := fun a ha => by
      rcases List.mem_append.mp ha with ha | ha
      · exact .inl ha
      · simp only [List.mem_cons, List.not_mem_nil, or_false] at ha
        rcases ha with rfl | rfl | rfl | rfl | rfl
        · exact .inr nx0
        · exact .inr nq0
        · exact .inr nR
        · exact .inr nD0
        · exact .inr nE0'
    have c7 : Same (cutL H S0) (cutL H7 (S0 ++ [x, q, R, D, E0])) := cutL_ext s07 hS2
    have lv7 : Lvs H7 (S0 ++ [x, q, R, D, E0]) := fun a ha => by
      rcases List.mem_append.mp ha with ha | ha
      · exact lv.mono s07 a ha
      · simp only [List.mem_cons, List.not_mem_nil, or_false] at ha
        rcases ha with rfl | rfl | rfl | rfl | rfl
        · exact ux
        · exact uq
        · exact ⟨_, s47 _ _ eR4, True.intro⟩
        · exact ⟨_, s47 _ _ eD4, True.intro⟩
        · exact ⟨_, s47 _ _ eE4, True.intro⟩
    have pl7 := pls (S0 ++ [x, q, R, D, E0]) (fun a ha => by
      simp only [List.mem_append, List.mem_cons, List.not_mem_nil, or_false] at ha ⊢
      rcases ha with ha | rfl | rfl | rfl | rfl | rfl
      · exact .inl (.inl ha)
      · exact .inr (.inl rfl)
      · exact .inr (.inr rfl)
      · exact .inl (.inr (.inl rfl))
      · exact .inl (.inr (.inr (.inl rfl)))
      · exact .inl (.inr (.inr (.inr rfl))))
    have s17 := s14.trans s47
    have hLm : LmAt (cutL H7 (S0 ++ [x, q, R, D, E0])) (mbs l) ts := lmAt_of l as ts (hD.mono c7 _ _) lt fun i t a h1 h2 => by
      obtain ⟨z1, z2⟩ := hG i t a h1 h2
      refine cutL_of (fun m => ?_) (s17 _ _ z2)
      rcases List.mem_append.mp m with m | m
      · exact lv.new z1 m
      · simp only [List.mem_cons, List.not_mem_nil, or_false] at m
        rcases m with e | e | e | e | e
        · rw [← e, s14 _ _ z2] at nx4; cases nx4
        · rw [← e, s14 _ _ z2] at nq4; cases nq4
        · rw [e, eR] at z2
          exact nref_non z2
        · rw [← e, z2] at nD; cases nD
        · rw [← e, s2 _ _ z2] at nE0; cases nE0
    have gs0 : GSt ks 40800 ⟨pu, mbs l, []⟩ := ⟨rok_mbs okl hw hd, nmR_mbs nm, by have := msL_wt l okl; show mu (mbs l) + 0 ≤ _; rw [mu_mbs]; omega, ky⟩
    have mu0 := (rsL_mbs l).mu
    refine ⟨R, D, E0, S0 ++ [x, q, R, D, E0], ks, 40800, ⟨pu, mbs l, []⟩, rfl, ⟨by simp, by simp, by simp, rd, re, de⟩, lv7, ⟨⟨ts, s47 _ _ eR4, hLm⟩, s47 _ _ eD4, s47 _ _ eE4⟩, gs0, lk, by omega, by show mu (mbs l) ≤ 8999; omega, fun H8 st2 o2 z2 f8 lw8 gs8 stl2 wd8 => ?_⟩
    obtain ⟨rfl, rfl⟩ := stl_det stl stl2
    have nHD4 : HD ∉ S0 ++ [x, q, R, D, E0] := fun m => by
      rcases List.mem_append.mp m with m | m
      · exact lv.new nHD0 m
      · simp only [List.mem_cons, List.not_mem_nil, or_false] at m
        rcases m with e | e | e | e | e
        · rw [← e, eHD] at nx4; cases nx4
        · rw [← e, eHD] at nq4; cases nq4
        · exact nHDS (by rw [e]; simp)
        · exact nHDS (by rw [e]; simp)
        · exact nHDS (by rw [e]; simp)
    have pl8 := pl7.mono f8 (by simp) (by simp) (by simp [xR, xD, xE]) (by simp [qR, qD, qE])
    have c8 : Same (cutL H S0) (cutL H8 (S0 ++ [x, q, R, D, E0])) := c7.trans f8.c
    have hHD8 := f8.c _ _ (cutL_of nHD4 (s47 _ _ eHD))
    have hPD8 := c8 _ _ hPD
    have eHD8 := cutL_same _ _ hHD8
    have ePD8 := cutL_same _ _ hPD8
    have keep8 : ∀ a ∈ S0, H8 a = H a := fun a ha => by
      obtain ⟨u, e, _⟩ := lv a ha
      rw [f8.k a (List.mem_append.mpr (.inl ha)) (fun m => ?_), s07 _ _ e, e]
      simp only [List.mem_cons, List.not_mem_nil, or_false] at m
      rcases m with rfl | rfl | rfl
      · rw [nR] at e; cases e
      · rw [nD0] at e; cases e
      · rw [nE0'] at e; cases e
    have lv8 := f8.l
    have oks := ky_oks (ks := pu.map (·.1)) (fun c hc => par c (ky ▸ hc))
    clear lv7 c7 pl7 pls ux uq hLm gs0 f8 c4 lv4 nd1 hS1 hLp hB hD hHD8 s1 s2 s3 s4 hPD1 eR eD eE0 eR4 eD4 eE4 s17 s14 eHD hG
    dsimp only [List.set]
    walk_at "go"
    refine ⟨HD, PD, pk pu, pk pu, rfl, rfl, eHD8, ePD8, rfl, (fun u hu => ?_), ?_⟩
    · obtain ⟨⟨c, n⟩, hm, rfl⟩ := List.mem_map.mp hu
      refine ⟨?_, rfl⟩
      show valV (pk pu) (.inr (S [c])) = some (.int (n : Int))
      rw [valV_pk, cn_nd (ky ▸ nd) hm]
      rfl
    walk_at "go"
    refine ⟨HD, _, eHD8, trivial, fun od9 => ?_⟩
    have fz : (upd H8 HD (.frz od9 (.dK (pk pu)))) HD = some (.frz od9 (.dK (pk pu))) := upd_same
    have th := fun {J : Hp} => thaw (J := J) (od := od9) (eHD8)
    generalize upd H8 HD (.frz od9 (.dK (pk pu))) = F9 at fz th ⊢
    walk_at "go"
    refine ⟨HD, od9, rfl, .inl ⟨_, fz, ?_⟩⟩
    walk_at "go"
    intro G1 nG1
    refine lc_keys fz (by omega) nG1 (fun x => rfl) (fun c J Q4 s4 q4 => ?_) (fun J s4 eG1 => ?_)
    · walk_at "go"
      exact q4 _ (Same.refl _)
    have sH9 := th s4
    have eG1 : (upd J HD (.dK (pk pu))) G1 = some (.lst ((kyS ((pu).map (·.1))).map V.str)) := by
      rw [upd_ne (fun e => by rw [e, fz] at nG1; cases nG1)]
      exact eG1
    clear th
    walk_at "go"
    refine ⟨s4 _ _ fz, ?_⟩
    generalize upd J HD (.dK (pk pu)) = H9 at sH9 eG1 ⊢
    clear fz s4
    walk_at "go"
    have ePD9 := sH9 _ _ ePD8
    refine ⟨PD, _, ePD9, trivial, fun od10 => ?_⟩
    have fz : (upd H9 PD (.frz od10 (.dK (pk pu)))) PD = some (.frz od10 (.dK (pk pu))) := upd_same
    have th := fun {J : Hp} => thaw (J := J) (od := od10) (ePD9)
    generalize upd H9 PD (.frz od10 (.dK (pk pu))) = F10 at fz th ⊢
    walk_at "go"
    refine ⟨PD, od10, rfl, .inl ⟨_, fz, ?_⟩⟩
    walk_at "go"
    intro G2 nG2
    refine lc_keys fz (by omega) nG2 (fun x => rfl) (fun c J Q4 s4 q4 => ?_) (fun J s4 eG2 => ?_)
    · walk_at "go"
      exact q4 _ (Same.refl _)
    have sH10 := th s4
    have eG2 : (upd J PD (.dK (pk pu))) G2 = some (.lst ((kyS ((pu).map (·.1))).map V.str)) := by
      rw [upd_ne (fun e => by rw [e, fz] at nG2; cases nG2)]
      exact eG2
    clear th
    walk_at "go"
    refine ⟨s4 _ _ fz, ?_⟩
    generalize upd J PD (.dK (pk pu)) = H10 at sH10 eG2 ⊢
    clear fz s4
    walk_at "go"
    refine ne_ssL (SqL.of (sH10 _ _ eG1)) (SqL.of eG2) oks ?_
    walk_at "go"
    have s810 := sH9.trans sH10
    intro M nM
    generalize eH_ : upd H10 M _ = H11
    have s11 : Same H10 H11 := by rw [← eH_]; exact same_new nM
    have eM : H11 M = some (.lst []) := by rw [← eH_]; exact upd_same
    clear eH_
    walk_at "go"
    intro G nG
    generalize eH_ : upd H11 G _ = H12
    have s12 : Same H11 H12 := by rw [← eH_]; exact same_new nG
    have eG : H12 G = some (.lst [.ref x, .ref R, .ref D, .ref E0, .ref M, .str z2]) := by rw [← eH_]; exact upd_same
    clear eH_
    have s8 := (s810.trans s11).trans s12
    have nM8 : H8 M = none := Same.back s810 nM
    have nG8 : H8 G = none := Same.back (s810.trans s11) nG
    have GM : G ≠ M := fun e => by rw [e, eM] at nG; cases nG
    have back8 : ∀ a, H8 a = none → H a = none := fun a ha => by
      cases e : H a with
      | none => rfl
      | some u =>
        by_cases m : a ∈ S0
        · rw [keep8 a m, e] at ha
          cases ha
        · have z := cutL_same _ _ (c8 _ _ (cutL_of m e))
          rw [ha] at z
          cases z
    have old8 : ∀ a ∈ S0 ++ [x, q, R, D, E0], H8 a ≠ none := fun a ha e => by
      obtain ⟨u, z, _⟩ := lv8 a ha
      rw [e] at z
      cases z
    have nG2 : ∀ a ∈ [x, q, R, D, E0], a ≠ G ∧ a ≠ M := fun a ha => ⟨fun e => old8 a (List.mem_append.mpr (.inr ha)) (by rw [e, nG8]), fun e => old8 a (List.mem_append.mpr (.inr ha)) (by rw [e, nM8])⟩
    have sub12 : ∀ a ∈ S0 ++ [G, x, q, R, D, E0, M], a ∈ S0 ++ [x, q, R, D, E0] ∨ H8 a = none := fun a ha => by
      simp only [List.mem_append, List.mem_cons, List.not_mem_nil, or_false] at ha ⊢
      rcases ha with ha | rfl | rfl | rfl | rfl | rfl | rfl | rfl
      · exact .inl (.inl ha)
      · exact .inr nG8
      · exact .inl (.inr (.inl rfl))
      · exact .inl (.inr (.inr (.inl rfl)))
      · exact .inl (.inr (.inr (.inr (.inl rfl))))
      · exact .inl (.inr (.inr (.inr (.inr (.inl rfl)))))
      · exact .inl (.inr (.inr (.inr (.inr (.inr rfl)))))
      · exact .inr nM8
    have c12 : Same (cutL H8 (S0 ++ [x, q, R, D, E0])) (cutL H12 (S0 ++ [G, x, q, R, D, E0, M])) := cutL_ext s8 sub12
    have pl12 : PlS CY k K H12 (S0 ++ [G, x, q, R, D, E0, M]) x q st [] o := by
      obtain ⟨dy, D', R', L', ps, h1, h2, h3, h4⟩ := pl8
      exact ⟨dy, D', R', L', ps, s8 _ _ h1, s8 _ _ h2, h3.mono c12, h4.mono c12 _ _⟩
    have lw12 : LwS H12 (S0 ++ [G, x, q, R, D, E0, M]) R D E0 st := by
      obtain ⟨⟨us, h1, h2⟩, h3, h4⟩ := lw8
      exact ⟨⟨us, s8 _ _ h1, h2.mono c12 _ _⟩, s8 _ _ h3, s8 _ _ h4⟩
    refine qq ⟨G, x, q, R, D, E0, M, st, o, [], z2⟩ H12 (fun a ha => ?_) ?_ (c8.trans c12) (fun a ha => ?_) (fun a ha => ?_) ?_
    · simp only [Gm.ad, List.mem_cons, List.not_mem_nil, or_false] at ha
      rcases ha with rfl | rfl | rfl | rfl | rfl | rfl | rfl
      · exact back8 _ nG8
      · exact nx0
      · exact nq0
      · exact nR
      · exact nD0
      · exact nE0'
      · exact back8 _ nM8
    · have a1 := nG2 x (by simp)
      have a2 := nG2 q (by simp)
      have a3 := nG2 R (by simp)
      have a4 := nG2 D (by simp)
      have a5 := nG2 E0 (by simp)
      show [G, x, q, R, D, E0, M].Nodup
      simp [GM, a1.1.symm, a2.1.symm, a3.1.symm, a4.1.symm, a5.1.symm, a1.2, a2.2, a3.2, a4.2, a5.2, nxq, xR, xD, xE, qR, qD, qE, rd, re, de]
    · obtain ⟨u, e, _⟩ := lv a ha
      rw [s8 a u (by rw [keep8 a ha, e]), e]
    · have ha : a ∈ S0 ++ [G, x, q, R, D, E0, M] := ha
      by_cases m : a ∈ S0 ++ [x, q, R, D, E0]
      · exact lv8.mono s8 a m
      · simp only [List.mem_append, List.mem_cons, List.not_mem_nil, or_false] at ha m
        rcases ha with ha | rfl | rfl | rfl | rfl | rfl | rfl | rfl
        · exact absurd (.inl ha) m
        · exact ⟨_, eG, True.intro⟩
        · exact absurd (by simp) m
        · exact absurd (by simp) m
        · exact absurd (by simp) m
        · exact absurd (by simp) m
        · exact absurd (by simp) m
        · exact ⟨_, s12 _ _ eM, True.intro⟩
    · exact ⟨eG, pl12, lw12, ⟨[], s12 _ _ eM, rfl, fun i a m e => by cases e⟩, wd8, stl_en stl, gs8.up (by omega), stl_rs stl (rsL_mbs l), Nat.zero_le _⟩
end
end Z
set_option pp.maxSteps 700
set_option Elab.async false
set_option linter.all false
set_option maxRecDepth 100000
set_option maxHeartbeats 4000000
open SX (S S_inj S_len S_cat)
namespace Z
open Pk NdefX
open PySem PySem.Spec PyProof.Rows L2
open C8 (pss_cut tCut)
local macro_rules | `(tactic| walk_at "num") => `(tactic| first | rfl | omega | decide | exact Nat.le_of_lt (small1000 (by simp)) | exact ⟨by omega, by omega⟩ | exact ⟨by omega, by omega, by omega⟩ | exact ⟨by decide, by decide, by decide⟩ | exact Or.inl ⟨by omega, by omega⟩ | exact Or.inr ⟨by omega, by omega⟩)
local macro_rules | `(tactic| walk_at "go") => `(tactic| repeat (first | refine ⟨_, rfl, ?_⟩ | refine ⟨_, _, rfl, rfl, ?_⟩ | refine ⟨_, _, rfl, ?_⟩ | (refine ⟨_, _, rfl, rfl, ?_, ?_⟩; focus walk_at "num") | refine Or.inl ⟨_, rfl, ?_⟩ | refine ⟨_, _, _, _, rfl, rfl, (by assumption), (by rfl), ?_⟩ | refine ⟨_, _, _, _, _, rfl, (by assumption), (by assumption), (by assumption), (by rfl), ?_⟩ | refine ⟨rfl, ?_⟩ | (refine And.intro ?_ ?_; focus walk_at "num")))
abbrev s_Pact___add__ : Stmt := inClass (topS 34) 1
abbrev N_Pact___add__ : List Str := ["self", "other"]
abbrev P_Pact___add__ : List Str := ["self", "other"]
theorem sc_Pact___add__ : FnScope N_Pact___add__ P_Pact___add__ (defScope s_Pact___add__) := ⟨rfl, rfl, rfl, by decide +kernel, rfl, by decide +kernel, by decide +kernel⟩
abbrev s_Pact___len__ : Stmt := inClass (topS 34) 4
abbrev N_Pact___len__ : List Str := ["self"]
abbrev P_Pact___len__ : List Str := ["self"]
theorem sc_Pact___len__ : FnScope N_Pact___len__ P_Pact___len__ (defScope s_Pact___len__) := ⟨rfl, rfl, rfl, by decide +kernel, rfl, by decide +kernel, by decide +kernel⟩
section
variable {P : Program} {w : World} {K : PySem.W.Frag} {mg : Str → Option Value} {base : Heap} {f C CP : Addr} {k : Cs} {fd : FuncData}
/-- p + q -/
def spAd (k : Cs) (K : PySem.W.Frag) : Sp := fun vs H Q _ => ∃ (x y : Addr) (l m : List Pt), vs = [.ref x, .ref y] ∧ PaAt k K H l x ∧ PaAt k K H m y ∧ OkL (l ++ m) ∧ wtL (l ++ m) ≤ 400 ∧ dpL (l ++ m) ≤ 30 ∧ ∀ z H', Same H H' → H z = none → PaAt k K H' (l ++ m) z → Q (.ref z) H'
theorem ok_add (F : FnM K "__add__" "Pact.__add__" s_Pact___add__ f fd) (pa : PtA K k) (y_Pact : MakY P w K mg base 4 "Pact" (spP k K)) (c_as_pact : CalX P w K mg base 1 "as_pact" (spAsP k K)) : FnOk P w K mg base CX0 6 f fd P_Pact___add__ (spAd k K) := by
  refine F.ok sc_Pact___add__ (fun vs H Q E h => ?_) (fun cdv A outer s H vs Q E hr h => ?_)
  · obtain ⟨x, y, l, m, rfl, _⟩ := h
    rfl
  · obtain ⟨x, y, l, m, rfl, hx0, hy0, ok, hw, hd, q⟩ := h
    obtain ⟨dx, t, as, hx, hT, hP⟩ := id hx0
    obtain ⟨dy, u, bs, hy, hU, hM⟩ := id hy0
    refine ⟨_, PSs.nox (pss_one (ps_ret (pe_mkY y_Pact (fun _ => passS0) hr (by decide) (by rfl) (pa_cons (pe_op op_catA (pe_fld (pv 0) rfl) (pe_fld (pe_clE c_as_pact (fun _ => passS0) hr (by decide) (by rfl) (pa_cons (pv 1) pa_nil)) rfl)) pa_nil)))), ?_⟩
    walk_at "go"
    refine ⟨x, k.P, dx, _, _, rfl, hx, pa.cP, pa.P1, rfl, ?_⟩
    walk_at "go"
    refine ⟨y, m, rfl, hy0, ?_⟩
    walk_at "go"
    refine ⟨y, k.P, dy, _, _, rfl, hy, pa.cP, pa.P1, rfl, ?_⟩
    walk_at "go"
    have la := PtsAt.len _ _ hP
    have lb := PtsAt.len _ _ hM
    have lw := len_wt (l ++ m)
    rw [List.length_append] at lw
    have hA := ptsAt_app _ _ _ _ hP hM
    refine ⟨t, u, as.map V.ref, bs.map V.ref, rfl, rfl, hT, hU, szl3 (by rw [List.length_map, List.length_map]; omega), fun e => ?_, fun _ e => ?_, fun _ _ p np => ?_⟩
    · have e := List.map_eq_nil_iff.mp e
      subst e
      walk_at "go"
      exact ⟨false, u, l ++ m, bs, rfl, ok, hU, hA, hw, hd, q⟩
    · have e := List.map_eq_nil_iff.mp e
      subst e
      rw [List.append_nil] at hA
      walk_at "go"
      exact ⟨false, t, l ++ m, as, rfl, ok, hT, hA, hw, hd, q⟩
    · have s1 := same_new (o := .tup (as.map V.ref ++ bs.map V.ref)) np
      have e1 : (upd H p (.tup (as.map V.ref ++ bs.map V.ref))) p = some (.tup ((as ++ bs).map V.ref)) := by rw [List.map_append]; exact upd_same
      generalize upd H p (.tup (as.map V.ref ++ bs.map V.ref)) = H1 at s1 e1
      walk_at "go"
      exact ⟨false, p, l ++ m, as ++ bs, rfl, ok, SqT.of e1, hA.mono s1 _ _, hw, hd, fun z H' s2 nz hz => q z H' (s1.trans s2) (Same.back s1 nz) hz⟩
/-- len(p) -/
def spLn (k : Cs) (K : PySem.W.Frag) : Sp := fun vs H Q _ => ∃ (x : Addr) (l : List Pt), vs = [.ref x] ∧ PaAt k K H l x ∧ l.length ≤ 1000000 ∧ Q (.int (l.length : Int)) H
theorem ok_plen (F : FnM K "__len__" "Pact.__len__" s_Pact___len__ f fd) (pa : PtA K k) (m_len : mg "len" = none) : FnOk P w K mg base CX0 1 f fd P_Pact___len__ (spLn k K) := by
  refine F.ok sc_Pact___len__ (fun vs H Q E h => ?_) (fun cdv A outer s H vs Q E hr h => ?_)
  · obtain ⟨x, l, rfl, _⟩ := h
    rfl
  · obtain ⟨x, l, rfl, ⟨dx, t, as, hx, hT, hP⟩, hl, q⟩ := h
    refine ⟨_, PSs.nox (pss_one (ps_ret (pe_callB call_len_seq (by rfl) m_len PySem.boot_len (pa_cons (pe_fld (pv 0) rfl) pa_nil)))), ?_⟩
    walk_at "go"
    refine ⟨x, k.P, dx, _, _, rfl, hx, pa.cP, pa.P1, rfl, ?_⟩
    walk_at "go"
    refine ⟨t, _, rfl, .inr hT, ?_⟩
    rw [List.length_map, PtsAt.len _ _ hP]
    exact q
end
end Z
set_option pp.maxSteps 700
set_option Elab.async false
set_option linter.all false
set_option maxRecDepth 100000
set_option maxHeartbeats 4000000
open SX (S S_inj S_len S_cat)
namespace Z
open Pk NdefX
open PySem PySem.Spec PyProof.Rows L2
open C8 (pss_cut tCut)
local macro_rules | `(tactic| walk_at "num") => `(tactic| first | rfl | omega | decide | exact Nat.le_of_lt (small1000 (by simp)) | exact ⟨by omega, by omega⟩ | exact ⟨by omega, by omega, by omega⟩ | exact ⟨by decide, by decide, by decide⟩ | exact Or.inl ⟨by omega, by omega⟩ | exact Or.inr ⟨by omega, by omega⟩)
local macro_rules | `(tactic| walk_at "go") => `(tactic| repeat (first | refine ⟨_, rfl, ?_⟩ | refine ⟨_, _, rfl, rfl, ?_⟩ | refine ⟨_, _, rfl, ?_⟩ | (refine ⟨_, _, rfl, rfl, ?_, ?_⟩; focus walk_at "num") | refine Or.inl ⟨_, rfl, ?_⟩ | refine ⟨_, _, _, _, rfl, rfl, (by assumption), (by rfl), ?_⟩ | refine ⟨_, _, _, _, _, rfl, (by assumption), (by assumption), (by assumption), (by rfl), ?_⟩ | refine ⟨rfl, ?_⟩ | (refine And.intro ?_ ?_; focus walk_at "num")))
abbrev s_law : Stmt := topS 82
abbrev N_law : List Str := ["_law_script", "_law_turns", "_law_names_here", "_law_many", "_law_pact_here", "_law_built", "_law_games", "_law_rich_here", "_law_draws_here", "_law_k", "_law_one"]
abbrev P_law : List Str := ["_law_script"]
theorem sc_law : FnScope N_law P_law (defScope s_law) := ⟨rfl, rfl, rfl, by decide +kernel, rfl, by decide +kernel, by decide +kernel⟩
section
variable {P : Program} {w : World} {K : PySem.W.Frag} {mg : Str → Option Value} {base : Heap} {f C CP CY : Addr} {k : Cs} {fd : FuncData}
theorem cutV_mid {α : Type} (f : α → V) {xs : List α} {n k : Nat} (h : n ≤ xs.length) (h2 : n + k ≤ xs.length) : cutV (xs.map f) (some (n : Int)) (some ((n + k : Nat) : Int)) = ((xs.drop n).take k).map f := by
  unfold cutV
  rw [List.length_map, HT.sIx_nat, HT.sIx_nat, Nat.min_eq_left h, Nat.min_eq_left h2, Nat.add_sub_cancel_left, List.map_take, List.map_drop]
theorem GmS.grow {H H' : Hp} {S S' : List Addr} {ks : List Nat} {l : List Pt} {n : Nat} {g : Gm} (h : GmS CY k K H S ks l n g) (s : Same H H') (sub : ∀ a ∈ S', a ∈ S ∨ H a = none) : GmS CY k K H' S' ks l n g := by
  have c := cutL_ext s sub
  obtain ⟨h1, ⟨dy, D, R, L, ps, p1, p2, p3, p4⟩, ⟨⟨us, w1, w2⟩, w3, w4⟩, ⟨bs, h4, h5, h6⟩, h7, h8, h9, h10, h11⟩ := h
  exact ⟨s _ _ h1, ⟨dy, D, R, L, ps, s _ _ p1, s _ _ p2, p3.mono c, p4.mono c _ _⟩, ⟨⟨us, s _ _ w1, w2.mono c _ _⟩, s _ _ w3, s _ _ w4⟩, ⟨bs, s _ _ h4, h5, fun i a m e1 e2 => c _ _ (h6 i a m e1 e2)⟩, h7, h8, h9, h10, h11⟩
theorem GmS.step {H H' : Hp} {S S' : List Addr} {ks : List Nat} {l : List Pt} {n : Nat} {g : Gm} (h : GmS CY k K H S ks l n g) (c : Same (cutL H S) (cutL H' S')) (e : ∀ a ∈ g.ad, H' a = H a) : GmS CY k K H' S' ks l n g := by
  obtain ⟨h1, ⟨dy, D, R, L, ps, p1, p2, p3, p4⟩, ⟨⟨us, w1, w2⟩, w3, w4⟩, ⟨bs, h4, h5, h6⟩, h7, h8, h9, h10, h11⟩ := h
  have eG := e g.G (by simp [Gm.ad])
  have ex := e g.x (by simp [Gm.ad])
  have eq := e g.q (by simp [Gm.ad])
  have eR := e g.R (by simp [Gm.ad])
  have eD := e g.D (by simp [Gm.ad])
  have eE := e g.E (by simp [Gm.ad])
  have eM := e g.M (by simp [Gm.ad])
  exact ⟨by rw [eG, h1], ⟨dy, D, R, L, ps, by rw [ex, p1], by rw [eq, p2], p3.mono c, p4.mono c _ _⟩, ⟨⟨us, by rw [eR, w1], w2.mono c _ _⟩, by rw [eD, w3], by rw [eE, w4]⟩, ⟨bs, by rw [eM, h4], h5, fun i a m e1 e2 => c _ _ (h6 i a m e1 e2)⟩, h7, h8, h9, h10, h11⟩
theorem Gm.eqG {g g' : Gm} (h : g'.ad = g.ad) : g'.G = g.G := by
  unfold Gm.ad at h
  injection h
theorem lvs_grow {H H' : Hp} {S : List Addr} {a : Addr} {o : HO} (h : Lvs H S) (s : Same H H') (e : H' a = some o) (mu : Mut (some o)) : Lvs H' (S ++ [a]) := fun b hb => by
  rcases List.mem_append.mp hb with hb | hb
  · exact h.mono s b hb
  · rw [List.mem_singleton.mp hb]
    exact ⟨o, e, mu⟩
/-- the drawn pact, perhaps doubled -/
structure Pd (ps : List Nat) (l : List Pt) : Prop where
  ok : OkL l
  wt : wtL l ≤ 400
  dp : dpL l ≤ 6
  us : UsL ps l
  fp : fpL l ≤ 8999
theorem Pg.pd {ps : List Nat} {l : List Pt} (g : Pg ps l 400 6 3605) : Pd ps l := ⟨g.ok, g.wt, g.dp, g.us, Nat.le_trans g.fp (by decide)⟩
theorem Pg.dbl {ps : List Nat} {l : List Pt} (g : Pg ps l 400 6 3605) (h : wtL l < 200) : Pd ps (l ++ l) := by
  refine ⟨okL_iff.mpr fun p hp => okL_iff.mp g.ok p ((List.mem_append.mp hp).elim id id), by rw [wtL_app]; omega, by rw [dpL_app]; have := g.dp; omega, usL_iff.mpr fun p hp => usL_iff.mp g.us p ((List.mem_append.mp hp).elim id id), by rw [fpL_app]; have := g.fp; omega⟩
def spLaw (K : PySem.W.Frag) : Sp := fun vs H Q _ => ∃ (a : Addr) (ns : List Int), vs = [.ref a] ∧ SqL K H a (ns.map V.int) ∧ ∀ H', Q (.bl true) H'
theorem ok_law (F : FnP K "law" s_law f fd) (pa : PtA K k) (m_int : mg "int" = none) (m_abs : mg "abs" = none) (m_len : mg "len" = none) (m_range : mg "range" = none) (tP : NoAttr K k.P "text") (c_cell : Cal P w K mg base 1 "_law_cell" (spCell K)) (c_draws : Cal P w K mg base 1 "_law_draws" spDraws) (c_names : Cal P w K mg base 2 "_law_names" spNa) (c_drawn : Cal P w K mg base (2 * 5 + 9) "_law_drawn" (spDn K)) (c_purses : Cal P w K mg base 2 "_law_purses" (spPs K)) (c_build : Cal P w K mg base (2 * 7 + 6) "_law_build" (spBl k K 7)) (c_weight : Cal P w K mg base (2 * 7 + 6) "_law_weight" (spWl 7)) (c_text : Cal P w K mg base (2 * 7 + 6) "_law_text" (spTl 7)) (c_is : Cal P w K mg base 1 "_law_is" spIs) (c_says : Cal P w K mg base 1 "_law_says" spSays) (c_over : Cal P w K mg base 1 "_law_over" spOv) (o_add : Bin2 P w K mg base 6 k.P "__add__" (spAd k K)) (l_Pact : LenO P w K mg base 1 k.P (spLn k K)) (c_game : Cal P w K mg base 12 "_law_game" (spGm CY k K)) (c_right : Cal P w K mg base (2 * 30 + 10) "_law_right" (spRg CY k K)) (c_go : Cal P w K mg base 12 "_law_go" (spGo7 CY k K)) : FnOk P w K mg base CX0 80 f fd P_law (spLaw K) := by
  refine F.ok sc_law (fun vs H Q E h => ?_) (fun cdv A outer s H vs Q E hr h => ?_)
  · obtain ⟨a, ns, rfl, _⟩ := h
    rfl
  · obtain ⟨a, ns, rfl, hS, q⟩ := h
    refine ⟨_, PSs.nox (pss_cons (ps_set (i := 1) sc_law.nd rfl (by first | exact .inl rfl | exact .inr rfl) (pe_cl c_draws hr (by decide) (by rfl) (pa_cons (pe_cl c_cell hr (by decide) (by rfl) (pa_cons (pv 0) (pa_cons pe_int pa_nil))) (pa_cons pe_int pa_nil))))
      (pss_cons (ps_set (i := 2) sc_law.nd rfl (by first | exact .inl rfl | exact .inr rfl) (pe_cl c_names hr (by decide) (by rfl) (pa_cons (pe_cl c_cell hr (by decide) (by rfl) (pa_cons (pv 0) (pa_cons pe_int pa_nil))) pa_nil)))
      (pss_cons (ps_set (i := 3) sc_law.nd rfl (by first | exact .inl rfl | exact .inr rfl) (pe_op op_add pe_int (pe_op op_mod (pe_callTy call_int1 (by rfl) m_int (by decide +kernel) (pa_cons (pe_ix ix_list (pv 1) pe_int (fun _ _ => rfl)) pa_nil)) (pe_ix ix_list (pe_lst (pa_cons pe_int (pa_cons pe_int (pa_cons pe_int (pa_cons pe_int pa_nil))))) (pe_op op_mod (pe_callTy call_int1 (by rfl) m_int (by decide +kernel) (pa_cons (pe_ix ix_list (pv 1) pe_int (fun _ _ => rfl)) pa_nil)) pe_int) (fun _ _ => rfl)))))
      (pss_cons (ps_set (i := 4) sc_law.nd rfl (by first | exact .inl rfl | exact .inr rfl) (pe_cl c_drawn hr (by decide) (by rfl) (pa_cons (pv 0) (pa_cons (pv 1) (pa_cons (pe_slice sl_str (pv 2) po_none (po_some (pv 3))) pa_nil)))))
      (pss_cons (ps_set (i := 5) sc_law.nd rfl (by first | exact .inl rfl | exact .inr rfl) (pe_cl c_build hr (by decide) (by rfl) (pa_cons (pv 4) pa_nil)))
      (pss_cut (ps_if (PW.pt (pw_and (pt_cmpR op_eq (pe_op op_mod (pe_callTy call_int1 (by rfl) m_int (by decide +kernel) (pa_cons (pe_ix ix_list (pv 1) pe_int (fun _ _ => rfl)) pa_nil)) pe_int) pe_int (nomark _)) (pw_and1 (pt_cmpR op_lt (pe_cl c_weight hr (by decide) (by rfl) (pa_cons (pv 4) pa_nil)) pe_int (nomark _))))) (pss_cons (ps_set (i := 4) sc_law.nd rfl (by first | exact .inl rfl | exact .inr rfl) (pe_op op_cat (pv 4) (pv 4)))
      (pss_one (ps_set (i := 5) sc_law.nd rfl (by first | exact .inl rfl | exact .inr rfl) (pe_op (op_bin o_add hr (by decide)) (pv 5) (pv 5))))) pss_nil)
      (pss_cons (ps_set (i := 6) sc_law.nd rfl (by first | exact .inl rfl | exact .inr rfl) (pe_lst (pa_cons (pe_cl c_game hr (by decide) (by rfl) (pa_cons (pv 5) (pa_cons (pv 4) (pa_cons (pe_cl c_purses hr (by decide) (by rfl) (pa_cons (pv 2) (pa_cons (pv 3) (pa_cons (pe_slice sl_list (pv 1) (po_some pe_int) (po_some pe_int)) (pa_cons (pe_cl c_cell hr (by decide) (by rfl) (pa_cons (pv 0) (pa_cons pe_int pa_nil))) pa_nil))))) pa_nil)))) pa_nil)))
      (pss_cons (ps_set (i := 7) sc_law.nd rfl (by first | exact .inl rfl | exact .inr rfl) (pe_cl c_draws hr (by decide) (by rfl) (pa_cons (pe_cl c_cell hr (by decide) (by rfl) (pa_cons (pv 0) (pa_cons pe_int pa_nil))) (pa_cons pe_int pa_nil))))
      (pss_cons (ps_expr (pe_bm PySem.F.plainAttrs_list PySem.F.slot_list_append PySem.F.type_list_append mt_append (pv 6) (pa_cons (pe_cl c_game hr (by decide) (by rfl) (pa_cons (pv 5) (pa_cons (pv 4) (pa_cons (pe_cl c_purses hr (by decide) (by rfl) (pa_cons (pv 2) (pa_cons (pv 3) (pa_cons (pv 7) (pa_cons (pe_cl c_cell hr (by decide) (by rfl) (pa_cons (pv 0) (pa_cons pe_int pa_nil))) pa_nil))))) pa_nil)))) pa_nil)))
      (pss_cons (ps_if (PW.pt (pw_or (pt_not (pt_val (pe_cl c_right hr (by decide) (by rfl) (pa_cons (pe_ix ix_list (pv 6) pe_int (fun _ _ => rfl)) pa_nil)))) (pw_or1 (pt_not (pt_val (pe_cl c_right hr (by decide) (by rfl) (pa_cons (pe_ix ix_list (pv 6) pe_int (fun _ _ => rfl)) pa_nil))))))) (pss_one (ps_ret pe_bl)) pss_nil)
      (pss_cons (ps_set (i := 8) sc_law.nd rfl (by first | exact .inl rfl | exact .inr rfl) (pe_lst (pa_cons (pe_cl c_draws hr (by decide) (by rfl) (pa_cons (pe_cl c_cell hr (by decide) (by rfl) (pa_cons (pv 0) (pa_cons pe_int pa_nil))) (pa_cons pe_int pa_nil))) (pa_cons (pe_cl c_draws hr (by decide) (by rfl) (pa_cons (pe_cl c_cell hr (by decide) (by rfl) (pa_cons (pv 0) (pa_cons pe_int pa_nil))) (pa_cons pe_int pa_nil))) pa_nil))))
      (pss_cons (ps_for PassesOwn.never rfl (pi_range1 (by rfl) m_range (pa_cons pe_int pa_nil)) (pg_name (i := 9) sc_law.nd rfl (by first | exact .inl rfl | exact .inr rfl))
        (pss_one (ps_for PassesOwn.never rfl (pi_range1 (by rfl) m_range (pa_cons pe_int pa_nil)) (pg_name (i := 10) sc_law.nd rfl (by first | exact .inl rfl | exact .inr rfl))
        (pss_one (ps_if (pt_not (pt_val (pe_cl c_over hr (by decide) (by rfl) (pa_cons (pe_ix ix_list (pe_ix ix_list (pv 6) (pv 10) (fun _ _ => rfl)) pe_int (fun _ _ => rfl)) pa_nil)))) (pss_cons (ps_expr (pe_cl c_go hr (by decide) (by rfl) (pa_cons (pe_ix ix_list (pv 6) (pv 10) (fun _ _ => rfl)) (pa_cons (pe_op op_add (pe_ix ix_list (pe_ix ix_list (pv 8) (pv 10) (fun _ _ => rfl)) (pv 9) (fun _ _ => rfl)) (pe_callB call_abs (by rfl) m_abs (by decide +kernel) (pa_cons (pe_cl c_cell hr (by decide) (by rfl) (pa_cons (pv 0) (pa_cons (pe_op op_add pe_int (pv 9)) pa_nil))) pa_nil))) pa_nil))))
      (pss_one (ps_if (PW.pt (pw_or (pt_not (pt_val (pe_cl c_right hr (by decide) (by rfl) (pa_cons (pe_ix ix_list (pv 6) (pv 10) (fun _ _ => rfl)) pa_nil)))) (pw_or1 (pt_not (pt_val (pe_cl c_right hr (by decide) (by rfl) (pa_cons (pe_ix ix_list (pv 6) (pe_op op_sub pe_int (pv 10)) (fun _ _ => rfl)) pa_nil))))))) (pss_one (ps_ret pe_bl)) pss_nil))) pss_nil)))))
      (pss_one (ps_ret (pe_and (pe_cl c_says hr (by decide) (by rfl) (pa_cons (pe_fld (pv 5) rfl) (pa_cons (pe_cl c_text hr (by decide) (by rfl) (pa_cons (pv 4) pa_nil)) pa_nil))) (pe_one (pe_cl c_is hr (by decide) (by rfl) (pa_cons (pe_callB (call_lenO l_Pact hr (by decide)) (by rfl) m_len PySem.boot_len (pa_cons (pv 5) pa_nil)) (pa_cons (pe_callB call_len_seq (by rfl) m_len PySem.boot_len (pa_cons (pv 4) pa_nil)) pa_nil))))))))))))))))))), ?_⟩
    rw [show L2.start N_law [V.ref a] = some (.ref a) :: List.replicate 10 none from rfl]
    dsimp only [List.replicate, List.set]
    walk_at "go"
    refine ⟨a, ns, 0, rfl, hS, ?_⟩
    walk_at "go"
    intro d1 t1 nd1 hd1
    have s1 := same_new (o := .lst (t1.map V.int)) nd1
    have ed1 : (upd H d1 (.lst (t1.map V.int))) d1 = some (.lst (t1.map V.int)) := upd_same
    generalize upd H d1 (.lst (t1.map V.int)) = H1 at s1 ed1
    walk_at "go"
    refine ⟨a, ns, 1, rfl, s1.seq hS, ?_⟩
    walk_at "go"
    refine fun ps H2 s2 hp => ?_
    dsimp only [List.set]
    have s12 := s1.trans s2
    have ed1 := s2 _ _ ed1
    walk_at "go"
    refine rd_at (SqL.of ed1) (by decide) (by rw [hd1.1]; decide) ?_
    generalize t1.getD (4 : Int).toNat 0 = r4
    walk_at "go"
    intro L0 nL0
    have s3 := same_new (o := .lst ([1, 2, 3, 5].map V.int)) nL0
    have eL0 : (upd H2 L0 (.lst ([1, 2, 3, 5].map V.int))) L0 = some (.lst ([1, 2, 3, 5].map V.int)) := upd_same
    rw [show [V.int 1, V.int 2, V.int 3, V.int 5] = [1, 2, 3, 5].map V.int from rfl]
    generalize upd H2 L0 (.lst ([1, 2, 3, 5].map V.int)) = H3 at s3 eL0 ⊢
    have ed1 := s3 _ _ ed1
    walk_at "go"
    refine rd_at (SqL.of ed1) (by decide) (by rw [hd1.1]; decide) ?_
    generalize t1.getD (5 : Int).toNat 0 = r5
    walk_at "go"
    refine rd_at (xs := [1, 2, 3, 5]) (SqL.of eL0) (by omega) (by show r5 % 4 < ((4 : Nat) : Int); omega) ?_
    obtain ⟨v, ev, v1, v5⟩ : ∃ v : Int, ([1, 2, 3, 5] : List Int).getD (r5 % 4).toNat 0 = v ∧ 1 ≤ v ∧ v ≤ 5 := by
      have e : r5 % 4 = 0 ∨ r5 % 4 = 1 ∨ r5 % 4 = 2 ∨ r5 % 4 = 3 := by omega
      rcases e with e | e | e | e <;> rw [e] <;> exact ⟨_, rfl, by decide, by decide⟩
    rw [ev]
    have v0 : 0 < v := by omega
    walk_at "go"
    have h4 := Int.emod_nonneg r4 (show v ≠ 0 by omega)
    have h5 := Int.emod_lt_of_pos r4 v0
    obtain ⟨m, em, m2, m6⟩ : ∃ m : Nat, 2 + r4 % v = (m : Int) ∧ 2 ≤ m ∧ m ≤ 6 := ⟨(2 + r4 % v).toNat, by omega, by omega, by omega⟩
    rw [show (fun i j : Int => V.int (i + j)) 2 (r4 % v) = V.int (m : Int) from congrArg V.int em]
    have s13 := s12.trans s3
    dsimp only [List.set]
    walk_at "go"
    have l6 : ps.length = 6 := hp.length_eq
    refine ⟨by rw [S_len]; exact szl (by omega), ?_⟩
    rw [em, cutS_lo (show m ≤ ps.length by omega)]
    walk_at "go"
    have pmk : PM (ps.take m) MRK := ⟨(List.take_sublist _ _).nodup (hp.nodup_iff.mpr (by decide)), by rw [List.length_take]; omega, by rw [List.length_take]; omega, fun c hc => hp.subset (List.mem_of_mem_take hc), by decide, by decide, fun c hc => hc⟩
    refine ⟨a, d1, ns, t1, ps.take m, rfl, s13.seq hS, ed1, hd1, pmk, fun L l H4 s4 hl g => ?_⟩
    have s14 := s13.trans s4
    have ed1 := s4 _ _ ed1
    have hgw := g.wt
    have hgd := g.dp
    dsimp only [List.set]
    walk_at "go"
    refine ⟨L, l, rfl, hl, g.ok, g.wt, by omega, by omega, fun B H5 s5 nB hB => ?_⟩
    have s15 := s14.trans s5
    have ed1 := s5 _ _ ed1
    have hl := hl.mono s5
    dsimp only [List.set]
    walk_at "go"
    refine ⟨fun σ J => ∃ (L B : Addr) (l : List Pt), Same H5 J ∧ DaAt J l L ∧ PaAt k K J l B ∧ Pd (ps.take m) l ∧ σ = [some (.ref a), some (.ref d1), some (.str (S ps)), some (.int (m : Int)), some (.ref L), some (.ref B), none, none, none, none, none], ?_, ?_⟩
    · walk_at "go"
      refine rd_at (SqL.of ed1) (by decide) (by rw [hd1.1]; decide) ?_
      generalize t1.getD (13 : Int).toNat 0 = r13
      walk_at "go"
      refine ite2 (fun _ => ?_) (fun _ => ?_)
      · walk_at "go"
        refine ⟨L, l, rfl, hl, g.ok, by omega, by omega, fun H6 s6 => ?_⟩
        walk_at "go"
        refine ite2 (fun e => ?_) (fun _ => ?_)
        · have e := of_decide_eq_true e
          obtain ⟨bs, hL, hD⟩ := hl.mono s6
          have lb := DtsAt.len _ _ hD
          have lw := len_wt l
          have pd := g.dbl (by omega)
          walk_at "go"
          refine ⟨L, L, _, _, rfl, rfl, hL, hL, szl3 (by rw [List.length_map]; omega), ?_⟩
          intro R nR
          generalize eH_ : upd H6 R _ = H7
          have s7 : Same H6 H7 := by rw [← eH_]; exact same_new nR
          have eR : H7 R = some (.lst (bs.map V.ref ++ bs.map V.ref)) := by rw [← eH_]; exact upd_same
          clear eH_
          have eR : H7 R = some (.lst ((bs ++ bs).map V.ref)) := by rw [eR, List.map_append]
          have hB7 := hB.mono (s6.trans s7)
          dsimp only [List.set]
          walk_at "go"
          obtain ⟨dB, tB, aB, eB, _⟩ := id hB7
          refine ⟨B, B, dB, dB, _, _, rfl, rfl, eB, eB, ?_⟩
          refine ⟨B, B, l, l, rfl, hB7, hB7, pd.ok, by have := pd.wt; omega, by have := pd.dp; omega, fun Z H8 s8 nZ hZ => ?_⟩
          have hbs := hD.mono (s7.trans s8) _ _
          walk_at "go"
          exact ⟨R, Z, l ++ l, (s6.trans s7).trans s8, ⟨bs ++ bs, s8 _ _ eR, dtsAt_app _ _ _ _ hbs hbs⟩, hZ, pd, rfl⟩
        · exact ⟨L, B, l, s6, hl.mono s6, hB.mono s6, g.pd, rfl⟩
      · exact ⟨L, B, l, Same.refl _, hl, hB, g.pd, rfl⟩
    clear hl hB g hgw hgd
    rintro σ J0 ⟨L, B, l, s5J, hl, hB, g, rfl⟩
    have s0J := s15.trans s5J
    have ed1 := s5J _ _ ed1
    walk_at "go"
    refine ⟨d1, _, rfl, SqL.of ed1, ?_⟩
    rw [show cutV (t1.map V.int) (some 6) (some 13) = ((t1.drop 6).take 7).map V.int from cutV_mid (n := 6) (k := 7) V.int (by rw [hd1.1]; decide) (by rw [hd1.1]; decide)]
    intro R5 nR5
    generalize eH_ : upd J0 R5 _ = J1
    have s6 : Same J0 J1 := by rw [← eH_]; exact same_new nR5
    have eR5 : J1 R5 = some (.lst (((t1.drop 6).take 7).map V.int)) := by rw [← eH_]; exact upd_same
    clear eH_
    have s01 := s0J.trans s6
    walk_at "go"
    refine ⟨a, ns, 5, rfl, s01.seq hS, ?_⟩
    walk_at "go"
    have hd5 : Dr 7 ((t1.drop 6).take 7) := ⟨by rw [List.length_take, List.length_drop, hd1.1]; decide, fun d hd => hd1.2 d (List.mem_of_mem_drop (List.mem_of_mem_take hd))⟩
    refine ⟨ps, m, R5, (t1.drop 6).take 7, _, rfl, hp, m2, m6, SqL.of eR5, ⟨7, Nat.le_refl _, hd5⟩, fun PD pu J2 s7 nPD ePD nd par cov => ?_⟩
    have s67 := s6.trans s7
    have s02 := s0J.trans s67
    walk_at "go"
    have c0 : ∀ {X : Hp}, cutL X [] = X := fun {X} => by
      funext b
      unfold cutL
      rw [if_neg List.not_mem_nil]
    have hBm := hB.mono s67
    have hlm := hl.mono s67
    refine ⟨B, L, PD, [], l, pu, pu.map (·.1), rfl, by rw [c0]; exact hBm, by rw [c0]; exact hlm, by rw [c0]; exact ePD, fun x hx => absurd hx List.not_mem_nil, List.nodup_nil, fun c hc hx => cn_ky (cov c (txB_sg l g.us g.ok c hx hc)), g.ok, g.wt, by have := g.dp; omega, usL_nm cov l g.us, rfl, nd, par, g.fp, fun g1 J3 n1 ad1 c3 _ lv3 gm1 => ?_⟩
    rw [c0, List.nil_append] at c3
    rw [List.nil_append] at lv3 gm1
    walk_at "go"
    intro LG nLG
    generalize eH_ : upd J3 LG _ = J4
    have s8 : Same J3 J4 := by rw [← eH_]; exact same_new nLG
    have eLG : J4 LG = some (.lst [.ref g1.G]) := by rw [← eH_]; exact upd_same
    clear eH_
    have nLG1 : LG ∉ g1.ad := lv3.new nLG
    have sub4 : ∀ a ∈ g1.ad ++ [LG], a ∈ g1.ad ∨ J3 a = none := fun a ha => by
      rcases List.mem_append.mp ha with ha | ha
      · exact .inl ha
      · rw [List.mem_singleton.mp ha]
        exact .inr nLG
    have lv4 := lvs_grow lv3 s8 eLG True.intro
    have gm1 := gm1.grow s8 sub4
    have c4 := cutL_ext s8 sub4
    have c24 : Same J2 (cutL J4 (g1.ad ++ [LG])) := c3.trans c4
    have nd4 : (g1.ad ++ [LG]).Nodup := List.nodup_append.mpr ⟨ad1, by simp, fun a ha b hb e => nLG1 (by rw [← List.mem_singleton.mp hb, ← e]; exact ha)⟩
    have sA : Same H (cutL J4 (g1.ad ++ [LG])) := s02.trans c24
    have hB4 := hBm.mono c24
    have hl4 := hlm.mono c24
    clear hBm hlm hB hl s6 s67 s02 s01 s0J s5J s15 s14 s13 s12 s1 s2 s3 s4 s5 ed1 eR5 ePD nPD c3 c24 sub4 eL0
    dsimp only [List.set]
    walk_at "go"
    refine ⟨a, ns, 6, rfl, (sA.trans cutL_same).seq hS, ?_⟩
    walk_at "go"
    intro d7 t7 nd7 hd7
    have s9 := same_new (o := .lst (t7.map V.int)) nd7
    have ed7 : (upd J4 d7 (.lst (t7.map V.int))) d7 = some (.lst (t7.map V.int)) := upd_same
    generalize upd J4 d7 (.lst (t7.map V.int)) = J5 at s9 ed7
    dsimp only [List.set]
    walk_at "go"
    refine ⟨.inl ⟨rfl, _, SqL.of (s9 _ _ eLG)⟩, ?_⟩
    walk_at "go"
    refine ⟨a, ns, 7, rfl, ((sA.trans cutL_same).trans s9).seq hS, ?_⟩
    walk_at "go"
    refine ⟨ps, m, d7, t7, _, rfl, hp, m2, m6, SqL.of ed7, ⟨8, by decide, hd7⟩, fun PD2 pu2 J6 s10 nPD2 ePD2 nd2 par2 cov2 => ?_⟩
    have s46 := s9.trans s10
    have lv6 := lv4.mono s46
    have nPD2' := (lv4.mono s9).new nPD2
    walk_at "go"
    refine ⟨B, L, PD2, g1.ad ++ [LG], l, pu2, pu2.map (·.1), rfl, hB4.mono (cutL_mono s46), hl4.mono (cutL_mono s46), cutL_of nPD2' ePD2, lv6, nd4, fun c hc hx => cn_ky (cov2 c (txB_sg l g.us g.ok c hx hc)), g.ok, g.wt, by have := g.dp; omega, usL_nm cov2 l g.us, rfl, nd2, par2, g.fp, fun g2 J7 n2 ad2 c7 k7 lv7 gm2 => ?_⟩
    generalize hSx : (g1.ad ++ [LG]) ++ g2.ad = Sx at c7 lv7 gm2
    walk_at "go"
    have m1 : ∀ a ∈ g1.ad, a ∈ Sx := fun a ha => by rw [← hSx]; exact List.mem_append.mpr (.inl (List.mem_append.mpr (.inl ha)))
    have m2' : ∀ a ∈ g2.ad, a ∈ Sx := fun a ha => by rw [← hSx]; exact List.mem_append.mpr (.inr ha)
    have mL : LG ∈ Sx := by rw [← hSx]; exact List.mem_append.mpr (.inl (List.mem_append.mpr (.inr List.mem_cons_self)))
    have dj : ∀ a ∈ g1.ad ++ [LG], a ∉ g2.ad := fun a h1 h2 => lv6.new (n2 a h2) h1
    have nLG2 : LG ∉ g2.ad := dj LG (List.mem_append.mpr (.inr List.mem_cons_self))
    have dj12 : ∀ a ∈ g1.ad, a ∉ g2.ad := fun a ha => dj a (List.mem_append.mpr (.inl ha))
    have dj21 : ∀ a ∈ g2.ad, a ∉ g1.ad := fun a h2 h1 => dj12 a h1 h2
    have nS : Sx.Nodup := by
      rw [← hSx]
      exact List.nodup_append.mpr ⟨nd4, ad2, fun a ha b hb e => dj a ha (e ▸ hb)⟩
    have c47 : Same (cutL J4 (g1.ad ++ [LG])) (cutL J7 Sx) := (cutL_mono s46).trans c7
    have gm1 : GmS CY k K J7 Sx (pu.map (·.1)) l 1 g1 := gm1.step c47 fun a ha => by
      have ha' : a ∈ g1.ad ++ [LG] := List.mem_append.mpr (.inl ha)
      obtain ⟨u, e, _⟩ := lv4 a ha'
      rw [k7 a ha', s46 _ _ e, e]
    have eLG7 : J7 LG = some (.lst [.ref g1.G]) := by rw [k7 LG (List.mem_append.mpr (.inr List.mem_cons_self)), s46 _ _ eLG]
    have sA7 := sA.trans c47
    have hB7 := hB4.mono c47
    have hl7 := hl4.mono c47
    clear sA hB4 hl4 c47 c4 s8 s9 s10 s46 eLG lv3 lv4 lv6 k7 c7 ePD2 nPD2 nPD2' n1 n2
    refine ⟨LG, _, _, rfl, rfl, eLG7, (show 1 < sizeLine by decide), ?_⟩
    rw [show upd J7 LG (.lst ([V.ref g1.G] ++ [V.ref g2.G])) = upd J7 LG (.lst [.ref g1.G, .ref g2.G]) from rfl]
    have f8 : FrS Sx [LG] J7 (upd J7 LG (.lst [.ref g1.G, .ref g2.G])) := frS_upd lv7 mL List.mem_cons_self
    have eLG8 : (upd J7 LG (.lst [.ref g1.G, .ref g2.G])) LG = some (.lst [.ref g1.G, .ref g2.G]) := upd_same
    generalize upd J7 LG (.lst [.ref g1.G, .ref g2.G]) = J8 at f8 eLG8 ⊢
    have gm1 := gm1.mono f8 fun a ha => ⟨m1 a ha, fun z => nLG1 (List.mem_singleton.mp z ▸ ha)⟩
    have gm2 := gm2.mono f8 fun a ha => ⟨m2' a ha, fun z => nLG2 (List.mem_singleton.mp z ▸ ha)⟩
    walk_at "go"
    refine ⟨LG, _, _, _, rfl, rfl, SqL.of eLG8, at_0, ?_⟩
    walk_at "go"
    refine ⟨g1, Sx, pu.map (·.1), l, 1, rfl, m1, gm1, nd, par, by decide, g.fp, fun J9 s9 => ?_⟩
    have eLG9 := s9 _ _ eLG8
    have gm1 := gm1.mono (frS_of (ex := []) f8.l s9) fun a ha => ⟨m1 a ha, List.not_mem_nil⟩
    have gm2 := gm2.mono (frS_of (ex := []) f8.l s9) fun a ha => ⟨m2' a ha, List.not_mem_nil⟩
    walk_at "go"
    refine ⟨LG, _, _, _, rfl, rfl, SqL.of eLG9, at_1, ?_⟩
    walk_at "go"
    refine ⟨g2, Sx, pu2.map (·.1), l, 1, rfl, m2', gm2, nd2, par2, by decide, g.fp, fun J10 s10 => ?_⟩
    have lv9 := f8.l.mono s9
    have gm1 := gm1.mono (frS_of (ex := []) lv9 s10) fun a ha => ⟨m1 a ha, List.not_mem_nil⟩
    have gm2 := gm2.mono (frS_of (ex := []) lv9 s10) fun a ha => ⟨m2' a ha, List.not_mem_nil⟩
    have lv10 := lv9.mono s10
    have eLG10 := s10 _ _ eLG9
    have c10 : Same (cutL J7 Sx) (cutL J10 Sx) := f8.c.trans (cutL_mono (s9.trans s10))
    have sA := sA7.trans c10
    have hB10 := hB7.mono c10
    have hl10 := hl7.mono c10
    clear sA7 hB7 hl7 c10 eLG8 eLG9 f8 lv9 s9 s10 eLG7 lv7 ed7 hd7 nd7
    walk_at "go"
    refine ⟨a, ns, 3, rfl, (sA.trans cutL_same).seq hS, ?_⟩
    walk_at "go"
    intro d3 t3 nd3 hd3
    have s11 := same_new (o := .lst (t3.map V.int)) nd3
    have ed3 : (upd J10 d3 (.lst (t3.map V.int))) d3 = some (.lst (t3.map V.int)) := upd_same
    generalize upd J10 d3 (.lst (t3.map V.int)) = J11 at s11 ed3
    walk_at "go"
    refine ⟨a, ns, 4, rfl, ((sA.trans cutL_same).trans s11).seq hS, ?_⟩
    walk_at "go"
    intro d4 t4 nd4' hd4
    have s12 := same_new (o := .lst (t4.map V.int)) nd4'
    have ed4 : (upd J11 d4 (.lst (t4.map V.int))) d4 = some (.lst (t4.map V.int)) := upd_same
    generalize upd J11 d4 (.lst (t4.map V.int)) = J12 at s12 ed4
    walk_at "go"
    intro LD nLD
    generalize eH_ : upd J12 LD _ = J13
    have s13 : Same J12 J13 := by rw [← eH_]; exact same_new nLD
    have eLD : J13 LD = some (.lst [.ref d3, .ref d4]) := by rw [← eH_]; exact upd_same
    clear eH_
    have s112 := s11.trans s12
    have sB := s112.trans s13
    have ed3 := cutL_new lv10 nd3 (s13 _ _ (s12 _ _ ed3))
    have ed4 := cutL_new (lv10.mono s11) nd4' (s13 _ _ ed4)
    have eLD := cutL_new (lv10.mono s112) nLD eLD
    have lv13 := lv10.mono sB
    have f13 := frS_of (ex := []) lv10 sB
    have gm1 := gm1.mono f13 fun a ha => ⟨m1 a ha, List.not_mem_nil⟩
    have gm2 := gm2.mono f13 fun a ha => ⟨m2' a ha, List.not_mem_nil⟩
    have sA := sA.trans f13.c
    have hB13 := hB10.mono f13.c
    have hl13 := hl10.mono f13.c
    have eLG10 := sB _ _ eLG10
    have lk1 : (pu.map (·.1)).length ≤ 1000 := Nat.le_trans (nd.length_le_of_subset (fun c hc => par c hc)) (by decide)
    have lk2 : (pu2.map (·.1)).length ≤ 1000 := Nat.le_trans (nd2.length_le_of_subset (fun c hc => par2 c hc)) (by decide)
    have nLGx : LG ∉ g1.ad ++ g2.ad := fun z => (List.mem_append.mp z).elim nLG1 nLG2
    clear hB10 hl10 s11 s12 s13 s112 sB f13 lv10 nd3 nd4' nLD
    dsimp only [List.set]
    walk_at "go"
    refine for_gen (n := 60) (fun i σ J => ∃ (ga gb : Gm) (u9 u10 : Option V), FrS Sx (g1.ad ++ g2.ad) J13 J ∧ ga.ad = g1.ad ∧ gb.ad = g2.ad ∧ GmS CY k K J Sx (pu.map (·.1)) l (1 + 2 * i) ga ∧ GmS CY k K J Sx (pu2.map (·.1)) l (1 + 2 * i) gb ∧ σ = [some (.ref a), some (.ref d1), some (.str (S ps)), some (.int (m : Int)), some (.ref L), some (.ref B), some (.ref LG), some (.ref d7), some (.ref LD), u9, u10]) ⟨g1, g2, none, none, frS_of lv13 (Same.refl _), rfl, rfl, gm1, gm2, rfl⟩ ?_ ?_ ?_ ?_
    · rintro i σ J hi _
      exact hi
    · rintro σ J _
      exact Nat.le_refl _
    · rintro i σ J z J' hi ⟨ga, gb, u9, u10, fr, ega, egb, gma, gmb, rfl⟩ ⟨rfl, rfl⟩
      walk_at "go"
      refine for_gen (n := 2) (fun j σ J => ∃ (ga gb : Gm) (u10 : Option V), FrS Sx (g1.ad ++ g2.ad) J13 J ∧ ga.ad = g1.ad ∧ gb.ad = g2.ad ∧ GmS CY k K J Sx (pu.map (·.1)) l (1 + 2 * i + j) ga ∧ GmS CY k K J Sx (pu2.map (·.1)) l (1 + 2 * i + j) gb ∧ σ = [some (.ref a), some (.ref d1), some (.str (S ps)), some (.int (m : Int)), some (.ref L), some (.ref B), some (.ref LG), some (.ref d7), some (.ref LD), some (.int (0 + (i : Int))), u10]) ⟨ga, gb, _, fr, ega, egb, gma, gmb, rfl⟩ ?_ ?_ ?_ ?_
      · rintro j σ J hj _
        exact hj
      · rintro σ J _
        exact Nat.le_refl _
      · rintro j σ J z J' hj ⟨ga, gb, u10, frj, ega, egb, gma, gmb, rfl⟩ ⟨rfl, rfl⟩
        have eLGj : J' LG = some (.lst [.ref g1.G, .ref g2.G]) := by rw [frj.k LG mL nLGx, eLG10]
        have eLDj := cutL_same _ _ (frj.c _ _ eLD)
        have ed3j := cutL_same _ _ (frj.c _ _ ed3)
        have ed4j := cutL_same _ _ (frj.c _ _ ed4)
        have sqj : SqL K J' a (ns.map V.int) := ((sA.trans frj.c).trans cutL_same).seq hS
        have hj2 : j = 0 ∨ j = 1 := by omega
        rcases hj2 with hj | hj
        · subst hj
          have atj : atI [V.ref g1.G, V.ref g2.G] (0 + ((0 : Nat) : Int)) = some (.ref g1.G) := at_z rfl
          have atd : atI [V.ref d3, V.ref d4] (0 + ((0 : Nat) : Int)) = some (.ref d3) := at_z rfl
          have ato : atI [V.ref g1.G, V.ref g2.G] (1 - (0 + ((0 : Nat) : Int))) = some (.ref g2.G) := (show atI _ ((1 : Nat) : Int) = _ from atI_nat rfl)
          have eG : ga.G = g1.G := Gm.eqG ega
          have eGo : gb.G = g2.G := Gm.eqG egb
          have gl := gma.gl
          rw [eG] at gl
          walk_at "go"
          refine ⟨LG, _, _, _, rfl, rfl, SqL.of eLGj, atj, ?_⟩
          walk_at "go"
          refine ⟨g1.G, _, _, _, rfl, rfl, SqL.of gl, (show atI _ ((5 : Nat) : Int) = _ from atI_nat rfl), ?_⟩
          walk_at "go"
          refine ⟨ga.z, ga.st, ga.o, rfl, gma.wd, ?_⟩
          cases eo : ga.o with
          | go =>
            walk_at "go"
            refine ⟨LG, _, _, _, rfl, rfl, SqL.of eLGj, atj, ?_⟩
            walk_at "go"
            refine ⟨LD, _, _, _, rfl, rfl, SqL.of eLDj, atd, ?_⟩
            walk_at "go"
            refine rd_at (SqL.of ed3j) (by omega) (by rw [hd3.1]; show (0 : Int) + (i : Int) < ((60 : Nat) : Int); omega) ?_
            generalize t3.getD (0 + (i : Int)).toNat 0 = w1
            walk_at "go"
            refine ⟨a, ns, 8 + i, by rw [show ((8 + i : Nat) : Int) = 8 + (0 + (i : Int)) by omega]; rfl, sqj, ?_⟩
            walk_at "go"
            refine ⟨ga, Sx, pu.map (·.1), l, 1 + 2 * i + 0, _, by rw [eG]; rfl, fun b hb => m1 b (ega ▸ hb), by rw [ega]; exact ad1, nS, frj.l, gma, eo, lk1, by omega, g.fp, fun K1 g' fr0 gm1' eg' => ?_⟩
            have fr1 : FrS Sx (g1.ad ++ g2.ad) J' K1 := fr0.wk fun b hb => List.mem_append.mpr (.inl (ega ▸ hb))
            have egA : g'.ad = g1.ad := eg'.trans ega
            have gmo1 := gmb.mono fr0 fun b hb => ⟨m2' b (egb ▸ hb), fun z => dj21 b (egb ▸ hb) (ega ▸ z)⟩
            have frK := frj.trans fr1
            have eLGk : K1 LG = some (.lst [.ref g1.G, .ref g2.G]) := by rw [frK.k LG mL nLGx, eLG10]
            walk_at "go"
            refine ⟨LG, _, _, _, rfl, rfl, SqL.of eLGk, atj, ?_⟩
            walk_at "go"
            refine ⟨g', Sx, pu.map (·.1), l, 1 + 2 * i + 0 + 1, by rw [Gm.eqG egA]; rfl, fun b hb => m1 b (egA ▸ hb), gm1', nd, par, by omega, g.fp, fun K2 sk => ?_⟩
            have f2 := frS_of (ex := g1.ad ++ g2.ad) frK.l sk
            have f2' := frS_of (ex := []) frK.l sk
            have frK2 := frK.trans f2
            have gm2' := gm1'.mono f2' fun b hb => ⟨m1 b (egA ▸ hb), List.not_mem_nil⟩
            have gmo2 := gmo1.mono f2' fun b hb => ⟨m2' b (egb ▸ hb), List.not_mem_nil⟩
            have eLGk2 := sk _ _ eLGk
            walk_at "go"
            refine ⟨LG, _, _, _, rfl, rfl, SqL.of eLGk2, ato, ?_⟩
            walk_at "go"
            refine ⟨gb, Sx, pu2.map (·.1), l, 1 + 2 * i + 0, by rw [eGo]; rfl, fun b hb => m2' b (egb ▸ hb), gmo2, nd2, par2, by omega, g.fp, fun K3 sk3 => ?_⟩
            have f3 := frS_of (ex := g1.ad ++ g2.ad) frK2.l sk3
            have f3' := frS_of (ex := []) frK2.l sk3
            have frK3 := frK2.trans f3
            have gm3 := gm2'.mono f3' fun b hb => ⟨m1 b (egA ▸ hb), List.not_mem_nil⟩
            have gmo3 := gmo2.mono f3' fun b hb => ⟨m2' b (egb ▸ hb), List.not_mem_nil⟩
            walk_at "go"
            exact ⟨g', gb, _, frK3, egA, egb, gm3, gmo3.up (by omega), rfl⟩
          | _ =>
            walk_at "go"
            exact ⟨ga, gb, _, frj, ega, egb, gma.up (by omega), gmb.up (by omega), rfl⟩
        · subst hj
          have atj : atI [V.ref g1.G, V.ref g2.G] (0 + ((1 : Nat) : Int)) = some (.ref g2.G) := at_z rfl
          have atd : atI [V.ref d3, V.ref d4] (0 + ((1 : Nat) : Int)) = some (.ref d4) := at_z rfl
          have ato : atI [V.ref g1.G, V.ref g2.G] (1 - (0 + ((1 : Nat) : Int))) = some (.ref g1.G) := (show atI _ ((0 : Nat) : Int) = _ from atI_nat rfl)
          have eG : gb.G = g2.G := Gm.eqG egb
          have eGo : ga.G = g1.G := Gm.eqG ega
          have gl := gmb.gl
          rw [eG] at gl
          walk_at "go"
          refine ⟨LG, _, _, _, rfl, rfl, SqL.of eLGj, atj, ?_⟩
          walk_at "go"
          refine ⟨g2.G, _, _, _, rfl, rfl, SqL.of gl, (show atI _ ((5 : Nat) : Int) = _ from atI_nat rfl), ?_⟩
          walk_at "go"
          refine ⟨gb.z, gb.st, gb.o, rfl, gmb.wd, ?_⟩
          cases eo : gb.o with
          | go =>
            walk_at "go"
            refine ⟨LG, _, _, _, rfl, rfl, SqL.of eLGj, atj, ?_⟩
            walk_at "go"
            refine ⟨LD, _, _, _, rfl, rfl, SqL.of eLDj, atd, ?_⟩
            walk_at "go"
            refine rd_at (SqL.of ed4j) (by omega) (by rw [hd4.1]; show (0 : Int) + (i : Int) < ((60 : Nat) : Int); omega) ?_
            generalize t4.getD (0 + (i : Int)).toNat 0 = w1
            walk_at "go"
            refine ⟨a, ns, 8 + i, by rw [show ((8 + i : Nat) : Int) = 8 + (0 + (i : Int)) by omega]; rfl, sqj, ?_⟩
            walk_at "go"
            refine ⟨gb, Sx, pu2.map (·.1), l, 1 + 2 * i + 1, _, by rw [eG]; rfl, fun b hb => m2' b (egb ▸ hb), by rw [egb]; exact ad2, nS, frj.l, gmb, eo, lk2, by omega, g.fp, fun K1 g' fr0 gm1' eg' => ?_⟩
            have fr1 : FrS Sx (g1.ad ++ g2.ad) J' K1 := fr0.wk fun b hb => List.mem_append.mpr (.inr (egb ▸ hb))
            have egA : g'.ad = g2.ad := eg'.trans egb
            have gmo1 := gma.mono fr0 fun b hb => ⟨m1 b (ega ▸ hb), fun z => dj12 b (ega ▸ hb) (egb ▸ z)⟩
            have frK := frj.trans fr1
            have eLGk : K1 LG = some (.lst [.ref g1.G, .ref g2.G]) := by rw [frK.k LG mL nLGx, eLG10]
            walk_at "go"
            refine ⟨LG, _, _, _, rfl, rfl, SqL.of eLGk, atj, ?_⟩
            walk_at "go"
            refine ⟨g', Sx, pu2.map (·.1), l, 1 + 2 * i + 1 + 1, by rw [Gm.eqG egA]; rfl, fun b hb => m2' b (egA ▸ hb), gm1', nd2, par2, by omega, g.fp, fun K2 sk => ?_⟩
            have f2 := frS_of (ex := g1.ad ++ g2.ad) frK.l sk
            have f2' := frS_of (ex := []) frK.l sk
            have frK2 := frK.trans f2
            have gm2' := gm1'.mono f2' fun b hb => ⟨m2' b (egA ▸ hb), List.not_mem_nil⟩
            have gmo2 := gmo1.mono f2' fun b hb => ⟨m1 b (ega ▸ hb), List.not_mem_nil⟩
            have eLGk2 := sk _ _ eLGk
            walk_at "go"
            refine ⟨LG, _, _, _, rfl, rfl, SqL.of eLGk2, ato, ?_⟩
            walk_at "go"
            refine ⟨ga, Sx, pu.map (·.1), l, 1 + 2 * i + 1, by rw [eGo]; rfl, fun b hb => m1 b (ega ▸ hb), gmo2, nd, par, by omega, g.fp, fun K3 sk3 => ?_⟩
            have f3 := frS_of (ex := g1.ad ++ g2.ad) frK2.l sk3
            have f3' := frS_of (ex := []) frK2.l sk3
            have frK3 := frK2.trans f3
            have gm3 := gm2'.mono f3' fun b hb => ⟨m2' b (egA ▸ hb), List.not_mem_nil⟩
            have gmo3 := gmo2.mono f3' fun b hb => ⟨m1 b (ega ▸ hb), List.not_mem_nil⟩
            walk_at "go"
            exact ⟨ga, g', _, frK3, ega, egA, gmo3.up (by omega), gm3, rfl⟩
          | _ =>
            walk_at "go"
            exact ⟨ga, gb, _, frj, ega, egb, gma.up (by omega), gmb.up (by omega), rfl⟩
      · rintro σ J ⟨ga, gb, u10, fr, ega, egb, gma, gmb, rfl⟩
        exact ⟨ga, gb, _, _, fr, ega, egb, gma.up (by omega), gmb.up (by omega), rfl⟩
    · rintro σ J ⟨ga, gb, u9, u10, fr, ega, egb, gma, gmb, rfl⟩
      have ax := fr.c.trans (cutL_same (H := J) (S := Sx))
      have hBJ := hB13.mono ax
      obtain ⟨dB, tB, aB, eB, hTB, hPB⟩ := id hBJ
      have hlJ := hl13.mono ax
      walk_at "go"
      refine ⟨B, k.P, dB, _, _, rfl, eB, pa.cP, tP, rfl, ?_⟩
      walk_at "go"
      refine ⟨L, l, rfl, hlJ, g.ok, by have := g.wt; omega, by have := g.dp; omega, fun K1 sk => ?_⟩
      have lw := len_wt l
      have hw4 := g.wt
      obtain ⟨bs, hL, hD⟩ := hlJ.mono sk
      have lb := DtsAt.len _ _ hD
      walk_at "go"
      refine ⟨B, dB, _, rfl, sk _ _ eB, ?_⟩
      refine ⟨B, l, rfl, hBJ.mono sk, by omega, ?_⟩
      walk_at "go"
      refine ⟨L, _, rfl, .inl (SqL.of hL), ?_⟩
      rw [List.length_map, lb]
      walk_at "go"
      exact q _
end
end Z
set_option pp.maxSteps 700
set_option Elab.async false
set_option linter.all false
set_option maxRecDepth 100000
set_option maxHeartbeats 4000000
namespace Z
open PySem PySem.Spec PyProof.Rows L2 Pk NdefX Zr
/-! ### the head's facts of part classes; the inductions over the depth -/
theorem supI_of {P : Program} {K : PySem.W.Frag} {x y q fl : Str} {st : Stmt} (h1 : supObs K x = supVal q st) (h2 : supP fl K (He.ga K x) (He.ga K y) q = true) (hfl : ((P.main.file : Str) == fl) = true) (htop : (P.main.scope.names.lookup ("super" : Str)).isSome = false) :
    ∃ (fd : FuncData) (c cc : Addr) (kV doc pm ct : Value) (an : Option Addr), fd = PySem.W.fnX "__init__" q (defArgs st) (defBody st) (defScope st) [(("__class__" : Str), cc)] .none kV doc pm an (.ref c) ct ∧ SupI P K (He.ga K x) (He.ma K (He.ga K x) "__init__") (He.ma K (He.ga K y) "__init__") q st fd := by
  obtain ⟨g0, h2⟩ := He.ba h2
  obtain ⟨g1, h2⟩ := He.ba h2
  obtain ⟨g2, h2⟩ := He.ba h2
  obtain ⟨g3, h2⟩ := He.ba h2
  obtain ⟨g4, g5⟩ := He.ba h2
  unfold supObs at h1
  cases e : initFd K (He.ga K x) with
  | none =>
    rw [e] at h1
    cases h1
  | some fd =>
    rw [e] at h1 g0
    have lk : ∃ oc od osl, K.lookup (He.ma K (He.ga K x) "__init__") = some ⟨oc, od, .func fd, osl⟩ := by
      unfold initFd at e
      split at e
      · next oc od fd' osl l =>
        cases e
        exact ⟨_, _, _, l⟩
      · cases e
    obtain ⟨n1, n2, n3, n4, n5, n6, n7, n8, n9, n10, n11, n12, n13, n14, n15⟩ := fd
    have h1 : (some (n1, n2, n3, n4, n5, n6, n7.map (·.1), n8, n15) : SupV) = supVal q st := h1
    unfold supVal at h1
    simp only [Option.some.injEq, Prod.mk.injEq] at h1
    obtain ⟨a1, a2, a3, a4, a5, a6, a7, a8, a9⟩ := h1
    subst a1 a2 a3 a4 a5 a6 a8 a9
    dsimp only at g0
    split at g0
    · next c y' cc =>
      obtain ⟨b1, g0⟩ := He.ba g0
      obtain ⟨b2, b3⟩ := He.ba g0
      have ey : y' = "__class__" := by
        have := a7
        simpa using this
      subst ey
      refine ⟨_, c, cc, _, _, _, _, _, rfl, ⟨c, cc, _, _, _, _, _, _, rfl, ⟨lk, ?_, ?_, htop, of_decide_eq_true g1, He.eqO_ok g2, He.eqO_ok g3, of_decide_eq_true g4, g5⟩, b1⟩⟩
      · split at b2
        · next u1 u2 vs u3 l =>
          split at b2
          · next file tf ev =>
            refine ⟨_, _, vs, _, file, tf, l, ev, ?_⟩
            rw [beq_iff_eq.mp b2] at hfl
            exact hfl
          · cases b2
        · cases b2
      · split at b3
        · next u1 u2 D u3 l =>
          have := of_decide_eq_true b3
          subst this
          exact ⟨_, _, _, l⟩
        · cases b3
    · cases g0
theorem conB_ok {K : PySem.W.Frag} {C : Addr} {f z : Str} (hf : PySem.W.copiedNames.contains f = false) (h : conB K C f z = true) : ∃ u, Con K C f (.str z) u := by
  unfold conB at h
  split at h
  · next y t e =>
    obtain ⟨h1, h2⟩ := He.ba h
    have := of_decide_eq_true h1
    subst this
    exact ⟨_, e, ⟨t, rfl⟩, He.eqO_ok h2, hf⟩
  · cases h
theorem fnr_okX {P : Program} {w : World} {K : PySem.W.Frag} {mg : Str → Option Value} {base : Heap} {CX : CXT} {k : Nat} {f : Addr} {fd : FuncData} {ps : List Str} {sp : Sp} (F : FnOk P w K mg base CX k f fd ps sp) (b : Binds K fd ps []) : FnR P w K mg base CX k f sp := (FnOk.raw (dvs := []) F b .nil).imp fun vs H Q E h => by
  show sp (vs ++ []) H Q E
  rw [List.append_nil]
  exact h
section
variable {P : Program} {w : World} {K : PySem.W.Frag} {mg : Str → Option Value} {base : Heap} {f f2 f3 C CP CB CH : Addr} {k : Cs} {fd fd2 fd3 : FuncData}
theorem l23 (d : Nat) : 2 * (d + 1) + 6 = 2 * d + 8 := by omega
theorem l25 (d : Nat) : 2 * (d + 1) + 5 = 2 * d + 7 := by omega
theorem l35 (d : Nat) : 3 * (d + 1) + 5 = 3 * d + 8 := by omega
theorem all_build (F : FnP K "_law_build" s_build f fd) (g : mg "_law_build" = some (.ref f)) (b : Binds K fd P_build []) (F2 : FnP K "_law_build_part" s_build_part f2 fd2) (g2 : mg "_law_build_part" = some (.ref f2)) (b2 : Binds K fd2 P_build_part []) (y_Pact : MakY P w K mg base 4 "Pact" (spP k K)) (y_Transfer : MakY P w K mg base 5 "Transfer" (spT k K)) (y_Event : MakY P w K mg base 5 "Event" (spE k K)) (y_Choice : MakY P w K mg base 5 "Choice" (spC k K)) (y_Rounds : MakY P w K mg base 5 "Rounds" (spR k K)) (y_Endless : MakY P w K mg base 5 "Endless" (spN k K)) (y_Times : MakY P w K mg base 5 "Times" (spM k K)) : ∀ d, Cal P w K mg base (2 * d + 6) "_law_build" (spBl k K d)
  | 0 => cal_of F g b (no_fn fun vs H Q E h => by obtain ⟨L, l, _, _, _, _, _, z, _⟩ := h; omega)
  | d + 1 => by
    have c_build := all_build F g b F2 g2 b2 y_Pact y_Transfer y_Event y_Choice y_Rounds y_Endless y_Times d
    have c_part := cal_of F2 g2 b2 (ok_build_part F2 y_Transfer y_Event y_Choice y_Rounds y_Endless y_Times c_build)
    rw [l23]
    exact cal_of F g b (ok_build F y_Pact c_part)
theorem all_weight (F : FnP K "_law_weight" s_weight f fd) (g : mg "_law_weight" = some (.ref f)) (b : Binds K fd P_weight []) (F2 : FnP K "_law_part_weight" s_part_weight f2 fd2) (g2 : mg "_law_part_weight" = some (.ref f2)) (b2 : Binds K fd2 P_part_weight []) (m_sum : mg "sum" = none) (m_max : mg "max" = none) : ∀ d, Cal P w K mg base (2 * d + 6) "_law_weight" (spWl d)
  | 0 => cal_of F g b (no_fn fun vs H Q E h => by obtain ⟨L, l, _, _, _, _, z, _⟩ := h; omega)
  | d + 1 => by
    have c_weight := all_weight F g b F2 g2 b2 m_sum m_max d
    have c_part := cal_of F2 g2 b2 (ok_part_weight F2 m_sum m_max c_weight)
    rw [l23]
    exact cal_of F g b (ok_weight F m_sum c_part)
theorem all_pact (F : FnP K "_law_pact" s_pact f fd) (g : mg "_law_pact" = some (.ref f)) (b : Binds K fd P_pact []) (F2 : FnP K "_law_part" s_part f2 fd2) (g2 : mg "_law_part" = some (.ref f2)) (b2 : Binds K fd2 P_part []) (m_int : mg "int" = none) (m_len : mg "len" = none) (m_range : mg "range" = none) (c_take : Cal P w K mg base 1 "_law_take" (spTake K)) (c_amount : Cal P w K mg base 1 "_law_amount" spAm) : ∀ d, Cal P w K mg base (2 * d + 6) "_law_pact" (spPc K d)
  | 0 => cal_of F g b (no_fn fun vs H Q E h => by obtain ⟨a, p, n, e, ds, ps, ms, _, _, _, z, _⟩ := h; omega)
  | d + 1 => by
    have c_pact := all_pact F g b F2 g2 b2 m_int m_len m_range c_take c_amount d
    have c_part := cal_of F2 g2 b2 (ok_part_ F2 m_int m_len m_range c_take c_amount c_pact)
    rw [l23]
    exact cal_of F g b (ok_pact F m_int m_range c_take c_part)
end
end Z
set_option pp.maxSteps 700
set_option Elab.async false
set_option linter.all false
set_option maxRecDepth 100000
set_option maxHeartbeats 4000000
set_option maxHeartbeats 0
namespace Z
open PySem PySem.Spec PyProof.Rows L2 Pk NdefX
open Zr hiding s_is_party s_is_mark s_check_party s_check_mark s_check_size s_as_pact s_Part___init__ s_Pact___init__ s_Pact___add__ s_Pact___len__ s_members_of s_mover_of s_opened s_chosen s_move_for s_number_in s_check_purses s_check_named s_Play___init__ s_Play_end_rounds s_Play_carry_out s_Play_settle s_Play_move s_Play_purses s_Play_happened s_Play_row s_Play_moves s_Play_coins s_cell s_draws s_take s_marks s_amount s_pact s_part s_weight s_part_weight s_cut s_text s_part_text s_build s_build_part s_is s_says s_names s_coins s_purses s_drawn s_members s_settled s_moved s_step s_number s_move s_over s_row s_texts s_moves s_rich s_stands s_game s_right s_go s_law s_Transfer___init__ s_Event___init__ s_Choice___init__ s_Rounds___init__ s_Endless___init__ s_Times___init__ s_Play_turn s_Play_outcome s_Play_loser
abbrev kk (K : PySem.W.Frag) : Cs := ⟨He.ga K "Transfer", He.ga K "Event", He.ga K "Choice", He.ga K "Rounds", He.ga K "Endless", He.ga K "Times", He.ga K "Pact"⟩
theorem facts {P : Program} {w : World} {K : PySem.W.Frag} {h : Heap} {mg : Str → Option Value} {f : Addr} (X : K.In h) (G : h.Ns mainGlobals mg) (hfa : mg ("law" : Str) = some (.ref f)) (c : He.SaysD fa fn K) (cs : xns.map (fun f => f K) = xvs) (cx : ex K = true) (hfl : ((P.main.file : Str) == fl) = true) (htop : (P.main.scope.names.lookup ("super" : Str)).isSome = false) :
    ∃ fd : FuncData, (∀ (s : Shared) (v : Value), BindsTo s fd ⟨[v], []⟩ [("_law_script", v)]) ∧ ∀ base : Heap, K.In base → base.Ns mainGlobals mg → FnOk P w K mg base CX0 80 f fd ["_law_script"] (spLaw K) := by
  obtain ⟨cx, cu⟩ := He.ba cx
  obtain ⟨cu, cv⟩ := He.ba cu
  obtain ⟨cx, cy⟩ := He.ba cx
  obtain ⟨cp, cu⟩ := He.ba cu
  obtain ⟨ci, ck⟩ := He.ba cv
  obtain ⟨ck, cn⟩ := He.ba ck
  obtain ⟨fd_is_party, F_is_party⟩ := c.def_ 0 (d := d_is_party) rfl
  have F_is_party : FnP K "is_party" s_is_party _ fd_is_party := F_is_party
  have g_is_party := He.glo_ok X G (c.fact 0 (f := .glo "is_party") rfl)
  have b_is_party : Binds K fd_is_party P_is_party [] := F_is_party.bindsN fun _ _ _ _ _ _ us hl => match us, hl with | [_], _ => rfl
  obtain ⟨fd_is_mark, F_is_mark⟩ := c.def_ 1 (d := d_is_mark) rfl
  have F_is_mark : FnP K "is_mark" s_is_mark _ fd_is_mark := F_is_mark
  have g_is_mark := He.glo_ok X G (c.fact 1 (f := .glo "is_mark") rfl)
  have b_is_mark : Binds K fd_is_mark P_is_mark [] := F_is_mark.bindsN fun _ _ _ _ _ _ us hl => match us, hl with | [_], _ => rfl
  obtain ⟨fd_check_party, F_check_party⟩ := c.def_ 2 (d := d_check_party) rfl
  have F_check_party : FnP K "check_party" s_check_party _ fd_check_party := F_check_party
  have g_check_party := He.glo_ok X G (c.fact 2 (f := .glo "check_party") rfl)
  have b_check_party : Binds K fd_check_party P_check_party [] := F_check_party.bindsN fun _ _ _ _ _ _ us hl => match us, hl with | [_], _ => rfl
  obtain ⟨fd_check_mark, F_check_mark⟩ := c.def_ 3 (d := d_check_mark) rfl
  have F_check_mark : FnP K "check_mark" s_check_mark _ fd_check_mark := F_check_mark
  have g_check_mark := He.glo_ok X G (c.fact 3 (f := .glo "check_mark") rfl)
  have b_check_mark : Binds K fd_check_mark P_check_mark [] := F_check_mark.bindsN fun _ _ _ _ _ _ us hl => match us, hl with | [_], _ => rfl
  obtain ⟨fd_check_size, F_check_size⟩ := c.def_ 4 (d := d_check_size) rfl
  have F_check_size : FnP K "check_size" s_check_size _ fd_check_size := F_check_size
  have g_check_size := He.glo_ok X G (c.fact 4 (f := .glo "check_size") rfl)
  have b_check_size : Binds K fd_check_size P_check_size [] := F_check_size.bindsN fun _ _ _ _ _ _ us hl => match us, hl with | [_, _], _ => rfl
  obtain ⟨fd_as_pact, F_as_pact⟩ := c.def_ 5 (d := d_as_pact) rfl
  have F_as_pact : FnP K "as_pact" s_as_pact _ fd_as_pact := F_as_pact
  have g_as_pact := He.glo_ok X G (c.fact 5 (f := .glo "as_pact") rfl)
  have b_as_pact : Binds K fd_as_pact P_as_pact [] := F_as_pact.bindsN fun _ _ _ _ _ _ us hl => match us, hl with | [_], _ => rfl
  obtain ⟨fd_Part___init__, F_Part___init__⟩ := c.def_ 6 (d := d_Part___init__) rfl
  have F_Part___init__ : FnM K "__init__" "Part.__init__" s_Part___init__ (He.ma K (He.ga K "Part") "__init__") fd_Part___init__ := F_Part___init__
  have b_Part___init__ : Binds K fd_Part___init__ P_Part___init__ [] := F_Part___init__.bindsN fun _ _ _ _ _ _ us hl => match us, hl with | [_, _, _, _], _ => rfl
  obtain ⟨fd_Pact___init__, F_Pact___init__⟩ := c.def_ 7 (d := d_Pact___init__) rfl
  have F_Pact___init__ : FnM K "__init__" "Pact.__init__" s_Pact___init__ (He.ma K (He.ga K "Pact") "__init__") fd_Pact___init__ := F_Pact___init__
  have b_Pact___init__ : Binds K fd_Pact___init__ P_Pact___init__ [] := F_Pact___init__.bindsN fun _ _ _ _ _ _ us hl => match us, hl with | [_, _], _ => rfl
  obtain ⟨fd_Pact___add__, F_Pact___add__⟩ := c.def_ 8 (d := d_Pact___add__) rfl
  have F_Pact___add__ : FnM K "__add__" "Pact.__add__" s_Pact___add__ (He.ma K (He.ga K "Pact") "__add__") fd_Pact___add__ := F_Pact___add__
  have b_Pact___add__ : Binds K fd_Pact___add__ P_Pact___add__ [] := F_Pact___add__.bindsN fun _ _ _ _ _ _ us hl => match us, hl with | [_, _], _ => rfl
  obtain ⟨fd_Pact___len__, F_Pact___len__⟩ := c.def_ 9 (d := d_Pact___len__) rfl
  have F_Pact___len__ : FnM K "__len__" "Pact.__len__" s_Pact___len__ (He.ma K (He.ga K "Pact") "__len__") fd_Pact___len__ := F_Pact___len__
  have b_Pact___len__ : Binds K fd_Pact___len__ P_Pact___len__ [] := F_Pact___len__.bindsN fun _ _ _ _ _ _ us hl => match us, hl with | [_], _ => rfl
  obtain ⟨fd_members_of, F_members_of⟩ := c.def_ 10 (d := d_members_of) rfl
  have F_members_of : FnP K "members_of" s_members_of _ fd_members_of := F_members_of
  have g_members_of := He.glo_ok X G (c.fact 6 (f := .glo "members_of") rfl)
  have b_members_of : Binds K fd_members_of P_members_of [] := F_members_of.bindsN fun _ _ _ _ _ _ us hl => match us, hl with | [_], _ => rfl
  obtain ⟨fd_mover_of, F_mover_of⟩ := c.def_ 11 (d := d_mover_of) rfl
  have F_mover_of : FnP K "mover_of" s_mover_of _ fd_mover_of := F_mover_of
  have g_mover_of := He.glo_ok X G (c.fact 7 (f := .glo "mover_of") rfl)
  have b_mover_of : Binds K fd_mover_of P_mover_of [] := F_mover_of.bindsN fun _ _ _ _ _ _ us hl => match us, hl with | [_], _ => rfl
  obtain ⟨fd_opened, F_opened⟩ := c.def_ 12 (d := d_opened) rfl
  have F_opened : FnP K "opened" s_opened _ fd_opened := F_opened
  have g_opened := He.glo_ok X G (c.fact 8 (f := .glo "opened") rfl)
  have b_opened : Binds K fd_opened P_opened [] := F_opened.bindsN fun _ _ _ _ _ _ us hl => match us, hl with | [_], _ => rfl
  obtain ⟨fd_chosen, F_chosen⟩ := c.def_ 13 (d := d_chosen) rfl
  have F_chosen : FnP K "chosen" s_chosen _ fd_chosen := F_chosen
  have g_chosen := He.glo_ok X G (c.fact 9 (f := .glo "chosen") rfl)
  have b_chosen : Binds K fd_chosen P_chosen [] := F_chosen.bindsN fun _ _ _ _ _ _ us hl => match us, hl with | [_, _], _ => rfl
  obtain ⟨fd_move_for, F_move_for⟩ := c.def_ 14 (d := d_move_for) rfl
  have F_move_for : FnP K "move_for" s_move_for _ fd_move_for := F_move_for
  have g_move_for := He.glo_ok X G (c.fact 10 (f := .glo "move_for") rfl)
  have b_move_for : Binds K fd_move_for P_move_for [] := F_move_for.bindsN fun _ _ _ _ _ _ us hl => match us, hl with | [_, _], _ => rfl
  obtain ⟨fd_number_in, F_number_in⟩ := c.def_ 15 (d := d_number_in) rfl
  have F_number_in : FnP K "number_in" s_number_in _ fd_number_in := F_number_in
  have g_number_in := He.glo_ok X G (c.fact 11 (f := .glo "number_in") rfl)
  have b_number_in : Binds K fd_number_in P_number_in [] := F_number_in.bindsN fun _ _ _ _ _ _ us hl => match us, hl with | [_, _], _ => rfl
  obtain ⟨fd_check_purses, F_check_purses⟩ := c.def_ 16 (d := d_check_purses) rfl
  have F_check_purses : FnP K "check_purses" s_check_purses _ fd_check_purses := F_check_purses
  have g_check_purses := He.glo_ok X G (c.fact 12 (f := .glo "check_purses") rfl)
  have b_check_purses : Binds K fd_check_purses P_check_purses [] := F_check_purses.bindsN fun _ _ _ _ _ _ us hl => match us, hl with | [_], _ => rfl
  obtain ⟨fd_check_named, F_check_named⟩ := c.def_ 17 (d := d_check_named) rfl
  have F_check_named : FnP K "check_named" s_check_named _ fd_check_named := F_check_named
  have g_check_named := He.glo_ok X G (c.fact 13 (f := .glo "check_named") rfl)
  have b_check_named : Binds K fd_check_named P_check_named [] := F_check_named.bindsN fun _ _ _ _ _ _ us hl => match us, hl with | [_, _], _ => rfl
  obtain ⟨fd_Play___init__, F_Play___init__⟩ := c.def_ 18 (d := d_Play___init__) rfl
  have F_Play___init__ : FnM K "__init__" "Play.__init__" s_Play___init__ (He.ma K (He.ga K "Play") "__init__") fd_Play___init__ := F_Play___init__
  have b_Play___init__ : Binds K fd_Play___init__ P_Play___init__ [] := F_Play___init__.bindsN fun _ _ _ _ _ _ us hl => match us, hl with | [_, _, _], _ => rfl
  obtain ⟨fd_Play_end_rounds, F_Play_end_rounds⟩ := c.def_ 19 (d := d_Play_end_rounds) rfl
  have F_Play_end_rounds : FnM K "end_rounds" "Play.end_rounds" s_Play_end_rounds (He.ma K (He.ga K "Play") "end_rounds") fd_Play_end_rounds := F_Play_end_rounds
  have b_Play_end_rounds : Binds K fd_Play_end_rounds P_Play_end_rounds [] := F_Play_end_rounds.bindsN fun _ _ _ _ _ _ us hl => match us, hl with | [_], _ => rfl
  obtain ⟨fd_Play_carry_out, F_Play_carry_out⟩ := c.def_ 20 (d := d_Play_carry_out) rfl
  have F_Play_carry_out : FnM K "carry_out" "Play.carry_out" s_Play_carry_out (He.ma K (He.ga K "Play") "carry_out") fd_Play_carry_out := F_Play_carry_out
  have b_Play_carry_out : Binds K fd_Play_carry_out P_Play_carry_out [] := F_Play_carry_out.bindsN fun _ _ _ _ _ _ us hl => match us, hl with | [_, _], _ => rfl
  obtain ⟨fd_Play_settle, F_Play_settle⟩ := c.def_ 21 (d := d_Play_settle) rfl
  have F_Play_settle : FnM K "settle" "Play.settle" s_Play_settle (He.ma K (He.ga K "Play") "settle") fd_Play_settle := F_Play_settle
  have b_Play_settle : Binds K fd_Play_settle P_Play_settle [] := F_Play_settle.bindsN fun _ _ _ _ _ _ us hl => match us, hl with | [_], _ => rfl
  obtain ⟨fd_Play_move, F_Play_move⟩ := c.def_ 22 (d := d_Play_move) rfl
  have F_Play_move : FnM K "move" "Play.move" s_Play_move (He.ma K (He.ga K "Play") "move") fd_Play_move := F_Play_move
  have b_Play_move : Binds K fd_Play_move P_Play_move [] := F_Play_move.bindsN fun _ _ _ _ _ _ us hl => match us, hl with | [_, _], _ => rfl
  obtain ⟨fd_Play_purses, F_Play_purses⟩ := c.def_ 23 (d := d_Play_purses) rfl
  have F_Play_purses : FnM K "purses" "Play.purses" s_Play_purses (He.ma K (He.ga K "Play") "purses") fd_Play_purses := F_Play_purses
  have b_Play_purses : Binds K fd_Play_purses P_Play_purses [] := F_Play_purses.bindsN fun _ _ _ _ _ _ us hl => match us, hl with | [_], _ => rfl
  obtain ⟨fd_Play_happened, F_Play_happened⟩ := c.def_ 24 (d := d_Play_happened) rfl
  have F_Play_happened : FnM K "happened" "Play.happened" s_Play_happened (He.ma K (He.ga K "Play") "happened") fd_Play_happened := F_Play_happened
  have b_Play_happened : Binds K fd_Play_happened P_Play_happened [] := F_Play_happened.bindsN fun _ _ _ _ _ _ us hl => match us, hl with | [_], _ => rfl
  obtain ⟨fd_Play_row, F_Play_row⟩ := c.def_ 25 (d := d_Play_row) rfl
  have F_Play_row : FnM K "row" "Play.row" s_Play_row (He.ma K (He.ga K "Play") "row") fd_Play_row := F_Play_row
  have b_Play_row : Binds K fd_Play_row P_Play_row [] := F_Play_row.bindsN fun _ _ _ _ _ _ us hl => match us, hl with | [_], _ => rfl
  obtain ⟨fd_Play_moves, F_Play_moves⟩ := c.def_ 26 (d := d_Play_moves) rfl
  have F_Play_moves : FnM K "moves" "Play.moves" s_Play_moves (He.ma K (He.ga K "Play") "moves") fd_Play_moves := F_Play_moves
  have b_Play_moves : Binds K fd_Play_moves P_Play_moves [] := F_Play_moves.bindsN fun _ _ _ _ _ _ us hl => match us, hl with | [_], _ => rfl
  obtain ⟨fd_Play_coins, F_Play_coins⟩ := c.def_ 27 (d := d_Play_coins) rfl
  have F_Play_coins : FnM K "coins" "Play.coins" s_Play_coins (He.ma K (He.ga K "Play") "coins") fd_Play_coins := F_Play_coins
  have b_Play_coins : Binds K fd_Play_coins P_Play_coins [] := F_Play_coins.bindsN fun _ _ _ _ _ _ us hl => match us, hl with | [_, _], _ => rfl
  obtain ⟨fd_cell, F_cell⟩ := c.def_ 28 (d := d_cell) rfl
  have F_cell : FnP K "_law_cell" s_cell _ fd_cell := F_cell
  have g_cell := He.glo_ok X G (c.fact 14 (f := .glo "_law_cell") rfl)
  have b_cell : Binds K fd_cell P_cell [] := F_cell.bindsN fun _ _ _ _ _ _ us hl => match us, hl with | [_, _], _ => rfl
  obtain ⟨fd_draws, F_draws⟩ := c.def_ 29 (d := d_draws) rfl
  have F_draws : FnP K "_law_draws" s_draws _ fd_draws := F_draws
  have g_draws := He.glo_ok X G (c.fact 15 (f := .glo "_law_draws") rfl)
  have b_draws : Binds K fd_draws P_draws [] := F_draws.bindsN fun _ _ _ _ _ _ us hl => match us, hl with | [_, _], _ => rfl
  obtain ⟨fd_take, F_take⟩ := c.def_ 30 (d := d_take) rfl
  have F_take : FnP K "_law_take" s_take _ fd_take := F_take
  have g_take := He.glo_ok X G (c.fact 16 (f := .glo "_law_take") rfl)
  have b_take : Binds K fd_take P_take [] := F_take.bindsN fun _ _ _ _ _ _ us hl => match us, hl with | [_, _], _ => rfl
  obtain ⟨fd_marks, F_marks⟩ := c.def_ 31 (d := d_marks) rfl
  have F_marks : FnP K "_law_marks" s_marks _ fd_marks := F_marks
  have g_marks := He.glo_ok X G (c.fact 17 (f := .glo "_law_marks") rfl)
  have b_marks : Binds K fd_marks P_marks [] := F_marks.bindsN fun _ _ _ _ _ _ us hl => match us, hl with | [], _ => rfl
  obtain ⟨fd_amount, F_amount⟩ := c.def_ 32 (d := d_amount) rfl
  have F_amount : FnP K "_law_amount" s_amount _ fd_amount := F_amount
  have g_amount := He.glo_ok X G (c.fact 18 (f := .glo "_law_amount") rfl)
  have b_amount : Binds K fd_amount P_amount [] := F_amount.bindsN fun _ _ _ _ _ _ us hl => match us, hl with | [_], _ => rfl
  obtain ⟨fd_pact, F_pact⟩ := c.def_ 33 (d := d_pact) rfl
  have F_pact : FnP K "_law_pact" s_pact _ fd_pact := F_pact
  have g_pact := He.glo_ok X G (c.fact 19 (f := .glo "_law_pact") rfl)
  have b_pact : Binds K fd_pact P_pact [] := F_pact.bindsN fun _ _ _ _ _ _ us hl => match us, hl with | [_, _, _, _, _], _ => rfl
  obtain ⟨fd_part, F_part⟩ := c.def_ 34 (d := d_part) rfl
  have F_part : FnP K "_law_part" s_part _ fd_part := F_part
  have g_part := He.glo_ok X G (c.fact 20 (f := .glo "_law_part") rfl)
  have b_part : Binds K fd_part P_part [] := F_part.bindsN fun _ _ _ _ _ _ us hl => match us, hl with | [_, _, _, _, _], _ => rfl
  obtain ⟨fd_weight, F_weight⟩ := c.def_ 35 (d := d_weight) rfl
  have F_weight : FnP K "_law_weight" s_weight _ fd_weight := F_weight
  have g_weight := He.glo_ok X G (c.fact 21 (f := .glo "_law_weight") rfl)
  have b_weight : Binds K fd_weight P_weight [] := F_weight.bindsN fun _ _ _ _ _ _ us hl => match us, hl with | [_], _ => rfl
  obtain ⟨fd_part_weight, F_part_weight⟩ := c.def_ 36 (d := d_part_weight) rfl
  have F_part_weight : FnP K "_law_part_weight" s_part_weight _ fd_part_weight := F_part_weight
  have g_part_weight := He.glo_ok X G (c.fact 22 (f := .glo "_law_part_weight") rfl)
  have b_part_weight : Binds K fd_part_weight P_part_weight [] := F_part_weight.bindsN fun _ _ _ _ _ _ us hl => match us, hl with | [_], _ => rfl
  obtain ⟨fd_cut, F_cut⟩ := c.def_ 37 (d := d_cut) rfl
  have F_cut : FnP K "_law_cut" s_cut _ fd_cut := F_cut
  have g_cut := He.glo_ok X G (c.fact 23 (f := .glo "_law_cut") rfl)
  have b_cut : Binds K fd_cut P_cut [] := F_cut.bindsN fun _ _ _ _ _ _ us hl => match us, hl with | [_, _], _ => rfl
  obtain ⟨fd_text, F_text⟩ := c.def_ 38 (d := d_text) rfl
  have F_text : FnP K "_law_text" s_text _ fd_text := F_text
  have g_text := He.glo_ok X G (c.fact 24 (f := .glo "_law_text") rfl)
  have b_text : Binds K fd_text P_text [] := F_text.bindsN fun _ _ _ _ _ _ us hl => match us, hl with | [_], _ => rfl
  obtain ⟨fd_part_text, F_part_text⟩ := c.def_ 39 (d := d_part_text) rfl
  have F_part_text : FnP K "_law_part_text" s_part_text _ fd_part_text := F_part_text
  have g_part_text := He.glo_ok X G (c.fact 25 (f := .glo "_law_part_text") rfl)
  have b_part_text : Binds K fd_part_text P_part_text [] := F_part_text.bindsN fun _ _ _ _ _ _ us hl => match us, hl with | [_], _ => rfl
  obtain ⟨fd_build, F_build⟩ := c.def_ 40 (d := d_build) rfl
  have F_build : FnP K "_law_build" s_build _ fd_build := F_build
  have g_build := He.glo_ok X G (c.fact 26 (f := .glo "_law_build") rfl)
  have b_build : Binds K fd_build P_build [] := F_build.bindsN fun _ _ _ _ _ _ us hl => match us, hl with | [_], _ => rfl
  obtain ⟨fd_build_part, F_build_part⟩ := c.def_ 41 (d := d_build_part) rfl
  have F_build_part : FnP K "_law_build_part" s_build_part _ fd_build_part := F_build_part
  have g_build_part := He.glo_ok X G (c.fact 27 (f := .glo "_law_build_part") rfl)
  have b_build_part : Binds K fd_build_part P_build_part [] := F_build_part.bindsN fun _ _ _ _ _ _ us hl => match us, hl with | [_], _ => rfl
  obtain ⟨fd_is, F_is⟩ := c.def_ 42 (d := d_is) rfl
  have F_is : FnP K "_law_is" s_is _ fd_is := F_is
  have g_is := He.glo_ok X G (c.fact 28 (f := .glo "_law_is") rfl)
  have b_is : Binds K fd_is P_is [] := F_is.bindsN fun _ _ _ _ _ _ us hl => match us, hl with | [_, _], _ => rfl
  obtain ⟨fd_says, F_says⟩ := c.def_ 43 (d := d_says) rfl
  have F_says : FnP K "_law_says" s_says _ fd_says := F_says
  have g_says := He.glo_ok X G (c.fact 29 (f := .glo "_law_says") rfl)
  have b_says : Binds K fd_says P_says [] := F_says.bindsN fun _ _ _ _ _ _ us hl => match us, hl with | [_, _], _ => rfl
  obtain ⟨fd_names, F_names⟩ := c.def_ 44 (d := d_names) rfl
  have F_names : FnP K "_law_names" s_names _ fd_names := F_names
  have g_names := He.glo_ok X G (c.fact 30 (f := .glo "_law_names") rfl)
  have b_names : Binds K fd_names P_names [] := F_names.bindsN fun _ _ _ _ _ _ us hl => match us, hl with | [_], _ => rfl
  obtain ⟨fd_coins, F_coins⟩ := c.def_ 45 (d := d_coins) rfl
  have F_coins : FnP K "_law_coins" s_coins _ fd_coins := F_coins
  have g_coins := He.glo_ok X G (c.fact 31 (f := .glo "_law_coins") rfl)
  have b_coins : Binds K fd_coins P_coins [] := F_coins.bindsN fun _ _ _ _ _ _ us hl => match us, hl with | [_, _], _ => rfl
  obtain ⟨fd_purses, F_purses⟩ := c.def_ 46 (d := d_purses) rfl
  have F_purses : FnP K "_law_purses" s_purses _ fd_purses := F_purses
  have g_purses := He.glo_ok X G (c.fact 32 (f := .glo "_law_purses") rfl)
  have b_purses : Binds K fd_purses P_purses [] := F_purses.bindsN fun _ _ _ _ _ _ us hl => match us, hl with | [_, _, _, _], _ => rfl
  obtain ⟨fd_drawn, F_drawn⟩ := c.def_ 47 (d := d_drawn) rfl
  have F_drawn : FnP K "_law_drawn" s_drawn _ fd_drawn := F_drawn
  have g_drawn := He.glo_ok X G (c.fact 33 (f := .glo "_law_drawn") rfl)
  have b_drawn : Binds K fd_drawn P_drawn [] := F_drawn.bindsN fun _ _ _ _ _ _ us hl => match us, hl with | [_, _, _], _ => rfl
  obtain ⟨fd_members, F_members⟩ := c.def_ 48 (d := d_members) rfl
  have F_members : FnP K "_law_members" s_members _ fd_members := F_members
  have g_members := He.glo_ok X G (c.fact 34 (f := .glo "_law_members") rfl)
  have b_members : Binds K fd_members P_members [] := F_members.bindsN fun _ _ _ _ _ _ us hl => match us, hl with | [_], _ => rfl
  obtain ⟨fd_settled, F_settled⟩ := c.def_ 49 (d := d_settled) rfl
  have F_settled : FnP K "_law_settled" s_settled _ fd_settled := F_settled
  have g_settled := He.glo_ok X G (c.fact 35 (f := .glo "_law_settled") rfl)
  have b_settled : Binds K fd_settled P_settled [] := F_settled.bindsN fun _ _ _ _ _ _ us hl => match us, hl with | [_, _, _], _ => rfl
  obtain ⟨fd_moved, F_moved⟩ := c.def_ 50 (d := d_moved) rfl
  have F_moved : FnP K "_law_moved" s_moved _ fd_moved := F_moved
  have g_moved := He.glo_ok X G (c.fact 36 (f := .glo "_law_moved") rfl)
  have b_moved : Binds K fd_moved P_moved [] := F_moved.bindsN fun _ _ _ _ _ _ us hl => match us, hl with | [_, _], _ => rfl
  obtain ⟨fd_step, F_step⟩ := c.def_ 51 (d := d_step) rfl
  have F_step : FnP K "_law_step" s_step _ fd_step := F_step
  have g_step := He.glo_ok X G (c.fact 37 (f := .glo "_law_step") rfl)
  have b_step : Binds K fd_step P_step [] := F_step.bindsN fun _ _ _ _ _ _ us hl => match us, hl with | [_, _, _, _], _ => rfl
  obtain ⟨fd_number, F_number⟩ := c.def_ 52 (d := d_number) rfl
  have F_number : FnP K "_law_number" s_number _ fd_number := F_number
  have g_number := He.glo_ok X G (c.fact 38 (f := .glo "_law_number") rfl)
  have b_number : Binds K fd_number P_number [] := F_number.bindsN fun _ _ _ _ _ _ us hl => match us, hl with | [_, _], _ => rfl
  obtain ⟨fd_move, F_move⟩ := c.def_ 53 (d := d_move) rfl
  have F_move : FnP K "_law_move" s_move _ fd_move := F_move
  have g_move := He.glo_ok X G (c.fact 39 (f := .glo "_law_move") rfl)
  have b_move : Binds K fd_move P_move [] := F_move.bindsN fun _ _ _ _ _ _ us hl => match us, hl with | [_, _], _ => rfl
  obtain ⟨fd_over, F_over⟩ := c.def_ 54 (d := d_over) rfl
  have F_over : FnP K "_law_over" s_over _ fd_over := F_over
  have g_over := He.glo_ok X G (c.fact 40 (f := .glo "_law_over") rfl)
  have b_over : Binds K fd_over P_over [] := F_over.bindsN fun _ _ _ _ _ _ us hl => match us, hl with | [_], _ => rfl
  obtain ⟨fd_row, F_row⟩ := c.def_ 55 (d := d_row) rfl
  have F_row : FnP K "_law_row" s_row _ fd_row := F_row
  have g_row := He.glo_ok X G (c.fact 41 (f := .glo "_law_row") rfl)
  have b_row : Binds K fd_row P_row [] := F_row.bindsN fun _ _ _ _ _ _ us hl => match us, hl with | [_, _], _ => rfl
  obtain ⟨fd_texts, F_texts⟩ := c.def_ 56 (d := d_texts) rfl
  have F_texts : FnP K "_law_texts" s_texts _ fd_texts := F_texts
  have g_texts := He.glo_ok X G (c.fact 42 (f := .glo "_law_texts") rfl)
  have b_texts : Binds K fd_texts P_texts [] := F_texts.bindsN fun _ _ _ _ _ _ us hl => match us, hl with | [_, _], _ => rfl
  obtain ⟨fd_moves, F_moves⟩ := c.def_ 57 (d := d_moves) rfl
  have F_moves : FnP K "_law_moves" s_moves _ fd_moves := F_moves
  have g_moves := He.glo_ok X G (c.fact 43 (f := .glo "_law_moves") rfl)
  have b_moves : Binds K fd_moves P_moves [] := F_moves.bindsN fun _ _ _ _ _ _ us hl => match us, hl with | [_, _], _ => rfl
  obtain ⟨fd_rich, F_rich⟩ := c.def_ 58 (d := d_rich) rfl
  have F_rich : FnP K "_law_rich" s_rich _ fd_rich := F_rich
  have g_rich := He.glo_ok X G (c.fact 44 (f := .glo "_law_rich") rfl)
  have b_rich : Binds K fd_rich P_rich [] := F_rich.bindsN fun _ _ _ _ _ _ us hl => match us, hl with | [_, _], _ => rfl
  obtain ⟨fd_stands, F_stands⟩ := c.def_ 59 (d := d_stands) rfl
  have F_stands : FnP K "_law_stands" s_stands _ fd_stands := F_stands
  have g_stands := He.glo_ok X G (c.fact 45 (f := .glo "_law_stands") rfl)
  have b_stands : Binds K fd_stands P_stands [] := F_stands.bindsN fun _ _ _ _ _ _ us hl => match us, hl with | [_, _, _, _, _, _], _ => rfl
  obtain ⟨fd_game, F_game⟩ := c.def_ 60 (d := d_game) rfl
  have F_game : FnP K "_law_game" s_game _ fd_game := F_game
  have g_game := He.glo_ok X G (c.fact 46 (f := .glo "_law_game") rfl)
  have b_game : Binds K fd_game P_game [] := F_game.bindsN fun _ _ _ _ _ _ us hl => match us, hl with | [_, _, _], _ => rfl
  obtain ⟨fd_right, F_right⟩ := c.def_ 61 (d := d_right) rfl
  have F_right : FnP K "_law_right" s_right _ fd_right := F_right
  have g_right := He.glo_ok X G (c.fact 47 (f := .glo "_law_right") rfl)
  have b_right : Binds K fd_right P_right [] := F_right.bindsN fun _ _ _ _ _ _ us hl => match us, hl with | [_], _ => rfl
  obtain ⟨fd_go, F_go⟩ := c.def_ 62 (d := d_go) rfl
  have F_go : FnP K "_law_go" s_go _ fd_go := F_go
  have g_go := He.glo_ok X G (c.fact 48 (f := .glo "_law_go") rfl)
  have b_go : Binds K fd_go P_go [] := F_go.bindsN fun _ _ _ _ _ _ us hl => match us, hl with | [_, _], _ => rfl
  obtain ⟨fd_law, F_law⟩ := c.def_ 63 (d := d_law) rfl
  have F_law : FnP K "law" s_law _ fd_law := F_law
  have g_law := He.glo_ok X G (c.fact 49 (f := .glo "law") rfl)
  have m_abs := He.free_ok X G (c.fact 50 (f := .free "abs") rfl)
  have m_all := He.free_ok X G (c.fact 51 (f := .free "all") rfl)
  have m_bool := He.free_ok X G (c.fact 52 (f := .free "bool") rfl)
  have m_dict := He.free_ok X G (c.fact 53 (f := .free "dict") rfl)
  have m_int := He.free_ok X G (c.fact 54 (f := .free "int") rfl)
  have m_isinstance := He.free_ok X G (c.fact 55 (f := .free "isinstance") rfl)
  have m_len := He.free_ok X G (c.fact 56 (f := .free "len") rfl)
  have m_list := He.free_ok X G (c.fact 57 (f := .free "list") rfl)
  have m_max := He.free_ok X G (c.fact 58 (f := .free "max") rfl)
  have m_range := He.free_ok X G (c.fact 59 (f := .free "range") rfl)
  have m_str := He.free_ok X G (c.fact 60 (f := .free "str") rfl)
  have m_sum := He.free_ok X G (c.fact 61 (f := .free "sum") rfl)
  have m_super := He.free_ok X G (c.fact 62 (f := .free "super") rfl)
  have m_tuple := He.free_ok X G (c.fact 63 (f := .free "tuple") rfl)
  have g_Part := He.glo_ok X G (c.fact 64 (f := .glo "Part") rfl)
  have cls_Part := He.cls_ok (c.fact 65 (f := .cls "Part") rfl)
  have mk_Part := He.mkr_ok (c.fact 66 (f := .mkr "Part") rfl)
  have g_Pact := He.glo_ok X G (c.fact 67 (f := .glo "Pact") rfl)
  have cls_Pact := He.cls_ok (c.fact 68 (f := .cls "Pact") rfl)
  have mk_Pact := He.mkr_ok (c.fact 69 (f := .mkr "Pact") rfl)
  have n_Pact_parts := He.noat_ok (c.fact 70 (f := .noat "Pact" "parts") rfl)
  have n_Pact_weight := He.noat_ok (c.fact 71 (f := .noat "Pact" "weight") rfl)
  have n_Pact_depth := He.noat_ok (c.fact 72 (f := .noat "Pact" "depth") rfl)
  have n_Pact_text := He.noat_ok (c.fact 73 (f := .noat "Pact" "text") rfl)
  have g_Transfer := He.glo_ok X G (c.fact 74 (f := .glo "Transfer") rfl)
  have cls_Transfer := He.cls_ok (c.fact 75 (f := .cls "Transfer") rfl)
  have mk_Transfer := He.mkr_ok (c.fact 76 (f := .mkr "Transfer") rfl)
  have n_Transfer_payer := He.noat_ok (c.fact 77 (f := .noat "Transfer" "payer") rfl)
  have n_Transfer_payee := He.noat_ok (c.fact 78 (f := .noat "Transfer" "payee") rfl)
  have n_Transfer_amount := He.noat_ok (c.fact 79 (f := .noat "Transfer" "amount") rfl)
  have n_Transfer_weight := He.noat_ok (c.fact 80 (f := .noat "Transfer" "weight") rfl)
  have n_Transfer_depth := He.noat_ok (c.fact 81 (f := .noat "Transfer" "depth") rfl)
  have n_Transfer_text := He.noat_ok (c.fact 82 (f := .noat "Transfer" "text") rfl)
  have g_Event := He.glo_ok X G (c.fact 83 (f := .glo "Event") rfl)
  have cls_Event := He.cls_ok (c.fact 84 (f := .cls "Event") rfl)
  have mk_Event := He.mkr_ok (c.fact 85 (f := .mkr "Event") rfl)
  have n_Event_mark := He.noat_ok (c.fact 86 (f := .noat "Event" "mark") rfl)
  have n_Event_weight := He.noat_ok (c.fact 87 (f := .noat "Event" "weight") rfl)
  have n_Event_depth := He.noat_ok (c.fact 88 (f := .noat "Event" "depth") rfl)
  have n_Event_text := He.noat_ok (c.fact 89 (f := .noat "Event" "text") rfl)
  have g_Choice := He.glo_ok X G (c.fact 90 (f := .glo "Choice") rfl)
  have cls_Choice := He.cls_ok (c.fact 91 (f := .cls "Choice") rfl)
  have mk_Choice := He.mkr_ok (c.fact 92 (f := .mkr "Choice") rfl)
  have n_Choice_owner := He.noat_ok (c.fact 93 (f := .noat "Choice" "owner") rfl)
  have n_Choice_options := He.noat_ok (c.fact 94 (f := .noat "Choice" "options") rfl)
  have n_Choice_weight := He.noat_ok (c.fact 95 (f := .noat "Choice" "weight") rfl)
  have n_Choice_depth := He.noat_ok (c.fact 96 (f := .noat "Choice" "depth") rfl)
  have n_Choice_text := He.noat_ok (c.fact 97 (f := .noat "Choice" "text") rfl)
  have g_Rounds := He.glo_ok X G (c.fact 98 (f := .glo "Rounds") rfl)
  have cls_Rounds := He.cls_ok (c.fact 99 (f := .cls "Rounds") rfl)
  have mk_Rounds := He.mkr_ok (c.fact 100 (f := .mkr "Rounds") rfl)
  have n_Rounds_owner := He.noat_ok (c.fact 101 (f := .noat "Rounds" "owner") rfl)
  have n_Rounds_body := He.noat_ok (c.fact 102 (f := .noat "Rounds" "body") rfl)
  have n_Rounds_weight := He.noat_ok (c.fact 103 (f := .noat "Rounds" "weight") rfl)
  have n_Rounds_depth := He.noat_ok (c.fact 104 (f := .noat "Rounds" "depth") rfl)
  have n_Rounds_text := He.noat_ok (c.fact 105 (f := .noat "Rounds" "text") rfl)
  have g_Endless := He.glo_ok X G (c.fact 106 (f := .glo "Endless") rfl)
  have cls_Endless := He.cls_ok (c.fact 107 (f := .cls "Endless") rfl)
  have mk_Endless := He.mkr_ok (c.fact 108 (f := .mkr "Endless") rfl)
  have n_Endless_body := He.noat_ok (c.fact 109 (f := .noat "Endless" "body") rfl)
  have n_Endless_weight := He.noat_ok (c.fact 110 (f := .noat "Endless" "weight") rfl)
  have n_Endless_depth := He.noat_ok (c.fact 111 (f := .noat "Endless" "depth") rfl)
  have n_Endless_text := He.noat_ok (c.fact 112 (f := .noat "Endless" "text") rfl)
  have g_Times := He.glo_ok X G (c.fact 113 (f := .glo "Times") rfl)
  have cls_Times := He.cls_ok (c.fact 114 (f := .cls "Times") rfl)
  have mk_Times := He.mkr_ok (c.fact 115 (f := .mkr "Times") rfl)
  have n_Times_count := He.noat_ok (c.fact 116 (f := .noat "Times" "count") rfl)
  have n_Times_body := He.noat_ok (c.fact 117 (f := .noat "Times" "body") rfl)
  have n_Times_weight := He.noat_ok (c.fact 118 (f := .noat "Times" "weight") rfl)
  have n_Times_depth := He.noat_ok (c.fact 119 (f := .noat "Times" "depth") rfl)
  have n_Times_text := He.noat_ok (c.fact 120 (f := .noat "Times" "text") rfl)
  have g_Play := He.glo_ok X G (c.fact 121 (f := .glo "Play") rfl)
  have cls_Play := He.cls_ok (c.fact 122 (f := .cls "Play") rfl)
  have mk_Play := He.mkr_ok (c.fact 123 (f := .mkr "Play") rfl)
  have n_Play_kept_purses := He.noat_ok (c.fact 124 (f := .noat "Play" "kept_purses") rfl)
  have n_Play_kept_row := He.noat_ok (c.fact 125 (f := .noat "Play" "kept_row") rfl)
  have n_Play_kept_happened := He.noat_ok (c.fact 126 (f := .noat "Play" "kept_happened") rfl)
  have n_Play_kept_past := He.noat_ok (c.fact 127 (f := .noat "Play" "kept_past") rfl)
  have n_Play_kept_outcome := He.noat_ok (c.fact 128 (f := .noat "Play" "kept_outcome") rfl)
  have n_Play_kept_loser := He.noat_ok (c.fact 129 (f := .noat "Play" "kept_loser") rfl)
  have me_Play_end_rounds := He.meth_ok (c.fact 130 (f := .meth "Play" "end_rounds") rfl)
  have me_Play_carry_out := He.meth_ok (c.fact 131 (f := .meth "Play" "carry_out") rfl)
  have me_Play_settle := He.meth_ok (c.fact 132 (f := .meth "Play" "settle") rfl)
  have me_Play_move := He.meth_ok (c.fact 133 (f := .meth "Play" "move") rfl)
  have me_Play_purses := He.meth_ok (c.fact 134 (f := .meth "Play" "purses") rfl)
  have me_Play_happened := He.meth_ok (c.fact 135 (f := .meth "Play" "happened") rfl)
  have me_Play_row := He.meth_ok (c.fact 136 (f := .meth "Play" "row") rfl)
  have me_Play_moves := He.meth_ok (c.fact 137 (f := .meth "Play" "moves") rfl)
  have me_Play_coins := He.meth_ok (c.fact 138 (f := .meth "Play" "coins") rfl)
  have g0_MOST_AMOUNT := He.int_ok X G (c.fact 139 (f := .int "MOST_AMOUNT" (1000000000000000000000000000000000000000000000000000000000000)) rfl)
  obtain ⟨tok_MOST_AMOUNT, g_MOST_AMOUNT⟩ := g0_MOST_AMOUNT
  have g0_MOST_WEIGHT := He.int_ok X G (c.fact 140 (f := .int "MOST_WEIGHT" (400)) rfl)
  obtain ⟨tok_MOST_WEIGHT, g_MOST_WEIGHT⟩ := g0_MOST_WEIGHT
  have g0_MOST_DEPTH := He.int_ok X G (c.fact 141 (f := .int "MOST_DEPTH" (30)) rfl)
  obtain ⟨tok_MOST_DEPTH, g_MOST_DEPTH⟩ := g0_MOST_DEPTH
  have g0_MOST_COUNT := He.int_ok X G (c.fact 142 (f := .int "MOST_COUNT" (100)) rfl)
  obtain ⟨tok_MOST_COUNT, g_MOST_COUNT⟩ := g0_MOST_COUNT
  have g0_MOST_OPTIONS := He.int_ok X G (c.fact 143 (f := .int "MOST_OPTIONS" (6)) rfl)
  obtain ⟨tok_MOST_OPTIONS, g_MOST_OPTIONS⟩ := g0_MOST_OPTIONS
  have g0_PARTIES := He.str_ok X G (c.fact 144 (f := .str "PARTIES" "abcdef") rfl)
  obtain ⟨tok_PARTIES, g_PARTIES⟩ := g0_PARTIES
  have g0_MARKS := He.str_ok X G (c.fact 145 (f := .str "MARKS" "ABCDEFGHIJKLMNOPQRSTUVWXYZ") rfl)
  obtain ⟨tok_MARKS, g_MARKS⟩ := g0_MARKS
  have g_BadParty := He.glo_ok X G (c.fact 146 (f := .glo "BadParty") rfl)
  obtain ⟨fd_Play_turn, p_Play_turn, F_Play_turn⟩ := prop_of (x := "Play") (m := "turn") (q := "Play.turn") (st := s_Play_turn) (y_at cs 1) (all_at cp 0)
  have b_Play_turn : Binds K fd_Play_turn P_Play_turn [] := F_Play_turn.bindsN fun _ _ _ _ _ _ us hl => match us, hl with | [_], _ => rfl
  obtain ⟨fd_Play_outcome, p_Play_outcome, F_Play_outcome⟩ := prop_of (x := "Play") (m := "outcome") (q := "Play.outcome") (st := s_Play_outcome) (y_at cs 2) (all_at cp 1)
  have b_Play_outcome : Binds K fd_Play_outcome P_Play_outcome [] := F_Play_outcome.bindsN fun _ _ _ _ _ _ us hl => match us, hl with | [_], _ => rfl
  obtain ⟨fd_Play_loser, p_Play_loser, F_Play_loser⟩ := prop_of (x := "Play") (m := "loser") (q := "Play.loser") (st := s_Play_loser) (y_at cs 3) (all_at cp 2)
  have b_Play_loser : Binds K fd_Play_loser P_Play_loser [] := F_Play_loser.bindsN fun _ _ _ _ _ _ us hl => match us, hl with | [_], _ => rfl
  have f_BadParty := exnB_ok (all_at cy 0)
  have x_BadParty : ∀ base : Heap, Exn P w K mg base "BadParty" (He.ga K "BadParty") "party" := fun base => xn_BadParty (y_at cs 0) f_BadParty hfl htop g_BadParty m_super
  obtain ⟨fd_Transfer___init__, c_, cc_, kV_, doc_, pm_, ct_, an_, hfd_, SI_Transfer⟩ := supI_of (P := P) (x := "Transfer") (y := "Part") (q := "Transfer.__init__") (st := s_Transfer___init__) (y_at cs 4) (all_at cu 0) hfl htop
  have b_Transfer___init__ : Binds K fd_Transfer___init__ P_Transfer___init__ [] := by
    subst hfd_
    exact Binds.all fun us hl => match us, hl with | [_, _, _, _], _ => rfl
  obtain ⟨fd_Event___init__, c_, cc_, kV_, doc_, pm_, ct_, an_, hfd_, SI_Event⟩ := supI_of (P := P) (x := "Event") (y := "Part") (q := "Event.__init__") (st := s_Event___init__) (y_at cs 5) (all_at cu 1) hfl htop
  have b_Event___init__ : Binds K fd_Event___init__ P_Event___init__ [] := by
    subst hfd_
    exact Binds.all fun us hl => match us, hl with | [_, _], _ => rfl
  obtain ⟨fd_Choice___init__, c_, cc_, kV_, doc_, pm_, ct_, an_, hfd_, SI_Choice⟩ := supI_of (P := P) (x := "Choice") (y := "Part") (q := "Choice.__init__") (st := s_Choice___init__) (y_at cs 6) (all_at cu 2) hfl htop
  have b_Choice___init__ : Binds K fd_Choice___init__ P_Choice___init__ [] := by
    subst hfd_
    exact Binds.all fun us hl => match us, hl with | [_, _, _], _ => rfl
  obtain ⟨fd_Rounds___init__, c_, cc_, kV_, doc_, pm_, ct_, an_, hfd_, SI_Rounds⟩ := supI_of (P := P) (x := "Rounds") (y := "Part") (q := "Rounds.__init__") (st := s_Rounds___init__) (y_at cs 7) (all_at cu 3) hfl htop
  have b_Rounds___init__ : Binds K fd_Rounds___init__ P_Rounds___init__ [] := by
    subst hfd_
    exact Binds.all fun us hl => match us, hl with | [_, _, _], _ => rfl
  obtain ⟨fd_Endless___init__, c_, cc_, kV_, doc_, pm_, ct_, an_, hfd_, SI_Endless⟩ := supI_of (P := P) (x := "Endless") (y := "Part") (q := "Endless.__init__") (st := s_Endless___init__) (y_at cs 8) (all_at cu 4) hfl htop
  have b_Endless___init__ : Binds K fd_Endless___init__ P_Endless___init__ [] := by
    subst hfd_
    exact Binds.all fun us hl => match us, hl with | [_, _], _ => rfl
  obtain ⟨fd_Times___init__, c_, cc_, kV_, doc_, pm_, ct_, an_, hfd_, SI_Times⟩ := supI_of (P := P) (x := "Times") (y := "Part") (q := "Times.__init__") (st := s_Times___init__) (y_at cs 9) (all_at cu 5) hfl htop
  have b_Times___init__ : Binds K fd_Times___init__ P_Times___init__ [] := by
    subst hfd_
    exact Binds.all fun us hl => match us, hl with | [_, _, _], _ => rfl
  have isP := isB_ok cls_Pact (all_at cx 0)
  have nd : ∀ {b : Bool}, (!b) = true → b = false := fun {b} h => by cases b <;> first | rfl | cases h
  have py : PlA K (kk K) (He.ga K "Play") := ⟨cls_Play, n_Play_kept_purses, n_Play_kept_row, n_Play_kept_happened, n_Play_kept_past, n_Play_kept_outcome, n_Play_kept_loser, of_decide_eq_false (nd (all_at cx 1)), of_decide_eq_false (nd (all_at cx 2)), of_decide_eq_false (nd (all_at cx 3)), of_decide_eq_false (nd (all_at cx 4)), of_decide_eq_false (nd (all_at cx 5)), of_decide_eq_false (nd (all_at cx 6)), of_decide_eq_false (nd (all_at cx 7))⟩

  have fl_Transfer : Fl3 K (He.ga K "Transfer") := ⟨cls_Transfer, n_Transfer_weight, n_Transfer_depth, n_Transfer_text⟩
  have pk_Transfer : PtK K (He.ga K "Part") (He.ga K "Transfer") := ⟨fl_Transfer, of_decide_eq_true (all_at ck 0), isB_ok cls_Transfer (all_at ci 0)⟩
  have kd_Transfer : ∃ u, Con K (He.ga K "Transfer") "KIND" (.str "transfer") u := conB_ok (by decide +kernel) (all_at cn 0)
  have fl_Event : Fl3 K (He.ga K "Event") := ⟨cls_Event, n_Event_weight, n_Event_depth, n_Event_text⟩
  have pk_Event : PtK K (He.ga K "Part") (He.ga K "Event") := ⟨fl_Event, of_decide_eq_true (all_at ck 1), isB_ok cls_Event (all_at ci 1)⟩
  have kd_Event : ∃ u, Con K (He.ga K "Event") "KIND" (.str "event") u := conB_ok (by decide +kernel) (all_at cn 1)
  have fl_Choice : Fl3 K (He.ga K "Choice") := ⟨cls_Choice, n_Choice_weight, n_Choice_depth, n_Choice_text⟩
  have pk_Choice : PtK K (He.ga K "Part") (He.ga K "Choice") := ⟨fl_Choice, of_decide_eq_true (all_at ck 2), isB_ok cls_Choice (all_at ci 2)⟩
  have kd_Choice : ∃ u, Con K (He.ga K "Choice") "KIND" (.str "choice") u := conB_ok (by decide +kernel) (all_at cn 2)
  have fl_Rounds : Fl3 K (He.ga K "Rounds") := ⟨cls_Rounds, n_Rounds_weight, n_Rounds_depth, n_Rounds_text⟩
  have pk_Rounds : PtK K (He.ga K "Part") (He.ga K "Rounds") := ⟨fl_Rounds, of_decide_eq_true (all_at ck 3), isB_ok cls_Rounds (all_at ci 3)⟩
  have kd_Rounds : ∃ u, Con K (He.ga K "Rounds") "KIND" (.str "rounds") u := conB_ok (by decide +kernel) (all_at cn 3)
  have fl_Endless : Fl3 K (He.ga K "Endless") := ⟨cls_Endless, n_Endless_weight, n_Endless_depth, n_Endless_text⟩
  have pk_Endless : PtK K (He.ga K "Part") (He.ga K "Endless") := ⟨fl_Endless, of_decide_eq_true (all_at ck 4), isB_ok cls_Endless (all_at ci 4)⟩
  have kd_Endless : ∃ u, Con K (He.ga K "Endless") "KIND" (.str "endless") u := conB_ok (by decide +kernel) (all_at cn 4)
  have fl_Times : Fl3 K (He.ga K "Times") := ⟨cls_Times, n_Times_weight, n_Times_depth, n_Times_text⟩
  have pk_Times : PtK K (He.ga K "Part") (He.ga K "Times") := ⟨fl_Times, of_decide_eq_true (all_at ck 5), isB_ok cls_Times (all_at ci 5)⟩
  have kd_Times : ∃ u, Con K (He.ga K "Times") "KIND" (.str "times") u := conB_ok (by decide +kernel) (all_at cn 5)
  obtain ⟨ad1, ad2, ad3⟩ := spB_ok (all_at cx 8)
  obtain ⟨ln1, ln2, ln3⟩ := spB_ok (all_at cx 9)
  have sfP := all_at cx 10
  have pw : PtW K (kk K) := ⟨n_Transfer_text, n_Event_text, n_Choice_text, n_Rounds_text, n_Endless_text, n_Times_text, n_Transfer_weight, n_Event_weight, n_Choice_weight, n_Rounds_weight, n_Endless_weight, n_Times_weight⟩
  have pts : PtsK K (He.ga K "Part") (kk K) := ⟨pk_Transfer, pk_Event, pk_Choice, pk_Rounds, pk_Endless, pk_Times⟩
  have paK : PaK K (kk K).P := ⟨isP, ⟨cls_Pact, n_Pact_weight, n_Pact_depth, n_Pact_text⟩, n_Pact_parts⟩
  have pa : PtA K (kk K) := ⟨cls_Transfer, n_Transfer_payer, n_Transfer_payee, n_Transfer_amount, cls_Event, cls_Choice, n_Choice_owner, n_Choice_options, cls_Rounds, n_Rounds_owner, n_Rounds_body, cls_Endless, n_Endless_body, cls_Times, n_Times_count, n_Times_body, cls_Pact, n_Pact_parts, kd_Transfer, kd_Event, kd_Choice, kd_Rounds, kd_Endless, kd_Times, n_Transfer_text, n_Event_text⟩
  have g_AMT : mg "MOST_AMOUNT" = some (.int (10 ^ 60) tok_MOST_AMOUNT) := by
    rw [g_MOST_AMOUNT, show (10 : Int) ^ 60 = 1000000000000000000000000000000000000000000000000000000000000 by decide +kernel]
  have e := hfa.symm.trans g_law
  cases e
  have b := FunD.bindsA (ps := ["_law_script"]) F_law fun _ _ _ _ _ _ us hl => match us, hl with | [_], _ => rfl
  refine ⟨fd_law, fun s v => b s [v] rfl, fun base _ _ => ?_⟩
  have c_cell : Cal P w K mg base 1 "_law_cell" (spCell K) := cal_of F_cell g_cell b_cell (ok_cell F_cell m_len m_int)
  have c_draws : Cal P w K mg base 1 "_law_draws" spDraws := cal_of F_draws g_draws b_draws (ok_draws F_draws m_int m_abs m_range)
  have c_take : Cal P w K mg base 1 "_law_take" (spTake K) := cal_of F_take g_take b_take (ok_take F_take m_len)
  have c_is_party : Cal P w K mg base 1 "is_party" spIsP := cal_of F_is_party g_is_party b_is_party (ok_is_party F_is_party m_len tok_PARTIES g_PARTIES)
  have c_is_mark : Cal P w K mg base 1 "is_mark" spIsM := cal_of F_is_mark g_is_mark b_is_mark (ok_is_mark F_is_mark m_len tok_MARKS g_MARKS)
  have c_check_party : CalX P w K mg base 3 "check_party" (spChP (He.ga K "BadParty")) := ⟨_, _, _, ok_check_party F_check_party c_is_party (x_BadParty base), g_check_party, F_check_party.kp, b_check_party⟩
  have c_check_mark : CalX P w K mg base 3 "check_mark" spChM := ⟨_, _, _, ok_check_mark F_check_mark c_is_mark, g_check_mark, F_check_mark.kp, b_check_mark⟩
  have c_check_size : CalX P w K mg base 3 "check_size" spSize := ⟨_, _, _, ok_check_size F_check_size tok_MOST_WEIGHT g_MOST_WEIGHT tok_MOST_DEPTH g_MOST_DEPTH, g_check_size, F_check_size.kp, b_check_size⟩
  have FB : FnB P w K mg base (He.ma K (He.ga K "Part") "__init__") := fnr_okX (ok_part F_Part___init__ c_check_size) b_Part___init__
  have c_as_pact : CalX P w K mg base 1 "as_pact" (spAsP (kk K) K) := ⟨_, _, _, ok_as_pact F_as_pact m_isinstance paK g_Pact, g_as_pact, F_as_pact.kp, b_as_pact⟩
  have y_Transfer : MakY P w K mg base 5 "Transfer" (spT (kk K) K) := mk_T ⟨_, _, _, mk_Transfer, ok_tinit SI_Transfer FB m_super fl_Transfer n_Transfer_payer n_Transfer_payee n_Transfer_amount tok_MOST_AMOUNT g_AMT c_check_party, g_Transfer, b_Transfer___init__⟩
  have y_Event : MakY P w K mg base 5 "Event" (spE (kk K) K) := mk_E ⟨_, _, _, mk_Event, ok_einit SI_Event FB m_super fl_Event n_Event_mark c_check_mark, g_Event, b_Event___init__⟩
  have y_Choice : MakY P w K mg base 5 "Choice" (spC (kk K) K) := mk_C ⟨_, _, _, mk_Choice, ok_cinit SI_Choice FB m_super m_len m_tuple m_sum m_max tok_MOST_OPTIONS g_MOST_OPTIONS fl_Choice n_Choice_owner n_Choice_options paK c_check_party c_as_pact, g_Choice, b_Choice___init__⟩
  have y_Rounds : MakY P w K mg base 5 "Rounds" (spR (kk K) K) := mk_R ⟨_, _, _, mk_Rounds, ok_rinit SI_Rounds FB m_super fl_Rounds n_Rounds_owner n_Rounds_body paK c_check_party c_as_pact, g_Rounds, b_Rounds___init__⟩
  have y_Endless : MakY P w K mg base 5 "Endless" (spN (kk K) K) := mk_N ⟨_, _, _, mk_Endless, ok_ninit SI_Endless FB m_super fl_Endless n_Endless_body paK c_as_pact, g_Endless, b_Endless___init__⟩
  have y_Times : MakY P w K mg base 5 "Times" (spM (kk K) K) := mk_M ⟨_, _, _, mk_Times, ok_timesinit SI_Times FB m_super m_max tok_MOST_COUNT g_MOST_COUNT fl_Times n_Times_count n_Times_body paK c_as_pact, g_Times, b_Times___init__⟩
  have y_Pact : MakY P w K mg base 4 "Pact" (spP (kk K) K) := mk_P ⟨_, _, _, mk_Pact, ok_pinit F_Pact___init__ m_len m_tuple m_sum m_max m_isinstance g_Part paK pts c_check_size, g_Pact, b_Pact___init__⟩
  have c_members_of : Cal P w K mg base 1 "members_of" (spMo (kk K) K) := cal_of F_members_of g_members_of b_members_of (ok_members_of F_members_of pa)
  have c_mover_of : Cal P w K mg base 1 "mover_of" (spMv (kk K) K) := cal_of F_mover_of g_mover_of b_mover_of (ok_mover_of F_mover_of pa)
  have c_opened : Cal P w K mg base 7 "opened" (spOp (kk K) K) := cal_of F_opened g_opened b_opened (ok_opened F_opened pa y_Times c_members_of)
  have c_chosen : Cal P w K mg base 2 "chosen" (spCh (kk K) K) := cal_of F_chosen g_chosen b_chosen (ok_chosen F_chosen pa c_members_of)
  have c_move_for : Cal P w K mg base 1 "move_for" (spMf (kk K) K) := cal_of F_move_for g_move_for b_move_for (ok_move_for F_move_for pa)
  have c_number_in : Cal P w K mg base 2 "number_in" (spNi (kk K) K) := cal_of F_number_in g_number_in b_number_in (ok_number_in F_number_in pa m_isinstance m_tuple m_int m_len c_move_for)
  have me_end_rounds : Met P w K mg base 1 (He.ga K "Play") "end_rounds" (spEr (He.ga K "Play") (kk K) K) := ⟨_, _, _, cls_Play, me_Play_end_rounds, ok_end_rounds F_Play_end_rounds pa py, b_Play_end_rounds⟩
  have me_carry_out : Met P w K mg base 8 (He.ga K "Play") "carry_out" (spCa (He.ga K "Play") (kk K) K) := ⟨_, _, _, cls_Play, me_Play_carry_out, ok_carry_out F_Play_carry_out pa py m_dict c_opened, b_Play_carry_out⟩
  have me_settle : Met P w K mg base 9 (He.ga K "Play") "settle" (spSt (He.ga K "Play") (kk K) K) := ⟨_, _, _, cls_Play, me_Play_settle, ok_settle F_Play_settle pa py m_len c_mover_of me_end_rounds me_carry_out, b_Play_settle⟩
  have me_move : Met P w K mg base 10 (He.ga K "Play") "move" (spMve (He.ga K "Play") (kk K) K) := ⟨_, _, _, cls_Play, me_Play_move, ok_move F_Play_move pa py c_number_in c_chosen me_end_rounds me_settle, b_Play_move⟩
  have me_purses : Met P w K mg base 1 (He.ga K "Play") "purses" (spPu (He.ga K "Play") (kk K) K) := ⟨_, _, _, cls_Play, me_Play_purses, ok_purses F_Play_purses py m_dict, b_Play_purses⟩
  have me_happened : Met P w K mg base 1 (He.ga K "Play") "happened" (spHa (He.ga K "Play") (kk K) K) := ⟨_, _, _, cls_Play, me_Play_happened, ok_happened F_Play_happened py m_tuple, b_Play_happened⟩
  have me_row : Met P w K mg base 1 (He.ga K "Play") "row" (spRo (He.ga K "Play") (kk K) K) := ⟨_, _, _, cls_Play, me_Play_row, ok_row F_Play_row py m_tuple, b_Play_row⟩
  have me_moves : Met P w K mg base 1 (He.ga K "Play") "moves" (spMs (He.ga K "Play") (kk K) K) := ⟨_, _, _, cls_Play, me_Play_moves, ok_moves F_Play_moves py m_tuple, b_Play_moves⟩
  have me_coins : Met P w K mg base 4 (He.ga K "Play") "coins" (spCo (He.ga K "Play") (kk K) K) := ⟨_, _, _, cls_Play, me_Play_coins, ok_coins F_Play_coins py c_check_party, b_Play_coins⟩
  have pp_turn : PrpO P w K mg base 2 (He.ga K "Play") "turn" (spTu (He.ga K "Play") (kk K) K) := ⟨_, _, _, _, cls_Play, p_Play_turn, ok_turn F_Play_turn py c_mover_of, b_Play_turn⟩
  have pp_outcome : PrpO P w K mg base 1 (He.ga K "Play") "outcome" (spOu (He.ga K "Play") (kk K) K) := ⟨_, _, _, _, cls_Play, p_Play_outcome, ok_outcome F_Play_outcome py, b_Play_outcome⟩
  have pp_loser : PrpO P w K mg base 1 (He.ga K "Play") "loser" (spLo (He.ga K "Play") (kk K) K) := ⟨_, _, _, _, cls_Play, p_Play_loser, ok_loser F_Play_loser py, b_Play_loser⟩
  have c_check_purses : Cal P w K mg base 4 "check_purses" (spCp K) := cal_of F_check_purses g_check_purses b_check_purses (ok_check_purses F_check_purses m_list c_check_party)
  have c_check_named : Cal P w K mg base 1 "check_named" (spCn (kk K) K) := cal_of F_check_named g_check_named b_check_named (ok_check_named F_check_named cls_Pact n_Pact_text g_PARTIES)
  have k_Play : Mak P w K mg base 10 "Play" (spNp (He.ga K "Play") (kk K) K) := mak_play (si := ok_pinit2 F_Play___init__ pa py m_dict c_as_pact c_check_purses c_check_named c_members_of me_settle) mk_Play g_Play b_Play___init__
  have c_amount : Cal P w K mg base 1 "_law_amount" (spAm) := cal_of F_amount g_amount b_amount (ok_amount F_amount m_int m_range)
  have c_pact3 := all_pact F_pact g_pact b_pact F_part g_part b_part m_int m_len m_range c_take c_amount 3
  have c_pact := all_pact F_pact g_pact b_pact F_part g_part b_part m_int m_len m_range c_take c_amount 4
  have c_part : Cal P w K mg base (2 * 3 + 7) "_law_part" (spPp K 3) := cal_of F_part g_part b_part (ok_part_ F_part m_int m_len m_range c_take c_amount c_pact3)
  have c_weight : Cal P w K mg base (2 * 5 + 6) "_law_weight" (spWl 5) := all_weight F_weight g_weight b_weight F_part_weight g_part_weight b_part_weight m_sum m_max 5
  have c_part_weight : Cal P w K mg base (2 * 5 + 7) "_law_part_weight" (spWp 5) := cal_of F_part_weight g_part_weight b_part_weight (ok_part_weight F_part_weight m_sum m_max c_weight)
  have c_cut : Cal P w K mg base (2 * 5 + 8) "_law_cut" (spCut 5) := cal_of F_cut g_cut b_cut (ok_cut F_cut c_weight c_part_weight)
  have c_build := all_build F_build g_build b_build F_build_part g_build_part b_build_part y_Pact y_Transfer y_Event y_Choice y_Rounds y_Endless y_Times 7
  have c_weight7 : Cal P w K mg base (2 * 7 + 6) "_law_weight" (spWl 7) := all_weight F_weight g_weight b_weight F_part_weight g_part_weight b_part_weight m_sum m_max 7
  have c_weight30 : Cal P w K mg base (2 * 30 + 6) "_law_weight" (spWl 30) := all_weight F_weight g_weight b_weight F_part_weight g_part_weight b_part_weight m_sum m_max 30
  have c_part_weight30 : Cal P w K mg base (2 * 30 + 7) "_law_part_weight" (spWp 30) := cal_of F_part_weight g_part_weight b_part_weight (ok_part_weight F_part_weight m_sum m_max c_weight30)
  have c_text1 : Cal P w K mg base (2 * 1 + 6) "_law_text" (spTl 1) := all_text F_text g_text b_text F_part_text g_part_text b_part_text m_len m_str 1
  have c_text7 : Cal P w K mg base (2 * 7 + 6) "_law_text" (spTl 7) := all_text F_text g_text b_text F_part_text g_part_text b_part_text m_len m_str 7
  have c_text30 : Cal P w K mg base (2 * 30 + 6) "_law_text" (spTl 30) := all_text F_text g_text b_text F_part_text g_part_text b_part_text m_len m_str 30
  have c_part_text1 : Cal P w K mg base 9 "_law_part_text" (spTp 1) := cal_of F_part_text g_part_text b_part_text (ok_part_text F_part_text m_str c_text1)
  have c_part_text30 : Cal P w K mg base (2 * 30 + 7) "_law_part_text" (spTp 30) := cal_of F_part_text g_part_text b_part_text (ok_part_text F_part_text m_str c_text30)
  have c_marks : Cal P w K mg base 1 "_law_marks" (spMk_) := cal_of F_marks g_marks b_marks (ok_marks F_marks)
  have c_is : Cal P w K mg base 1 "_law_is" (spIs) := cal_of F_is g_is b_is (ok_is F_is m_isinstance m_int m_bool)
  have c_says : Cal P w K mg base 1 "_law_says" (spSays) := cal_of F_says g_says b_says (ok_says F_says m_isinstance m_str)
  have c_names : Cal P w K mg base 2 "_law_names" (spNa) := cal_of F_names g_names b_names (ok_names F_names m_int m_len m_range c_draws)
  have c_coins : Cal P w K mg base 1 "_law_coins" (spCi) := cal_of F_coins g_coins b_coins (ok_coins_ F_coins m_int)
  have c_purses : Cal P w K mg base 2 "_law_purses" (spPs K) := cal_of F_purses g_purses b_purses (ok_purses_ F_purses m_int m_range c_coins)
  have c_drawn : Cal P w K mg base (2 * 5 + 9) "_law_drawn" (spDn K) := cal_of F_drawn g_drawn b_drawn (ok_drawn F_drawn m_int m_len m_range c_cell c_draws c_marks c_pact c_part c_cut)
  have c_members : Cal P w K mg base 1 "_law_members" spLm := cal_of F_members g_members b_members (ok_lmembers F_members)
  have c_over : Cal P w K mg base 1 "_law_over" spOv := cal_of F_over g_over b_over (ok_over F_over)
  have c_move : Cal P w K mg base 1 "_law_move" spLmv := cal_of F_move g_move b_move (ok_lmove F_move)
  have c_number : Cal P w K mg base 1 "_law_number" spLnu := cal_of F_number g_number b_number (ok_lnumber F_number m_int m_len)
  have c_settled : Cal P w K mg base 10 "_law_settled" spSe := cal_of F_settled g_settled b_settled (ok_settled F_settled m_range m_len c_members c_part_text1)
  have c_moved : Cal P w K mg base 2 "_law_moved" spMd := cal_of F_moved g_moved b_moved (ok_moved F_moved c_members)
  have c_step : Cal P w K mg base 11 "_law_step" spSp := cal_of F_step g_step b_step (ok_step F_step c_moved c_settled)
  have c_row : Cal P w K mg base (2 * 30 + 8) "_law_row" (spLr (kk K) K) := cal_of F_row g_row b_row (ok_lrow F_row pa pw m_isinstance m_tuple m_len m_range c_is c_says c_part_text30 c_part_weight30)
  have c_texts : Cal P w K mg base 2 "_law_texts" spLt2 := cal_of F_texts g_texts b_texts (ok_ltexts F_texts m_isinstance m_tuple m_len m_range m_all c_says)
  have c_moves : Cal P w K mg base 2 "_law_moves" spLm2 := cal_of F_moves g_moves b_moves (ok_lmoves F_moves m_isinstance m_tuple m_len m_range c_is c_says)
  have c_rich : Cal P w K mg base 5 "_law_rich" (spRi (He.ga K "Play") (kk K) K) := cal_of F_rich g_rich b_rich (ok_rich F_rich py m_isinstance m_dict me_purses me_coins c_is)
  have c_stands : Cal P w K mg base (2 * 30 + 9) "_law_stands" (spSd (He.ga K "Play") (kk K) K) := cal_of F_stands g_stands b_stands (ok_stands F_stands pp_outcome pp_loser pp_turn me_row me_happened me_moves c_over c_says c_row c_rich c_texts c_moves)
  have c_right : Cal P w K mg base (2 * 30 + 10) "_law_right" (spRg (He.ga K "Play") (kk K) K) := cal_of F_right g_right b_right (ok_right F_right c_stands)
  have c_go : Cal P w K mg base 12 "_law_go" (spGo7 (He.ga K "Play") (kk K) K) := cal_of F_go g_go b_go (ok_go F_go me_move c_number c_move c_step)
  have c_game : Cal P w K mg base 12 "_law_game" (spGm (He.ga K "Play") (kk K) K) := cal_of F_game g_game b_game (ok_game F_game m_dict k_Play c_members c_settled)
  have o_add : Bin2 P w K mg base 6 (kk K).P "__add__" (spAd (kk K) K) := ⟨_, _, _, ok_add F_Pact___add__ pa y_Pact c_as_pact, ad1, ad2, b_Pact___add__, sfP⟩
  have l_Pact : LenO P w K mg base 1 (kk K).P (spLn (kk K) K) := ⟨_, _, _, ok_plen F_Pact___len__ pa m_len, ln1, ln2, b_Pact___len__⟩
  exact ok_law F_law pa m_int m_abs m_len m_range n_Pact_text c_cell c_draws c_names c_drawn c_purses c_build c_weight7 c_text7 c_is c_says c_over o_add l_Pact c_game c_right c_go
end Z
open PySem PySem.W PySem.Calls PyProof.Rows
theorem PySem.Challenge.cw_signedpacts_k27_play_steps_holds : PySem.Challenge.rw_signedpacts_k27_play_steps.Holds := by
  w_on; o_law
  refine HandSHeadRun.head_any (r := OpenLaw.row PySem.Challenge.rw_signedpacts_k27_play_steps) (q := view (OpenLaw.row PySem.Challenge.rw_signedpacts_k27_play_steps).prog [82]) (H := Zr.hk) (ob := Zr.ob) (M := 8000) (loose := Zr.loose) (d := HandSHeadRun.topDef (OpenLaw.row PySem.Challenge.rw_signedpacts_k27_play_steps).prog 82) (kwd := []) Zr.ob_eq
    (by kernel_rfl) (fun s => by kernel_rfl) Zr.run (by kernel_rfl) (by kernel_rfl) (by kernel_rfl) (by rfl) (by first | assumption | decide +kernel) (by decide +kernel) ⟨rfl, rfl, rfl, rfl, rfl, by decide +kernel⟩ ?hw ?hc
  case hw => w_witness2
  case hc =>
    refine L2.walk_ofE (l := PySem.Challenge.rw_signedpacts_k27_play_steps) (n := 63) (k := 80) (x := "_law_script") (CX := L2.CX0) rfl (by decide) (by kernel_rfl) ⟨rfl, by decide, by decide⟩ ?F (fun _ _ _ _ z => z)
    intro w mg fa h Y G hmg0
    obtain ⟨K, KX, c, cs, cx⟩ := Y
    have hmg : mg ("law" : PySem.Str) = some (.ref fa) := by
      have e : (HandSHeadRun.topDef (OpenLaw.row PySem.Challenge.rw_signedpacts_k27_play_steps).prog 82).name = ("law" : PySem.Str) := by kernel_rfl
      rw [← e]
      exact hmg0
    obtain ⟨fd, hb, hF⟩ := Z.facts (P := (PySem.Challenge.rw_signedpacts_k27_play_steps).prog) (w := w) KX G hmg c cs cx (by kernel_rfl) (by kernel_rfl)
    exact ⟨K, fd, Z.spLaw K, KX, hb, fun H a ns hl _ hS => ⟨a, ns, rfl, hS, fun _ => rfl⟩, hF⟩
